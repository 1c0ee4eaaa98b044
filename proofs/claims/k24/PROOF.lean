import PyProof.Rows.All
import Wide.All
import OpenK.AllK
import Wide.FinOn
import KE.KStateDown
import HandS.ForMost
import HandS.Defaults
import HandS.Head2
import HandS.HeadEnd
import HandS.HeadHook2
import HandS.Wide
import HandS.IsInst
import HandS.Star
import HandS.Evl
import HandS.TryOnly
import HandS.ExcOwn
import HandS.WordsExc
import HandS.Zip
import HandS.Rev
import HandS.TupAny
import HandS.Style
import HandS.Steps
import KE.GoesEnum
import PySem.Challenge.RW_restchains_k24_periods_looked_at
import HandS.Base
import HandS.Lambda
import HandS.More
import HandS.ExcInit
import HandS.ExcSuper
import HandS.ExcIs
import HandS.ExcField
import HandS.Nested
import KE.KExcSuper
import HandS.ExcValue
import KE.KIsAll
import KE.KTryMore
import HandS.EndTab
import PyProof.ReprRoads
import HandS.HeadNt
import HandS.HeadHook4
import HandS.Property
import HandS.SlotsOwn
import HandS.TupMul
import HandS.IterVal
import KE.KOwnIter
import HandS.Conv
import HandS.FStr
import HandS.Text
import KE.KCallOwn
import PyProof.FitsInt
import HandS.ClsMeth
import KE.GoesNew
import HandS.OwnEq
import HandS.MakeKwOnly
import HandS.Small
import HandS.HeadHook3
import HandS.HeadWalk
import HandS.WideBits
import HandS.Flow
import PyProof.StrBlock2
import HandS.Exc
import HandS.Comp
import PyProof.Conv_bool
import HandS.DictComp
import HandS.SortInts
import HandS.Iter
import HandS.DictSubView0
import PyProof.EqKinds
import PyProof.NeKinds
import KE.KRevSl
import HandS.Records
import HandS.GenList
import HandS.Deep
import HandS.TupLe
import PyProof.IsiBase
import PyProof.IsiH_set
import PyProof.FactsAll.object_1
import PyProof.StrLawsRepr
set_option Elab.async false
set_option linter.all false
set_option maxRecDepth 100000
namespace G
open PySem PySem.Spec PyProof.Rows L2
/-- sys.modules stands in the fragment, and is no list -/
def SysK (K : PySem.W.Frag) : Prop := ∃ o, K.lookup sysModules = some o ∧ o.cls ≠ .type "list"
def sysB (K : PySem.W.Frag) : Bool := match K.lookup sysModules with
  | some o => !(o.cls == .type "list")
  | none => false
theorem sysk_of {K : PySem.W.Frag} (h : sysB K = true) : SysK K := by
  unfold sysB at h
  cases e : K.lookup sysModules with
  | none =>
    rw [e] at h
    cases h
  | some o =>
    rw [e] at h
    have h : (!(o.cls == .type "list")) = true := h
    refine ⟨o, e, fun z => ?_⟩
    rw [z] at h
    exact absurd h (by decide)
end G

set_option Elab.async false
set_option linter.all false
set_option maxRecDepth 100000
set_option maxHeartbeats 4000000
namespace G
open PySem PySem.Spec PyProof.Rows L2

inductive D where
  | non | bl (b : Bool) | int (i : Int) | str (x : Str) | ty (n : String) | ref (a : Addr)
  | lst (xs : List D) | tup (xs : List D) | ins (C : Addr) (fs : List (Str × D)) | dic (kvs : List (Key × D)) | scr (ns : List Int) | exc (C : Addr) (fs : List (Str × D)) | ext (R : Hp → Addr → Prop)
/-- a slot, a value: plain data, or the i-th thing that is owned, or unknown -/
inductive T where
  | v (d : D) | own (i : Nat) | no | clo (R : Hp → List Addr → Prop) (f : Addr)
/-- what an owned thing holds -/
inductive OD where
  | lst (xs : List D) | ins (C : Addr) (fs : List (Str × D)) | dic (kvs : List (Key × D)) | gone

/-- at a: an exception that was caught, of the class C, its dict at d -/
def excH (a C : Addr) (d : Option Addr) : HO := .ext fun h => ∃ oe : Obj, h.get? a = some oe ∧ oe.cls = .ref C ∧ oe.dict = d ∧ ∃ vs, oe.data = .fields vs
/-- no table of code objects -/
def NT (o : HO) : Prop := ∀ ps, o ≠ .tbl ps
/-- all but the tables stay -/
def Ex (H H' : Hp) : Prop := ∀ a o, H a = some o → NT o → H' a = some o
theorem Ex.of {H H' : Hp} (e : ∀ a o, H a = some o → H' a = some o) : Ex H H' := fun a o h _ => e a o h
theorem Ex.refl (H : Hp) : Ex H H := fun _ _ h _ => h
theorem Ex.trans {H H1 H2 : Hp} (a : Ex H H1) (b : Ex H1 H2) : Ex H H2 := fun x o h n => b x o (a x o h n) n
mutual
def Rep (K : PySem.W.Frag) (H : Hp) : D → V → Prop
  | .non, v => v = .non
  | .bl b, v => v = .bl b
  | .int i, v => v = .int i
  | .str x, v => v = .str x
  | .ty n, v => v = .ty n
  | .ref a, v => v = .ref a
  | .lst ds, v => ∃ a vs, v = .ref a ∧ H a = some (.lst vs) ∧ RepL K H ds vs
  | .scr ns, v => ∃ a, v = .ref a ∧ SqL K H a (ns.map V.int)
  | .ext R, v => ∃ a H0, v = .ref a ∧ Ex H0 H ∧ R H0 a
  | .exc C fs, v => ∃ a d vs, v = .ref a ∧ H a = some (excH a C (some d)) ∧ H d = some (.xd vs) ∧ RepF K H fs vs
  | .tup ds, v => ∃ a vs, v = .ref a ∧ SqT K H a vs ∧ RepL K H ds vs
  | .ins C fs, v => ∃ a dx vs, v = .ref a ∧ H a = some (.ins C dx vs) ∧ RepF K H fs vs
  | .dic kvs, v => ∃ a ws, v = .ref a ∧ H a = some (.dK ws) ∧ RepK K H kvs ws
def RepL (K : PySem.W.Frag) (H : Hp) : List D → List V → Prop
  | [], vs => vs = []
  | d :: ds, vs => ∃ v r, vs = v :: r ∧ Rep K H d v ∧ RepL K H ds r
def RepF (K : PySem.W.Frag) (H : Hp) : List (Str × D) → List (Str × V) → Prop
  | [], vs => vs = []
  | p :: ds, vs => ∃ v r, vs = (p.1, v) :: r ∧ Rep K H p.2 v ∧ RepF K H ds r
def RepK (K : PySem.W.Frag) (H : Hp) : List (Key × D) → List (Key × V) → Prop
  | [], vs => vs = []
  | p :: ds, vs => ∃ v r, vs = (p.1, v) :: r ∧ Rep K H p.2 v ∧ RepK K H ds r
end

theorem nt_exc {a C : Addr} {d : Option Addr} : NT (excH a C d) := fun _ z => by
  unfold excH at z
  cases z
/-- neither a table nor a code object -/
def OB (o : HO) : Prop := NT o ∧ ∀ c q, o ≠ LamX.CodeO c q
theorem ob_of {o : HO} (n : NT o) (h : ∀ P, o ≠ .ext P) : OB o := ⟨n, fun c q z => by
  unfold LamX.CodeO at z
  exact h _ z⟩
theorem ob_lst {vs : List V} : OB (.lst vs) := ob_of (fun _ z => by cases z) fun _ z => by cases z
theorem ob_ins {C dx : Addr} {vs : List (Str × V)} : OB (.ins C dx vs) := ob_of (fun _ z => by cases z) fun _ z => by cases z
theorem ob_dK {vs : List (Key × V)} : OB (.dK vs) := ob_of (fun _ z => by cases z) fun _ z => by cases z
theorem Ex.l {K : PySem.W.Frag} {H H' : Hp} {a : Addr} {xs : List V} (e : Ex H H') (h : SqL K H a xs) : SqL K H' a xs := by
  rcases h with (h | ⟨o, h⟩) | h
  · exact .inl (.inl (e _ _ h (by (first | assumption | exact nt_exc | exact fun _ z => (by cases z)))))
  · exact .inl (.inr ⟨o, e _ _ h (by (first | assumption | exact nt_exc | exact fun _ z => (by cases z)))⟩)
  · exact .inr h
theorem Ex.t {K : PySem.W.Frag} {H H' : Hp} {a : Addr} {xs : List V} (e : Ex H H') (h : SqT K H a xs) : SqT K H' a xs := by
  rcases h with (h | ⟨o, h⟩) | h
  · exact .inl (.inl (e _ _ h (by (first | assumption | exact nt_exc | exact fun _ z => (by cases z)))))
  · exact .inl (.inr ⟨o, e _ _ h (by (first | assumption | exact nt_exc | exact fun _ z => (by cases z)))⟩)
  · exact .inr h
/-- the code objects that the written part has, their tables where these are not in it, the names of the code objects that they will tell -/
def csT (K : PySem.W.Frag) : List ((Addr × Addr) × Str) := K.filterMap fun p => match p.2 with
  | ⟨.type c, _, .fields vs, _⟩ => if c = "code" then (match (vs[11]? : Option Value), (vs[1]? : Option Value) with
    | some (.ref P), some (.str n _) => if (K.lookup P).isNone then some ((p.1, P), n ++ (".<locals>." : Str) ++ ("<lambda>" : Str)) else none
    | _, _ => none) else none
  | _ => none
def tabT (K : PySem.W.Frag) : List (Addr × Str) := (csT K).map fun q => (q.1.2, q.2)
/-- every one of them is in order -/
def TabsK (K : PySem.W.Frag) (H : Hp) : Prop := LamX.Tabs (tabT K) H
theorem TabsK.ext {K : PySem.W.Frag} {H H' : Hp} (t : TabsK K H) (e : ∀ b o, H b = some o → H' b = some o) : TabsK K H' := LamX.Tabs.ext t e
/-- an object that is neither a table nor a code object changes -/
theorem TabsK.upd {K : PySem.W.Frag} {H : Hp} {a : Addr} {o : HO} (t : TabsK K H) (h : H a = some o) (n : NT o) (nc : ∀ c q, o ≠ LamX.CodeO c q) (w : HO) : TabsK K (upd H a w) := fun p hp => by
  obtain ⟨ps, h1, h2, h3⟩ := t p hp
  refine ⟨ps, ?_, h2, fun pos cv hc => ?_⟩
  · rw [upd_ne (fun z => by rw [z, h] at h1; exact n ps (Option.some.inj h1))]
    exact h1
  · obtain ⟨c, e1, e2⟩ := h3 pos cv hc
    refine ⟨c, e1, ?_⟩
    rw [upd_ne (fun z => by rw [z, h] at e2; exact nc _ _ (Option.some.inj e2))]
    exact e2

mutual
theorem Rep.ex {K : PySem.W.Frag} {H H' : Hp} (e : Ex H H') : ∀ (d : D) {v : V}, Rep K H d v → Rep K H' d v
  | .non, _, h => h
  | .bl _, _, h => h
  | .int _, _, h => h
  | .str _, _, h => h
  | .ty _, _, h => h
  | .ref _, _, h => h
  | .lst ds, _, h => by
    obtain ⟨a, vs, e1, h1, h2⟩ := h
    exact ⟨a, vs, e1, e _ _ h1 (by (first | assumption | exact nt_exc | exact fun _ z => (by cases z))), RepL.ex e ds h2⟩
  | .ext R, _, h => by
    obtain ⟨a, H0, e1, e0, r⟩ := h
    exact ⟨a, H0, e1, e0.trans e, r⟩
  | .scr ns, _, h => by
    obtain ⟨a, e1, h1⟩ := h
    exact ⟨a, e1, e.l h1⟩
  | .exc C fs, _, h => by
    obtain ⟨a, d, vs, e1, h1, h2, h3⟩ := h
    exact ⟨a, d, vs, e1, e _ _ h1 (by (first | assumption | exact nt_exc | exact fun _ z => (by cases z))), e _ _ h2 (by (first | assumption | exact nt_exc | exact fun _ z => (by cases z))), RepF.ex e fs h3⟩
  | .tup ds, _, h => by
    obtain ⟨a, vs, e1, h1, h2⟩ := h
    exact ⟨a, vs, e1, e.t h1, RepL.ex e ds h2⟩
  | .ins C fs, _, h => by
    obtain ⟨a, dx, vs, e1, h1, h2⟩ := h
    exact ⟨a, dx, vs, e1, e _ _ h1 (by (first | assumption | exact nt_exc | exact fun _ z => (by cases z))), RepF.ex e fs h2⟩
  | .dic kvs, _, h => by
    obtain ⟨a, ws, e1, h1, h2⟩ := h
    exact ⟨a, ws, e1, e _ _ h1 (by (first | assumption | exact nt_exc | exact fun _ z => (by cases z))), RepK.ex e kvs h2⟩
theorem RepL.ex {K : PySem.W.Frag} {H H' : Hp} (e : Ex H H') : ∀ (ds : List D) {vs : List V}, RepL K H ds vs → RepL K H' ds vs
  | [], _, h => h
  | d :: ds, _, h => by
    obtain ⟨v, r, e1, h1, h2⟩ := h
    exact ⟨v, r, e1, Rep.ex e d h1, RepL.ex e ds h2⟩
theorem RepF.ex {K : PySem.W.Frag} {H H' : Hp} (e : Ex H H') : ∀ (ds : List (Str × D)) {vs : List (Str × V)}, RepF K H ds vs → RepF K H' ds vs
  | [], _, h => h
  | p :: ds, _, h => by
    obtain ⟨v, r, e1, h1, h2⟩ := h
    exact ⟨v, r, e1, Rep.ex e p.2 h1, RepF.ex e ds h2⟩
theorem RepK.ex {K : PySem.W.Frag} {H H' : Hp} (e : Ex H H') : ∀ (ds : List (Key × D)) {vs : List (Key × V)}, RepK K H ds vs → RepK K H' ds vs
  | [], _, h => h
  | p :: ds, _, h => by
    obtain ⟨v, r, e1, h1, h2⟩ := h
    exact ⟨v, r, e1, Rep.ex e p.2 h1, RepK.ex e ds h2⟩
end
theorem RepL.length {K : PySem.W.Frag} {H : Hp} : ∀ {ds : List D} {vs : List V}, RepL K H ds vs → vs.length = ds.length
  | [], _, h => by rw [show _ = [] from h] <;> rfl
  | d :: ds, _, h => by
    obtain ⟨v, r, e1, h1, h2⟩ := h
    rw [e1, List.length_cons, List.length_cons, RepL.length h2]
theorem RepL.get {K : PySem.W.Frag} {H : Hp} : ∀ {ds : List D} {vs : List V} {i : Nat} {d : D}, RepL K H ds vs → ds[i]? = some d → ∃ v, vs[i]? = some v ∧ Rep K H d v
  | [], _, _, _, _, h => by simp at h
  | d :: ds, _, 0, _, h, q => by
    obtain ⟨v, r, e1, h1, h2⟩ := h
    have e : d = _ := Option.some.inj q
    subst e e1
    exact ⟨v, rfl, h1⟩
  | d :: ds, _, i + 1, _, h, q => by
    obtain ⟨v, r, e1, h1, h2⟩ := h
    subst e1
    exact RepL.get (i := i) h2 q
theorem RepL.append {K : PySem.W.Frag} {H : Hp} : ∀ {ds es : List D} {vs ws : List V}, RepL K H ds vs → RepL K H es ws → RepL K H (ds ++ es) (vs ++ ws)
  | [], _, _, _, h, q => by
    rw [show _ = [] from h]
    exact q
  | d :: ds, _, _, _, h, q => by
    obtain ⟨v, r, e1, h1, h2⟩ := h
    subst e1
    exact ⟨v, _, rfl, h1, RepL.append h2 q⟩
theorem RepL.take {K : PySem.W.Frag} {H : Hp} : ∀ {ds : List D} {vs : List V} (n : Nat), RepL K H ds vs → RepL K H (ds.take n) (vs.take n)
  | ds, vs, 0, _ => by
    rw [List.take_zero, List.take_zero]
    exact rfl
  | [], _, n + 1, h => by
    rw [show _ = [] from h]
    exact rfl
  | d :: ds, _, n + 1, h => by
    obtain ⟨v, r, e1, h1, h2⟩ := h
    subst e1
    exact ⟨v, _, rfl, h1, RepL.take n h2⟩
theorem RepL.drop {K : PySem.W.Frag} {H : Hp} : ∀ {ds : List D} {vs : List V} (n : Nat), RepL K H ds vs → RepL K H (ds.drop n) (vs.drop n)
  | ds, vs, 0, h => h
  | [], _, n + 1, h => by
    rw [show _ = [] from h]
    exact rfl
  | d :: ds, _, n + 1, h => by
    obtain ⟨v, r, e1, h1, h2⟩ := h
    subst e1
    exact RepL.drop n h2
theorem RepL.set {K : PySem.W.Frag} {H : Hp} {e : D} {w : V} (q : Rep K H e w) : ∀ {ds : List D} {vs : List V} (n : Nat), RepL K H ds vs → RepL K H (ds.set n e) (vs.set n w)
  | [], _, n, h => by
    rw [show _ = [] from h]
    exact rfl
  | d :: ds, _, 0, h => by
    obtain ⟨v, r, e1, h1, h2⟩ := h
    subst e1
    exact ⟨w, _, rfl, q, h2⟩
  | d :: ds, _, n + 1, h => by
    obtain ⟨v, r, e1, h1, h2⟩ := h
    subst e1
    exact ⟨v, _, rfl, h1, RepL.set q n h2⟩
theorem RepF.look {K : PySem.W.Frag} {H : Hp} {f : Str} : ∀ {ds : List (Str × D)} {vs : List (Str × V)} {d : D}, RepF K H ds vs → ds.lookup f = some d → ∃ v, vs.lookup f = some v ∧ Rep K H d v
  | [], _, _, _, h => by cases h
  | p :: ds, _, d, h, q => by
    obtain ⟨v, r, e1, h1, h2⟩ := h
    subst e1
    rw [List.lookup_cons] at q ⊢
    cases e : (f == p.1) with
    | true =>
      rw [e] at q
      have e2 : p.2 = d := Option.some.inj q
      subst e2
      exact ⟨v, rfl, h1⟩
    | false =>
      rw [e] at q
      exact RepF.look h2 q
theorem RepF.none {K : PySem.W.Frag} {H : Hp} {f : Str} : ∀ {ds : List (Str × D)} {vs : List (Str × V)}, RepF K H ds vs → ds.lookup f = none → vs.lookup f = none
  | [], _, h, _ => by rw [show _ = [] from h] <;> rfl
  | p :: ds, _, h, q => by
    obtain ⟨v, r, e1, h1, h2⟩ := h
    subst e1
    rw [List.lookup_cons] at q ⊢
    cases e : (f == p.1) with
    | true =>
      rw [e] at q
      cases q
    | false =>
      rw [e] at q
      exact RepF.none h2 q
theorem RepF.length {K : PySem.W.Frag} {H : Hp} : ∀ {ds : List (Str × D)} {vs : List (Str × V)}, RepF K H ds vs → vs.length = ds.length
  | [], _, h => by rw [show _ = [] from h] <;> rfl
  | d :: ds, _, h => by
    obtain ⟨v, r, e1, h1, h2⟩ := h
    rw [e1, List.length_cons, List.length_cons, RepF.length h2]

structure Bs where
  B : Hp
  Z : List Addr
  A0 : List Addr
def live : List Addr → List OD → List Addr
  | _ :: A, .gone :: O => live A O
  | a :: A, _ :: O => a :: live A O
  | _, _ => []
def hid (L : List Addr) (H : Hp) : Hp := fun a => if a ∈ L then none else H a
theorem hid_some {L : List Addr} {H : Hp} {a : Addr} {o : HO} : hid L H a = some o ↔ a ∉ L ∧ H a = some o := by
  unfold hid
  by_cases h : a ∈ L
  · rw [if_pos h]
    exact ⟨fun z => (nomatch z), fun z => absurd h z.1⟩
  · rw [if_neg h]
    exact ⟨fun z => ⟨h, z⟩, fun z => z.2⟩
theorem hid_ex {L : List Addr} {H : Hp} : Ex (hid L H) H := fun _ _ h _ => (hid_some.mp h).2
theorem hid_mono {L M : List Addr} {H H' : Hp} (e : ∀ a o, a ∉ L → H a = some o → H' a = some o) (s : ∀ a o, a ∉ L → H a = some o → a ∉ M) : Ex (hid L H) (hid M H') := fun a o h _ => by
  obtain ⟨h1, h2⟩ := hid_some.mp h
  exact hid_some.mpr ⟨s a o h1 h2, e a o h1 h2⟩

theorem hid_monoW {L M : List Addr} {H H' : Hp} (e : ∀ a o, a ∉ L → H a = some o → NT o → H' a = some o) (s : ∀ a o, a ∉ L → H a = some o → a ∉ M) : Ex (hid L H) (hid M H') := fun a o h n => by
  obtain ⟨h1, h2⟩ := hid_some.mp h
  exact hid_some.mpr ⟨s a o h1 h2, e a o h1 h2 n⟩
def CellOk (K : PySem.W.Frag) (F H : Hp) (a : Addr) : OD → Prop
  | .lst ds => ∃ vs, H a = some (.lst vs) ∧ RepL K F ds vs
  | .ins C fs => ∃ dx vs, H a = some (.ins C dx vs) ∧ RepF K F fs vs
  | .dic kvs => ∃ ws, H a = some (.dK ws) ∧ RepK K F kvs ws
  | .gone => True
theorem CellOk.ex {K : PySem.W.Frag} {F F' H H' : Hp} {a : Addr} {o : OD} (e : Ex F F') (h : ∀ u, H a = some u → H' a = some u) (c : CellOk K F H a o) : CellOk K F' H' a o := by
  cases o with
  | lst ds =>
    obtain ⟨vs, h1, h2⟩ := c
    exact ⟨vs, h _ h1, h2.ex e⟩
  | ins C fs =>
    obtain ⟨dx, vs, h1, h2⟩ := c
    exact ⟨dx, vs, h _ h1, h2.ex e⟩
  | dic kvs =>
    obtain ⟨ws, h1, h2⟩ := c
    exact ⟨ws, h _ h1, h2.ex e⟩
  | gone => trivial
theorem CellOk.exW {K : PySem.W.Frag} {F F' H H' : Hp} {a : Addr} {o : OD} (e : Ex F F') (h : ∀ u, H a = some u → NT u → H' a = some u) (c : CellOk K F H a o) : CellOk K F' H' a o := by
  cases o with
  | lst ds =>
    obtain ⟨vs, h1, h2⟩ := c
    exact ⟨vs, h _ h1 (by (first | assumption | exact nt_exc | exact fun _ z => (by cases z))), h2.ex e⟩
  | ins C fs =>
    obtain ⟨dx, vs, h1, h2⟩ := c
    exact ⟨dx, vs, h _ h1 (by (first | assumption | exact nt_exc | exact fun _ z => (by cases z))), h2.ex e⟩
  | dic kvs =>
    obtain ⟨ws, h1, h2⟩ := c
    exact ⟨ws, h _ h1 (by (first | assumption | exact nt_exc | exact fun _ z => (by cases z))), h2.ex e⟩
  | gone => trivial
/-- what is frozen -/
def Fz (b : Bs) (A : List Addr) (O : List OD) (H : Hp) : Hp := hid (live A O ++ b.Z) H

structure StO (K : PySem.W.Frag) (b : Bs) (A : List Addr) (O : List OD) (H : Hp) : Prop where
  len : A.length = O.length
  pre : ∃ M, A = b.A0 ++ M
  ext : Ex b.B (hid (live A O) H)
  zs : ∀ z ∈ b.Z, ∃ o, b.B z = some o ∧ OB o
  nd : A.Nodup
  inh : ∀ a ∈ A, ∃ o, H a = some o ∧ NT o
  cell : ∀ (i : Nat) (a : Addr) (o : OD), A[i]? = some a → O[i]? = some o → CellOk K (Fz b A O H) H a o
  tb : TabsK K H

theorem live_mem : ∀ {A : List Addr} {O : List OD} {a : Addr}, a ∈ live A O → ∃ (i : Nat) (o : OD), A[i]? = some a ∧ O[i]? = some o ∧ o ≠ OD.gone
  | [], _, _, h => by simp [live] at h
  | _ :: _, [], _, h => by simp [live] at h
  | c :: A, o :: O, a, h => by
    have key : a ∈ live A O → ∃ (i : Nat) (o' : OD), (c :: A)[i]? = some a ∧ (o :: O)[i]? = some o' ∧ o' ≠ OD.gone := fun h => by
      obtain ⟨i, o', h1, h2, h3⟩ := live_mem h
      exact ⟨i + 1, o', h1, h2, h3⟩
    cases o with
    | gone => exact key h
    | lst ds =>
      rcases List.mem_cons.mp h with e | h
      · exact ⟨0, _, by rw [e] <;> rfl, rfl, fun z => by cases z⟩
      · exact key h
    | ins C fs =>
      rcases List.mem_cons.mp h with e | h
      · exact ⟨0, _, by rw [e] <;> rfl, rfl, fun z => by cases z⟩
      · exact key h
    | dic kvs =>
      rcases List.mem_cons.mp h with e | h
      · exact ⟨0, _, by rw [e] <;> rfl, rfl, fun z => by cases z⟩
      · exact key h
theorem live_at : ∀ {A : List Addr} {O : List OD} {i : Nat} {a : Addr} {o : OD}, A[i]? = some a → O[i]? = some o → o ≠ .gone → a ∈ live A O
  | [], _, _, _, _, h, _, _ => by simp at h
  | _ :: _, [], _, _, _, _, h, _ => by simp at h
  | c :: A, u :: O, 0, a, o, h1, h2, h3 => by
    have e1 : c = a := Option.some.inj h1
    have e2 : u = o := Option.some.inj h2
    subst e1 e2
    cases u with
    | gone => exact absurd rfl h3
    | lst ds => exact List.mem_cons_self
    | ins C fs => exact List.mem_cons_self
    | dic kvs => exact List.mem_cons_self
  | c :: A, u :: O, i + 1, a, o, h1, h2, h3 => by
    have ih : a ∈ live A O := live_at (i := i) h1 h2 h3
    cases u with
    | gone => exact ih
    | lst ds => exact List.mem_cons_of_mem _ ih
    | ins C fs => exact List.mem_cons_of_mem _ ih
    | dic kvs => exact List.mem_cons_of_mem _ ih

section
variable {K : PySem.W.Frag} {b : Bs} {A A' A2 : List Addr} {O O' O2 : List OD} {H H' H2 : Hp}
theorem StO.some_at (s : StO K b A O H) {a : Addr} (h : a ∈ live A O) : ∃ o, H a = some o ∧ OB o := by
  obtain ⟨i, o, h1, h2, h3⟩ := live_mem h
  have c := s.cell i a o h1 h2
  cases o with
  | gone => exact absurd rfl h3
  | lst ds =>
    obtain ⟨vs, q, _⟩ := c
    exact ⟨_, q, ob_lst⟩
  | ins C fs =>
    obtain ⟨dx, vs, q, _⟩ := c
    exact ⟨_, q, ob_ins⟩
  | dic kvs =>
    obtain ⟨ws, q, _⟩ := c
    exact ⟨_, q, ob_dK⟩
theorem StO.z_at (s : StO K b A O H) {a : Addr} (h : a ∈ b.Z) : a ∉ live A O ∧ ∃ o, H a = some o ∧ OB o := by
  obtain ⟨o, q, n⟩ := s.zs a h
  obtain ⟨h1, h2⟩ := hid_some.mp (s.ext a o q n.1)
  exact ⟨h1, o, h2, n⟩
theorem StO.fresh (s : StO K b A O H) {p : Addr} (h : H p = none) : p ∉ live A O ++ b.Z := fun hm => by
  rcases List.mem_append.mp hm with hm | hm
  · obtain ⟨o, q, _⟩ := s.some_at hm
    rw [h] at q
    cases q
  · obtain ⟨_, o, q, _⟩ := s.z_at hm
    rw [h] at q
    cases q
/-- the next state sees what this one sees -/
structure Nxt (b : Bs) (A : List Addr) (O : List OD) (H : Hp) (A' : List Addr) (O' : List OD) (H' : Hp) : Prop where
  pre : ∃ M, A' = A ++ M
  ext : Ex (Fz b A O H) (Fz b A' O' H')
theorem Nxt.refl : Nxt b A O H A O H := ⟨⟨[], (List.append_nil A).symm⟩, Ex.refl _⟩
theorem Nxt.trans (x : Nxt b A O H A' O' H') (y : Nxt b A' O' H' A2 O2 H2) : Nxt b A O H A2 O2 H2 := by
  obtain ⟨M, e⟩ := x.pre
  obtain ⟨N, e2⟩ := y.pre
  exact ⟨⟨M ++ N, by rw [e2, e, List.append_assoc]⟩, x.ext.trans y.ext⟩
theorem Nxt.at_ (x : Nxt b A O H A' O' H') {i : Nat} {a : Addr} (h : A[i]? = some a) : A'[i]? = some a := by
  obtain ⟨M, e⟩ := x.pre
  rw [e, List.getElem?_append_left (List.getElem?_eq_some_iff.mp h).1]
  exact h

def RepT (K : PySem.W.Frag) (F : Hp) (A : List Addr) : T → Option V → Prop
  | .v d, o => ∃ v, o = some v ∧ Rep K F d v
  | .own i, o => ∃ a, A[i]? = some a ∧ o = some (.ref a)
  | .no, _ => True
  | .clo R f, o => o = some (.ref f) ∧ ∀ F' A', Ex F F' → (∃ M, A' = A ++ M) → R F' A'
theorem RepT.nxt {t : T} {o : Option V} (x : Nxt b A O H A' O' H') (h : RepT K (Fz b A O H) A t o) : RepT K (Fz b A' O' H') A' t o := by
  cases t with
  | v d =>
    obtain ⟨v, e, r⟩ := h
    exact ⟨v, e, r.ex x.ext⟩
  | own i =>
    obtain ⟨a, e, r⟩ := h
    exact ⟨a, x.at_ e, r⟩
  | no => trivial
  | clo R f => exact ⟨h.1, fun F' A2 e p => h.2 F' A2 (x.ext.trans e) (by
      obtain ⟨M, e1⟩ := x.pre
      obtain ⟨N, e2⟩ := p
      exact ⟨M ++ N, by rw [e2, e1, List.append_assoc]⟩)⟩
/-- under any growth -/
theorem RepT.mono {K : PySem.W.Frag} {F F' : Hp} {A A' : List Addr} {t : T} {o : Option V} (x : Ex F F') (p : ∃ M, A' = A ++ M) (h : RepT K F A t o) : RepT K F' A' t o := by
  cases t with
  | v d =>
    obtain ⟨v, e, r⟩ := h
    exact ⟨v, e, r.ex x⟩
  | own i =>
    obtain ⟨a, e, r⟩ := h
    obtain ⟨M, rfl⟩ := p
    exact ⟨a, by rw [List.getElem?_append_left (List.getElem?_eq_some_iff.mp e).1]; exact e, r⟩
  | no => trivial
  | clo R f => exact ⟨h.1, fun F2 A2 e q => h.2 F2 A2 (x.trans e) (by
      obtain ⟨M, e1⟩ := p
      obtain ⟨N, e2⟩ := q
      exact ⟨M ++ N, by rw [e2, e1, List.append_assoc]⟩)⟩
def RepS (K : PySem.W.Frag) (F : Hp) (A : List Addr) (ts : List T) (σ : L2.St) : Prop := ts.length = σ.length ∧ ∀ (i : Nat) (t : T), ts[i]? = some t → ∃ o, σ[i]? = some o ∧ RepT K F A t o
theorem RepS.nxt {ts : List T} {σ : L2.St} (x : Nxt b A O H A' O' H') (h : RepS K (Fz b A O H) A ts σ) : RepS K (Fz b A' O' H') A' ts σ :=
  ⟨h.1, fun i t e => let ⟨o, e1, r⟩ := h.2 i t e; ⟨o, e1, r.nxt x⟩⟩
theorem RepS.mono {F F' : Hp} {B B' : List Addr} {ts : List T} {σ : L2.St} (x : Ex F F') (p : ∃ M, B' = B ++ M) (h : RepS K F B ts σ) : RepS K F' B' ts σ :=
  ⟨h.1, fun i t e => let ⟨o, e1, r⟩ := h.2 i t e; ⟨o, e1, r.mono x p⟩⟩
theorem RepS.set {F : Hp} {ts : List T} {σ : L2.St} {t : T} {v : V} (h : RepS K F A ts σ) (r : RepT K F A t (some v)) (i : Nat) : RepS K F A (ts.set i t) (σ.set i (some v)) := by
  refine ⟨by rw [List.length_set, List.length_set]; exact h.1, fun j u e => ?_⟩
  rw [List.getElem?_set] at e
  by_cases hij : i = j
  · subst hij
    rw [if_pos rfl] at e
    by_cases hl : i < ts.length
    · rw [if_pos hl] at e
      have e2 : t = u := Option.some.inj e
      subst e2
      refine ⟨some v, ?_, r⟩
      rw [List.getElem?_set_self (by rw [← h.1]; exact hl)]
    · rw [if_neg hl] at e
      cases e
  · rw [if_neg hij] at e
    obtain ⟨o, e1, r1⟩ := h.2 j u e
    refine ⟨o, ?_, r1⟩
    rw [List.getElem?_set_ne hij]
    exact e1
/-- what a list of values stands for -/
def RepTs (K : PySem.W.Frag) (F : Hp) (A : List Addr) : List T → List V → Prop
  | [], vs => vs = []
  | t :: ts, vs => ∃ v r, vs = v :: r ∧ RepT K F A t (some v) ∧ RepTs K F A ts r
theorem RepTs.nxt (x : Nxt b A O H A' O' H') : ∀ {ts : List T} {vs : List V}, RepTs K (Fz b A O H) A ts vs → RepTs K (Fz b A' O' H') A' ts vs
  | [], _, h => h
  | t :: ts, _, h => by
    obtain ⟨v, r, e, h1, h2⟩ := h
    exact ⟨v, r, e, h1.nxt x, RepTs.nxt x h2⟩
theorem RepTs.length {F : Hp} : ∀ {ts : List T} {vs : List V}, RepTs K F A ts vs → vs.length = ts.length
  | [], _, h => by rw [show _ = [] from h] <;> rfl
  | t :: ts, _, h => by
    obtain ⟨v, r, e, h1, h2⟩ := h
    rw [e, List.length_cons, List.length_cons, RepTs.length h2]
theorem RepTs.get {F : Hp} : ∀ {ts : List T} {vs : List V} {i : Nat} {t : T}, RepTs K F A ts vs → ts[i]? = some t → ∃ v, vs[i]? = some v ∧ RepT K F A t (some v)
  | [], _, _, _, _, h => by simp at h
  | t :: ts, _, 0, _, h, q => by
    obtain ⟨v, r, e1, h1, h2⟩ := h
    have e : t = _ := Option.some.inj q
    subst e e1
    exact ⟨v, rfl, h1⟩
  | t :: ts, _, i + 1, _, h, q => by
    obtain ⟨v, r, e1, h1, h2⟩ := h
    subst e1
    exact RepTs.get (i := i) h2 q
/-- plain data only -/
def unv : List T → Option (List D)
  | [] => some []
  | .v d :: r => (unv r).map (d :: ·)
  | _ :: _ => none
theorem RepTs.plain {F : Hp} : ∀ {ts : List T} {vs : List V} {ds : List D}, unv ts = some ds → RepTs K F A ts vs → RepL K F ds vs
  | [], _, ds, e, h => by
    have e2 : [] = ds := Option.some.inj e
    subst e2
    exact h
  | .v d :: ts, _, ds, e, h => by
    obtain ⟨v, r, e1, h1, h2⟩ := h
    have e3 : (unv ts).map (d :: ·) = some ds := e
    cases q : unv ts with
    | none =>
      rw [q] at e3
      cases e3
    | some es =>
      rw [q] at e3
      have e4 : d :: es = ds := Option.some.inj e3
      subst e4
      obtain ⟨w, e5, r5⟩ := h1
      have e6 := Option.some.inj e5
      subst e6
      exact ⟨v, r, e1, r5, RepTs.plain q h2⟩
  | .own _ :: _, _, _, e, _ => by cases e
  | .no :: _, _, _, e, _ => by cases e
  | .clo _ _ :: _, _, _, e, _ => by cases e

theorem StO.lay (s : StO K b A O H) {p : Addr} (hp : H p = none) (o : HO) : StO K b A O (upd H p o) ∧ Nxt b A O H A O (upd H p o) ∧ Fz b A O (upd H p o) p = some o := by
  have hn := s.fresh hp
  have e1 : ∀ a u, H a = some u → upd H p o a = some u := fun a u h => by
    rw [upd_ne (ne_of_none h hp)]
    exact h
  have e2 : Ex (Fz b A O H) (Fz b A O (upd H p o)) := hid_mono (fun a u _ h => e1 a u h) fun a u h _ => h
  refine ⟨⟨s.len, s.pre, s.ext.trans (hid_mono (fun a u _ h => e1 a u h) fun a u h _ => h), s.zs, s.nd, fun a h => let ⟨u, q, n⟩ := s.inh a h; ⟨u, e1 a u q, n⟩, fun i a u h1 h2 => (s.cell i a u h1 h2).ex e2 (e1 a), s.tb.ext e1⟩, ⟨⟨[], (List.append_nil A).symm⟩, e2⟩, ?_⟩
  exact hid_some.mpr ⟨hn, upd_same⟩
theorem live_append : ∀ {A : List Addr} {O : List OD}, A.length = O.length → ∀ (p : Addr) (o : OD), live (A ++ [p]) (O ++ [o]) = live A O ++ live [p] [o]
  | [], [], _, p, o => rfl
  | [], _ :: _, h, _, _ => by simp at h
  | _ :: _, [], h, _, _ => by simp at h
  | a :: A, u :: O, h, p, o => by
    have ih := live_append (A := A) (O := O) (by simpa using h) p o
    cases u <;> simp only [List.cons_append, live, ih]
theorem live1_sub {p : Addr} {o : OD} : ∀ a ∈ live [p] [o], a = p := fun a h => by
  cases o <;> simp [live] at h <;> exact h
/-- p, new, becomes the next owned thing -/
theorem StO.own (s : StO K b A O H) {p : Addr} (hp : H p = none) {u : HO} {o : OD} (c : CellOk K (Fz b A O H) (upd H p u) p o) (nu : NT u := by (first | assumption | exact nt_exc | exact fun _ z => (by cases z))) : StO K b (A ++ [p]) (O ++ [o]) (upd H p u) ∧ Nxt b A O H (A ++ [p]) (O ++ [o]) (upd H p u) := by
  have hn := s.fresh hp
  have hA : p ∉ A := fun z => by
    obtain ⟨x, q, _⟩ := s.inh p z
    rw [hp] at q
    cases q
  have e1 : ∀ a w, H a = some w → upd H p u a = some w := fun a w h => by
    rw [upd_ne (ne_of_none h hp)]
    exact h
  have hl := live_append s.len p o
  have sub : ∀ a w, a ∉ live A O → H a = some w → a ∉ live (A ++ [p]) (O ++ [o]) := fun a w h1 h2 h3 => by
    rw [hl] at h3
    rcases List.mem_append.mp h3 with h3 | h3
    · exact h1 h3
    · have e := live1_sub a h3
      rw [e, hp] at h2
      cases h2
  have e2 : Ex (Fz b A O H) (Fz b (A ++ [p]) (O ++ [o]) (upd H p u)) := hid_mono (fun a w _ h => e1 a w h) fun a w h1 h2 h3 => by
    rcases List.mem_append.mp h3 with h3 | h3
    · exact sub a w (fun z => h1 (List.mem_append_left _ z)) h2 h3
    · exact h1 (List.mem_append_right _ h3)
  obtain ⟨M, eM⟩ := s.pre
  refine ⟨⟨by rw [List.length_append, List.length_append, s.len] <;> rfl, ⟨M ++ [p], by rw [eM, List.append_assoc]⟩, s.ext.trans (hid_mono (fun a w _ h => e1 a w h) sub), s.zs, ?_, fun a h => ?_, fun i a w h1 h2 => ?_, s.tb.ext e1⟩, ⟨⟨[p], rfl⟩, e2⟩⟩
  · rw [List.nodup_append]
    refine ⟨s.nd, by simp, fun x hx y hy => ?_⟩
    rw [List.mem_singleton.mp hy]
    intro z
    exact hA (z ▸ hx)
  · rcases List.mem_append.mp h with h | h
    · obtain ⟨x, q, n⟩ := s.inh a h
      exact ⟨x, e1 a x q, n⟩
    · rw [List.mem_singleton.mp h]
      exact ⟨u, upd_same, nu⟩
  · by_cases hi : i < A.length
    · rw [List.getElem?_append_left hi] at h1
      rw [List.getElem?_append_left (by rw [← s.len]; exact hi)] at h2
      exact (s.cell i a w h1 h2).ex e2 (e1 a)
    · rw [List.getElem?_append_right (by omega)] at h1
      rw [List.getElem?_append_right (by rw [← s.len]; omega)] at h2
      have hz : i - A.length = 0 := by
        cases q : i - A.length with
        | zero => rfl
        | succ n =>
          rw [q] at h1
          simp at h1
      rw [hz] at h1
      rw [show i - O.length = 0 by rw [← s.len]; exact hz] at h2
      have e3 : p = a := Option.some.inj h1
      have e4 : o = w := Option.some.inj h2
      subst e3 e4
      exact c.ex e2 fun _ h => h
/-- the i-th owned thing changes -/
theorem live_set : ∀ {A : List Addr} {O : List OD} {i : Nat} {o u : OD}, O[i]? = some u → u ≠ .gone → o ≠ .gone → live A (O.set i o) = live A O
  | [], O, _, _, _, _, _, _ => by cases O <;> rfl
  | _ :: _, [], _, _, _, h, _, _ => by simp at h
  | a :: A, w :: O, 0, o, u, h, h1, h2 => by
    have e : w = u := Option.some.inj h
    subst e
    cases w <;> cases o <;> first | rfl | exact absurd rfl h1 | exact absurd rfl h2
  | a :: A, w :: O, i + 1, o, u, h, h1, h2 => by
    have ih := live_set (A := A) (O := O) (i := i) h h1 h2
    cases w <;> simp only [List.set_cons_succ, live, ih]
theorem StO.obj (s : StO K b A O H) {i : Nat} {a : Addr} {u : OD} (hA : A[i]? = some a) (hO : O[i]? = some u) (hu : u ≠ .gone) : ∃ o, H a = some o ∧ NT o ∧ ∀ c q, o ≠ LamX.CodeO c q := by
  have c := s.cell i a u hA hO
  have key : ∀ o : HO, (∀ P, o ≠ .ext P) → ∀ c q, o ≠ LamX.CodeO c q := fun o h c q z => by
    unfold LamX.CodeO at z
    exact h _ z
  cases u with
  | gone => exact absurd rfl hu
  | lst ds =>
    obtain ⟨vs, q, _⟩ := c
    exact ⟨_, q, by (first | assumption | exact nt_exc | exact fun _ z => (by cases z)), key _ fun _ z => by cases z⟩
  | ins C fs =>
    obtain ⟨dx, vs, q, _⟩ := c
    exact ⟨_, q, by (first | assumption | exact nt_exc | exact fun _ z => (by cases z)), key _ fun _ z => by cases z⟩
  | dic kvs =>
    obtain ⟨ws, q, _⟩ := c
    exact ⟨_, q, by (first | assumption | exact nt_exc | exact fun _ z => (by cases z)), key _ fun _ z => by cases z⟩
theorem StO.tb_put (s : StO K b A O H) {i : Nat} {a : Addr} {u : OD} (hA : A[i]? = some a) (hO : O[i]? = some u) (hu : u ≠ .gone) (w : HO) : TabsK K (upd H a w) := by
  obtain ⟨o, h1, h2, h3⟩ := s.obj hA hO hu
  exact s.tb.upd h1 h2 h3 w
theorem StO.put (s : StO K b A O H) {i : Nat} {a : Addr} {u o : OD} {w : HO} (hA : A[i]? = some a) (hO : O[i]? = some u) (hu : u ≠ .gone) (ho : o ≠ .gone) (c : CellOk K (Fz b A O H) (upd H a w) a o) (nw : NT w := by (first | assumption | exact nt_exc | exact fun _ z => (by cases z))) :
    StO K b A (O.set i o) (upd H a w) ∧ Nxt b A O H A (O.set i o) (upd H a w) := by
  have hl : live A (O.set i o) = live A O := live_set hO hu ho
  have hm : a ∈ live A O := live_at hA hO hu
  have e2 : Ex (Fz b A O H) (Fz b A (O.set i o) (upd H a w)) := by
    unfold Fz
    rw [hl]
    refine hid_mono (fun y x h1 h2 => ?_) fun _ _ h _ => h
    have hne : y ≠ a := fun z => h1 (List.mem_append_left _ (by rw [z]; exact hm))
    rw [upd_ne hne]
    exact h2
  refine ⟨⟨by rw [List.length_set]; exact s.len, s.pre, ?_, s.zs, s.nd, fun c h => ?_, fun j y x h1 h2 => ?_, s.tb_put hA hO hu w⟩, ⟨⟨[], (List.append_nil A).symm⟩, e2⟩⟩
  · rw [hl]
    refine s.ext.trans (hid_mono (fun y x h1 h2 => ?_) fun _ _ h _ => h)
    have hne : y ≠ a := fun z => h1 (by rw [z]; exact hm)
    rw [upd_ne hne]
    exact h2
  · by_cases z : c = a
    · exact ⟨w, by rw [z, upd_same], nw⟩
    · obtain ⟨x, q, n⟩ := s.inh c h
      exact ⟨x, by rw [upd_ne z]; exact q, n⟩
  · rw [List.getElem?_set] at h2
    by_cases hij : i = j
    · subst hij
      rw [if_pos rfl] at h2
      rw [hA] at h1
      have e3 : a = y := Option.some.inj h1
      subst e3
      by_cases hlt : i < O.length
      · rw [if_pos hlt] at h2
        have e4 : o = x := Option.some.inj h2
        subst e4
        exact c.ex e2 fun _ h => h
      · rw [if_neg hlt] at h2
        cases h2
    · rw [if_neg hij] at h2
      have hne : y ≠ a := fun z => hij (nd_ix s.nd hA (z ▸ h1))
      refine (s.cell j y x h1 h2).ex e2 fun q hq => ?_
      rw [upd_ne hne]
      exact hq
end
end G

set_option Elab.async false
set_option linter.all false
set_option maxRecDepth 100000
set_option maxHeartbeats 4000000
namespace G
open PySem PySem.Spec PyProof.Rows L2

abbrev PT' := T → List OD → Prop
abbrev PB := Bool → List OD → Prop
abbrev PL := List T → List OD → Prop
/-- an exception: its class, its own fields (none: no dict of its own) -/
abbrev XX := Value → Option (List (Str × D)) → List OD → Prop
def RepX (K : PySem.W.Frag) (F H : Hp) : Option (List (Str × D)) → Option Addr → Prop
  | none, d => d = none
  | some fs, d => ∃ dx vs, d = some dx ∧ F dx = some (.xd vs) ∧ RepF K F fs vs
/-- what an exception leaves is wanted -/
def KX (K : PySem.W.Frag) (W : WX) (b : Bs) (A : List Addr) (O : List OD) (σ : L2.St) (H : Hp) (X : XX) : Prop :=
  ∀ C fs A' O' H' d, X C fs O' → StO K b A' O' H' → Nxt b A O H A' O' H' → RepX K (Fz b A' O' H') H' fs d → W C d σ H'
def KV' (K : PySem.W.Frag) (b : Bs) (A : List Addr) (O : List OD) (H : Hp) (P : PT') (Q : VK) : Prop :=
  ∀ t v A' O' H', P t O' → StO K b A' O' H' → Nxt b A O H A' O' H' → RepT K (Fz b A' O' H') A' t (some v) → Q v H'
def KB (K : PySem.W.Frag) (b : Bs) (A : List Addr) (O : List OD) (H : Hp) (P : PB) (Q : Bool → Hp → Prop) : Prop :=
  ∀ c A' O' H', P c O' → StO K b A' O' H' → Nxt b A O H A' O' H' → Q c H'
def KL (K : PySem.W.Frag) (b : Bs) (A : List Addr) (O : List OD) (H : Hp) (P : PL) (Q : List V → Hp → Prop) : Prop :=
  ∀ ts vs A' O' H', P ts O' → StO K b A' O' H' → Nxt b A O H A' O' H' → RepTs K (Fz b A' O' H') A' ts vs → Q vs H'
section
variable {K : PySem.W.Frag} {W : WX} {b : Bs} {A A' : List Addr} {O O' : List OD} {H H' : Hp} {σ : L2.St}
theorem KX.nxt {X : XX} (k : KX K W b A O σ H X) (n : Nxt b A O H A' O' H') : KX K W b A' O' σ H' X := fun C fs A2 O2 H2 d x s m r => k C fs A2 O2 H2 d x s (n.trans m) r
theorem KV'.nxt {P : PT'} {Q : VK} (k : KV' K b A O H P Q) (n : Nxt b A O H A' O' H') : KV' K b A' O' H' P Q := fun t v A2 O2 H2 x s m r => k t v A2 O2 H2 x s (n.trans m) r
theorem KB.nxt {P : PB} {Q : Bool → Hp → Prop} (k : KB K b A O H P Q) (n : Nxt b A O H A' O' H') : KB K b A' O' H' P Q := fun c A2 O2 H2 x s m => k c A2 O2 H2 x s (n.trans m)
theorem KL.nxt {P : PL} {Q : List V → Hp → Prop} (k : KL K b A O H P Q) (n : Nxt b A O H A' O' H') : KL K b A' O' H' P Q := fun ts vs A2 O2 H2 x s m r => k ts vs A2 O2 H2 x s (n.trans m) r
end

def WE (K : PySem.W.Frag) (W : WX) (te : TE) (O : List OD) (ts : List T) (P : PT') (X : XX) : Prop :=
  ∀ b A σ H Q, StO K b A O H → RepS K (Fz b A O H) A ts σ → KV' K b A O H P Q → KX K W b A O σ H X → te σ H Q
def WT (K : PySem.W.Frag) (W : WX) (tt : TT) (O : List OD) (ts : List T) (P : PB) (X : XX) : Prop :=
  ∀ b A σ H Q, StO K b A O H → RepS K (Fz b A O H) A ts σ → KB K b A O H P Q → KX K W b A O σ H X → tt σ H Q
def WA (K : PySem.W.Frag) (W : WX) (ta : TA) (O : List OD) (ts : List T) (P : PL) (X : XX) : Prop :=
  ∀ b A σ H Q, StO K b A O H → RepS K (Fz b A O H) A ts σ → KL K b A O H P Q → KX K W b A O σ H X → ta σ H Q
/-- by values -/
def WR (K : PySem.W.Frag) (r : R2) (x y : T) (O : List OD) (P : PT') : Prop :=
  ∀ b A H Q v u, StO K b A O H → RepT K (Fz b A O H) A x (some v) → RepT K (Fz b A O H) A y (some u) → KV' K b A O H P Q → r v u H Q
def WU (K : PySem.W.Frag) (r : V → Hp → VK → Prop) (x : T) (O : List OD) (P : PT') : Prop :=
  ∀ b A H Q v, StO K b A O H → RepT K (Fz b A O H) A x (some v) → KV' K b A O H P Q → r v H Q
def WC (K : PySem.W.Frag) (r : List V → Hp → VK → Prop) (xs : List T) (O : List OD) (P : PT') : Prop :=
  ∀ b A H Q vs, StO K b A O H → RepTs K (Fz b A O H) A xs vs → KV' K b A O H P Q → r vs H Q
def WM (K : PySem.W.Frag) (r : V → List V → Hp → VK → Prop) (x : T) (xs : List T) (O : List OD) (P : PT') : Prop :=
  ∀ b A H Q v vs, StO K b A O H → RepT K (Fz b A O H) A x (some v) → RepTs K (Fz b A O H) A xs vs → KV' K b A O H P Q → r v vs H Q

structure DE where
  nx : List T → List OD → Prop
  rt : PT'
  bk : List T → List OD → Prop := fun _ _ => False
  ct : List T → List OD → Prop := fun _ _ => False
  xe : Value → Option (List (Str × D)) → List T → List OD → Prop := fun _ _ _ _ => False
def KN (K : PySem.W.Frag) (b : Bs) (A : List Addr) (O : List OD) (H : Hp) (N : List T → List OD → Prop) (Q : L2.St → Hp → Prop) : Prop :=
  ∀ ts σ A' O' H', N ts O' → StO K b A' O' H' → Nxt b A O H A' O' H' → RepS K (Fz b A' O' H') A' ts σ → Q σ H'
structure KS (K : PySem.W.Frag) (W : WX) (b : Bs) (A : List Addr) (O : List OD) (H : Hp) (E : DE) (D : Ends) : Prop where
  nx : KN K b A O H E.nx D.nx
  rt : KV' K b A O H E.rt D.rt
  bk : KN K b A O H E.bk D.bk
  ct : KN K b A O H E.ct D.ct
  xe : ∀ C fs ts σ A' O' H' d, E.xe C fs ts O' → StO K b A' O' H' → Nxt b A O H A' O' H' → RepS K (Fz b A' O' H') A' ts σ → RepX K (Fz b A' O' H') H' fs d → W C d σ H'
def WS (K : PySem.W.Frag) (W : WX) (t : TS) (O : List OD) (ts : List T) (E : DE) : Prop :=
  ∀ b A σ H D, StO K b A O H → RepS K (Fz b A O H) A ts σ → KS K W b A O H E D → t D σ H
section
variable {K : PySem.W.Frag} {W : WX} {b : Bs} {A A' : List Addr} {O O' : List OD} {H H' : Hp} {σ : L2.St}
theorem KN.nxt {N : List T → List OD → Prop} {Q : L2.St → Hp → Prop} (k : KN K b A O H N Q) (n : Nxt b A O H A' O' H') : KN K b A' O' H' N Q := fun ts σ A2 O2 H2 x s m r => k ts σ A2 O2 H2 x s (n.trans m) r
theorem KS.nxt {E : DE} {D : Ends} (k : KS K W b A O H E D) (n : Nxt b A O H A' O' H') : KS K W b A' O' H' E D :=
  ⟨k.nx.nxt n, k.rt.nxt n, k.bk.nxt n, k.ct.nxt n, fun C fs ts σ A2 O2 H2 d x s m r q => k.xe C fs ts σ A2 O2 H2 d x s (n.trans m) r q⟩
theorem KS.kx {E : DE} {D : Ends} {ts : List T} (k : KS K W b A O H E D) (rs : RepS K (Fz b A O H) A ts σ) : KX K W b A O σ H (fun C fs O' => E.xe C fs ts O') :=
  fun C fs A' O' H' d x s m r => k.xe C fs ts σ A' O' H' d x s m (rs.nxt m) r
end

section
variable {K : PySem.W.Frag} {W : WX} {O : List OD} {ts : List T} {P : PT'} {PB' : PB} {PL' : PL} {X : XX} {te ta tb tc : TE} {tt uu : TT} {tr : TA} {r r' : R2}
theorem WE.imp {P' : PT'} (h : WE K W te O ts P X) (q : ∀ t O', P t O' → P' t O') : WE K W te O ts P' X := fun b A σ H Q s rs k kx => h b A σ H Q s rs (fun t v A' O' H' p => k t v A' O' H' (q t O' p)) kx
theorem w_var {i : Nat} {t : T} (h : ts[i]? = some t) (hn : t ≠ .no) (k : P t O) : WE K W (tVar i) O ts P X := fun b A σ H Q s rs kv _ => by
  obtain ⟨o, e, rt⟩ := rs.2 i t h
  cases t with
  | v d =>
    obtain ⟨v, e2, rd⟩ := rt
    subst e2
    exact ⟨v, e, kv _ v A O H k s Nxt.refl ⟨v, rfl, rd⟩⟩
  | own j =>
    obtain ⟨a, e1, e2⟩ := rt
    subst e2
    exact ⟨_, e, kv _ _ A O H k s Nxt.refl ⟨a, e1, rfl⟩⟩
  | no => exact absurd rfl hn
  | clo R f =>
    obtain ⟨e1, m⟩ := rt
    subst e1
    exact ⟨_, e, kv _ _ A O H k s Nxt.refl ⟨rfl, m⟩⟩
theorem w_v {i : Nat} {d : D} (h : ts[i]? = some (.v d)) (k : P (.v d) O) : WE K W (tVar i) O ts P X := w_var h (fun z => by cases z) k
theorem w_o {i j : Nat} (h : ts[i]? = some (.own j)) (k : P (.own j) O) : WE K W (tVar i) O ts P X := w_var h (fun z => by cases z) k
theorem w_c {v : V} {d : D} (h : ∀ H, Rep K H d v) (k : P (.v d) O) : WE K W (tC v) O ts P X := fun b A σ H Q s rs kv _ => kv _ v A O H k s Nxt.refl ⟨v, rfl, h _⟩
theorem w_ci {i : Int} (k : P (.v (.int i)) O) : WE K W (tC (.int i)) O ts P X := w_c (d := .int i) (fun _ => rfl) k
theorem w_cb {i : Bool} (k : P (.v (.bl i)) O) : WE K W (tC (.bl i)) O ts P X := w_c (d := .bl i) (fun _ => rfl) k
theorem w_cs {i : Str} (k : P (.v (.str i)) O) : WE K W (tC (.str i)) O ts P X := w_c (d := .str i) (fun _ => rfl) k
theorem w_cn (k : P (.v .non) O) : WE K W (tC .non) O ts P X := w_c (d := .non) (fun _ => rfl) k
theorem w_cr {a : Addr} (k : P (.v (.ref a)) O) : WE K W (tC (.ref a)) O ts P X := w_c (d := .ref a) (fun _ => rfl) k
theorem w_cty {a : String} (k : P (.v (.ty a)) O) : WE K W (tC (.ty a)) O ts P X := w_c (d := .ty a) (fun _ => rfl) k
theorem w_op (h : WE K W ta O ts (fun x O1 => WE K W tb O1 ts (fun y O2 => WR K r x y O2 P) X) X) : WE K W (tOp r ta tb) O ts P X := fun b A σ H Q s rs kv kx => by
  refine h b A σ H _ s rs (fun x v A1 O1 H1 p1 s1 n1 r1 => ?_) kx
  refine p1 b A1 σ H1 _ s1 (rs.nxt n1) (fun y u A2 O2 H2 p2 s2 n2 r2 => ?_) (kx.nxt n1)
  exact p2 b A2 H2 Q v u s2 (r1.nxt n2) r2 (kv.nxt (n1.trans n2))
theorem w_un {r : V → Hp → VK → Prop} (h : WE K W ta O ts (fun x O1 => WU K r x O1 P) X) : WE K W (tUn r ta) O ts P X := fun b A σ H Q s rs kv kx =>
  h b A σ H _ s rs (fun x v A1 O1 H1 p1 s1 n1 r1 => p1 b A1 H1 Q v s1 r1 (kv.nxt n1)) kx
theorem w_I0 {g : Int → Int → V} {i j : Int} {d : D} (hd : ∀ H, Rep K H d (g i j)) (k : P (.v d) O) : WR K (rI0 g) (.v (.int i)) (.v (.int j)) O P := fun b A H Q v u s r1 r2 kv => by
  obtain ⟨_, e1, rfl⟩ := r1
  obtain ⟨_, e2, rfl⟩ := r2
  cases e1
  cases e2
  exact ⟨i, j, rfl, rfl, kv _ _ A O H k s Nxt.refl ⟨_, rfl, hd _⟩⟩
theorem w_I {C : Int → Int → Prop} {g : Int → Int → V} {i j : Int} {d : D} (hc : C i j) (hd : ∀ H, Rep K H d (g i j)) (k : P (.v d) O) : WR K (rI C g) (.v (.int i)) (.v (.int j)) O P := fun b A H Q v u s r1 r2 kv => by
  obtain ⟨_, e1, rfl⟩ := r1
  obtain ⟨_, e2, rfl⟩ := r2
  cases e1
  cases e2
  exact ⟨i, j, rfl, rfl, hc, kv _ _ A O H k s Nxt.refl ⟨_, rfl, hd _⟩⟩
theorem w_Ui {g : Int → V} {i : Int} {d : D} (hd : ∀ H, Rep K H d (g i)) (k : P (.v d) O) : WU K (rU g) (.v (.int i)) O P := fun b A H Q v s r1 kv => by
  obtain ⟨_, e1, rfl⟩ := r1
  cases e1
  exact ⟨i, rfl, kv _ _ A O H k s Nxt.refl ⟨_, rfl, hd _⟩⟩
/-- values that are no objects -/
def scalD : D → Option V
  | .non => some .non
  | .bl b => some (.bl b)
  | .int i => some (.int i)
  | .str x => some (.str x)
  | _ => none
theorem scalD_rep {K : PySem.W.Frag} {H : Hp} {d : D} {v w : V} (h : scalD d = some v) (r : Rep K H d w) : w = v := by
  cases d <;> first | (have e := Option.some.inj h; subst e; exact r) | cases h
theorem w_eq {d e : D} {v u : V} (h1 : scalD d = some v) (h2 : scalD e = some u) (hs : scal v u = true) (k : P (.v (.bl (decide (v = u)))) O) : WR K rEq (.v d) (.v e) O P := fun b A H Q x y s r1 r2 kv => by
  obtain ⟨_, e1, q1⟩ := r1
  obtain ⟨_, e2, q2⟩ := r2
  cases e1
  cases e2
  rw [scalD_rep h1 q1, scalD_rep h2 q2]
  exact ⟨hs, kv _ _ A O H k s Nxt.refl ⟨_, rfl, rfl⟩⟩
theorem w_ne {d e : D} {v u : V} (h1 : scalD d = some v) (h2 : scalD e = some u) (hs : scal v u = true) (k : P (.v (.bl (!decide (v = u)))) O) : WR K rNe (.v d) (.v e) O P := fun b A H Q x y s r1 r2 kv => by
  obtain ⟨_, e1, q1⟩ := r1
  obtain ⟨_, e2, q2⟩ := r2
  cases e1
  cases e2
  rw [scalD_rep h1 q1, scalD_rep h2 q2]
  exact ⟨hs, kv _ _ A O H k s Nxt.refl ⟨_, rfl, rfl⟩⟩
theorem dI (i j : Int) : decide (V.int i = V.int j) = decide (i = j) := by
  by_cases h : i = j
  · subst h
    simp
  · rw [decide_eq_false h, decide_eq_false (fun z => h (V.int.inj z))]
theorem w_eqI {i j : Int} (k : P (.v (.bl (decide (i = j)))) O) : WR K rEq (.v (.int i)) (.v (.int j)) O P := w_eq rfl rfl rfl (by rw [dI]; exact k)
theorem w_neI {i j : Int} (k : P (.v (.bl (!decide (i = j)))) O) : WR K rNe (.v (.int i)) (.v (.int j)) O P := w_ne rfl rfl rfl (by rw [dI]; exact k)
theorem w_test (h : WE K W te O ts (fun t O' => ∃ c, t = .v (.bl c) ∧ PB' c O') X) : WT K W (tTest te) O ts PB' X := fun b A σ H Q s rs kb kx =>
  h b A σ H _ s rs (fun t v A1 O1 H1 p1 s1 n1 r1 => by
    obtain ⟨c, rfl, p⟩ := p1
    obtain ⟨_, e, rfl⟩ := r1
    cases e
    exact ⟨c, rfl, kb c A1 O1 H1 p s1 n1⟩) kx
theorem w_B (h : WE K W te O ts (fun t O' => ∃ c, t = .v (.bl c) ∧ PB' c O') X) : WT K W (tB te) O ts PB' X := w_test h
theorem w_and (h : WT K W tt O ts (fun c O' => (c = true → WT K W uu O' ts PB' X) ∧ (c = false → PB' false O')) X) : WT K W (tAnd tt uu) O ts PB' X := fun b A σ H Q s rs kb kx =>
  h b A σ H _ s rs (fun c A1 O1 H1 p1 s1 n1 => by
    cases c with
    | true => exact iteT (p1.1 rfl b A1 σ H1 Q s1 (rs.nxt n1) (kb.nxt n1) (kx.nxt n1))
    | false => exact iteF (kb false A1 O1 H1 (p1.2 rfl) s1 n1)) kx
theorem w_or (h : WT K W tt O ts (fun c O' => (c = true → PB' true O') ∧ (c = false → WT K W uu O' ts PB' X)) X) : WT K W (tOr tt uu) O ts PB' X := fun b A σ H Q s rs kb kx =>
  h b A σ H _ s rs (fun c A1 O1 H1 p1 s1 n1 => by
    cases c with
    | true => exact iteT (kb true A1 O1 H1 (p1.1 rfl) s1 n1)
    | false => exact iteF (p1.2 rfl b A1 σ H1 Q s1 (rs.nxt n1) (kb.nxt n1) (kx.nxt n1))) kx
theorem w_not (h : WT K W tt O ts (fun c O' => PB' (!c) O') X) : WT K W (tNot tt) O ts PB' X := fun b A σ H Q s rs kb kx =>
  h b A σ H _ s rs (fun c A1 O1 H1 p1 s1 n1 => kb (!c) A1 O1 H1 p1 s1 n1) kx
theorem w_andV (h : WE K W ta O ts (fun t O' => ∃ c, t = .v (.bl c) ∧ (c = true → WE K W tb O' ts P X) ∧ (c = false → P (.v (.bl false)) O')) X) : WE K W (tAndV ta tb) O ts P X := fun b A σ H Q s rs kv kx =>
  h b A σ H _ s rs (fun t v A1 O1 H1 p1 s1 n1 r1 => by
    obtain ⟨c, rfl, pt, pf⟩ := p1
    obtain ⟨_, e, rfl⟩ := r1
    cases e
    refine ⟨c, rfl, ?_⟩
    cases c with
    | true => exact iteT (pt rfl b A1 σ H1 Q s1 (rs.nxt n1) (kv.nxt n1) (kx.nxt n1))
    | false => exact iteF (kv _ _ A1 O1 H1 (pf rfl) s1 n1 ⟨_, rfl, rfl⟩)) kx
theorem w_orV (h : WE K W ta O ts (fun t O' => ∃ c, t = .v (.bl c) ∧ (c = true → P (.v (.bl true)) O') ∧ (c = false → WE K W tb O' ts P X)) X) : WE K W (tOrV ta tb) O ts P X := fun b A σ H Q s rs kv kx =>
  h b A σ H _ s rs (fun t v A1 O1 H1 p1 s1 n1 r1 => by
    obtain ⟨c, rfl, pt, pf⟩ := p1
    obtain ⟨_, e, rfl⟩ := r1
    cases e
    refine ⟨c, rfl, ?_⟩
    cases c with
    | true => exact iteT (kv _ _ A1 O1 H1 (pt rfl) s1 n1 ⟨_, rfl, rfl⟩)
    | false => exact iteF (pf rfl b A1 σ H1 Q s1 (rs.nxt n1) (kv.nxt n1) (kx.nxt n1))) kx
theorem w_notV (h : WE K W ta O ts (fun t O' => ∃ c, t = .v (.bl c) ∧ P (.v (.bl (!c))) O') X) : WE K W (tNotV ta) O ts P X := fun b A σ H Q s rs kv kx =>
  h b A σ H _ s rs (fun t v A1 O1 H1 p1 s1 n1 r1 => by
    obtain ⟨c, rfl, p⟩ := p1
    obtain ⟨_, e, rfl⟩ := r1
    cases e
    exact ⟨c, rfl, kv _ _ A1 O1 H1 p s1 n1 ⟨_, rfl, rfl⟩⟩) kx
theorem w_ife (h : WT K W tt O ts (fun c O' => (c = true → WE K W ta O' ts P X) ∧ (c = false → WE K W tb O' ts P X)) X) : WE K W (tIf tt ta tb) O ts P X := fun b A σ H Q s rs kv kx =>
  h b A σ H _ s rs (fun c A1 O1 H1 p1 s1 n1 => by
    cases c with
    | true => exact iteT (p1.1 rfl b A1 σ H1 Q s1 (rs.nxt n1) (kv.nxt n1) (kx.nxt n1))
    | false => exact iteF (p1.2 rfl b A1 σ H1 Q s1 (rs.nxt n1) (kv.nxt n1) (kx.nxt n1))) kx
theorem w_chain {t3 : TE} (h : WE K W ta O ts (fun x O1 => WE K W tb O1 ts (fun y O2 => WR K r x y O2 (fun z O3 => ∃ c, z = .v (.bl c) ∧ (c = true → WE K W t3 O3 ts (fun w' O4 => WR K r' y w' O4 P) X) ∧ (c = false → P (.v (.bl false)) O3))) X) X) :
    WE K W (tChain r r' ta tb t3) O ts P X := fun b A σ H Q s rs kv kx => by
  refine h b A σ H _ s rs (fun x v A1 O1 H1 p1 s1 n1 r1 => ?_) kx
  refine p1 b A1 σ H1 _ s1 (rs.nxt n1) (fun y u A2 O2 H2 p2 s2 n2 r2 => ?_) (kx.nxt n1)
  refine p2 b A2 H2 _ v u s2 (r1.nxt n2) r2 (fun z w' A3 O3 H3 p3 s3 n3 r3 => ?_)
  obtain ⟨c, rfl, pt, pf⟩ := p3
  obtain ⟨_, e, rfl⟩ := r3
  cases e
  refine ⟨c, rfl, ?_⟩
  have n13 := (n1.trans n2).trans n3
  cases c with
  | true => exact iteT (pt rfl b A3 σ H3 _ s3 (rs.nxt n13) (fun y4 u4 A4 O4 H4 p4 s4 n4 r4 => p4 b A4 H4 Q u u4 s4 (r2.nxt (n3.trans n4)) r4 (kv.nxt (n13.trans n4))) (kx.nxt n13))
  | false => exact iteF (kv _ _ A3 O3 H3 (pf rfl) s3 n13 ⟨_, rfl, rfl⟩)
theorem w_nil (k : PL' [] O) : WA K W tNil O ts PL' X := fun b A σ H Q s rs kl _ => kl [] [] A O H k s Nxt.refl rfl
theorem w_cons (h : WE K W te O ts (fun x O1 => WA K W tr O1 ts (fun xs O2 => PL' (x :: xs) O2) X) X) : WA K W (tCons te tr) O ts PL' X := fun b A σ H Q s rs kl kx =>
  h b A σ H _ s rs (fun x v A1 O1 H1 p1 s1 n1 r1 => p1 b A1 σ H1 _ s1 (rs.nxt n1) (fun xs vs A2 O2 H2 p2 s2 n2 r2 => kl _ _ A2 O2 H2 p2 s2 (n1.trans n2) ⟨v, vs, rfl, r1.nxt n2, r2⟩) (kx.nxt n1)) kx
theorem w_tup (h : WA K W tr O ts (fun xs O1 => ∃ ds, unv xs = some ds ∧ xs.length ≤ sizeLine ∧ P (.v (.tup ds)) O1) X) : WE K W (tTup tr) O ts P X := fun b A σ H Q s rs kv kx =>
  h b A σ H _ s rs (fun xs vs A1 O1 H1 p1 s1 n1 r1 => by
    obtain ⟨ds, e, l, p⟩ := p1
    refine ⟨by rw [r1.length]; exact l, fun p' hp => ?_⟩
    obtain ⟨s2, n2, q⟩ := s1.lay hp (.tup vs)
    exact kv _ _ A1 O1 _ p s2 (n1.trans n2) ⟨_, rfl, p', vs, rfl, SqT.of q, (r1.plain e).ex n2.ext⟩) kx
theorem w_lst (h : WA K W tr O ts (fun xs O1 => ∃ ds, unv xs = some ds ∧ xs.length ≤ sizeLine ∧ P (.v (.lst ds)) O1) X) : WE K W (tLst tr) O ts P X := fun b A σ H Q s rs kv kx =>
  h b A σ H _ s rs (fun xs vs A1 O1 H1 p1 s1 n1 r1 => by
    obtain ⟨ds, e, l, p⟩ := p1
    refine ⟨by rw [r1.length]; exact l, fun p' hp => ?_⟩
    obtain ⟨s2, n2, q⟩ := s1.lay hp (.lst vs)
    exact kv _ _ A1 O1 _ p s2 (n1.trans n2) ⟨_, rfl, p', vs, rfl, q, (r1.plain e).ex n2.ext⟩) kx
/-- a list that is owned -/
theorem w_lstO (h : WA K W tr O ts (fun xs O1 => ∃ ds, unv xs = some ds ∧ xs.length ≤ sizeLine ∧ P (.own O1.length) (O1 ++ [.lst ds])) X) : WE K W (tLst tr) O ts P X := fun b A σ H Q s rs kv kx =>
  h b A σ H _ s rs (fun xs vs A1 O1 H1 p1 s1 n1 r1 => by
    obtain ⟨ds, e, l, p⟩ := p1
    refine ⟨by rw [r1.length]; exact l, fun p' hp => ?_⟩
    obtain ⟨s2, n2⟩ := s1.own (o := .lst ds) hp ⟨vs, upd_same, r1.plain e⟩
    refine kv _ _ _ _ _ p s2 (n1.trans n2) ⟨p', ?_, rfl⟩
    rw [← s1.len, List.getElem?_append_right (Nat.le_refl _), Nat.sub_self]
    exact rfl) kx
theorem w_call {rc : List V → Hp → VK → Prop} (h : WA K W tr O ts (fun xs O1 => WC K rc xs O1 P) X) : WE K W (tCB rc tr) O ts P X := fun b A σ H Q s rs kv kx =>
  h b A σ H _ s rs (fun xs vs A1 O1 H1 p1 s1 n1 r1 => p1 b A1 H1 Q vs s1 r1 (kv.nxt n1)) kx
end
end G

set_option Elab.async false
set_option linter.all false
set_option maxRecDepth 100000
set_option maxHeartbeats 4000000
namespace G
open PySem PySem.Spec PyProof.Rows L2

section
variable {K : PySem.W.Frag} {W : WX} {O : List OD} {ts : List T} {E : DE} {t u : TS} {te : TE} {tt : TT} {ta : TA}
theorem WS.imp {E' : DE} (h : WS K W t O ts E) (hn : ∀ ts O, E.nx ts O → E'.nx ts O) (hr : ∀ t O, E.rt t O → E'.rt t O) (hb : ∀ ts O, E.bk ts O → E'.bk ts O) (hc : ∀ ts O, E.ct ts O → E'.ct ts O) (hx : ∀ C fs ts O, E.xe C fs ts O → E'.xe C fs ts O) : WS K W t O ts E' :=
  fun b A σ H D s rs ks => h b A σ H D s rs ⟨fun ts σ A' O' H' p => ks.nx ts σ A' O' H' (hn _ _ p), fun t v A' O' H' p => ks.rt t v A' O' H' (hr _ _ p), fun ts σ A' O' H' p => ks.bk ts σ A' O' H' (hb _ _ p), fun ts σ A' O' H' p => ks.ct ts σ A' O' H' (hc _ _ p),
    fun C fs ts σ A' O' H' d p => ks.xe C fs ts σ A' O' H' d (hx _ _ _ _ p)⟩
theorem s_next (k : E.nx ts O) : WS K W tNext O ts E := fun b A σ H D s rs ks => ks.nx ts σ A O H k s Nxt.refl rs
theorem s_seq (h : WS K W t O ts { E with nx := fun ts' O' => WS K W u O' ts' E }) : WS K W (tSeq t u) O ts E := fun b A σ H D s rs ks =>
  h b A σ H { D with nx := u D } s rs ⟨fun ts' σ' A' O' H' p s' n' rs' => p b A' σ' H' D s' rs' (ks.nxt n'), ks.rt, ks.bk, ks.ct, ks.xe⟩
/-- the same, with a word between -/
theorem s_cut (M : List T → List OD → Prop) (h : WS K W t O ts { E with nx := M }) (k : ∀ ts' O', M ts' O' → WS K W u O' ts' E) : WS K W (tSeq t u) O ts E :=
  s_seq (WS.imp h (fun ts O p => k ts O p) (fun _ _ p => p) (fun _ _ p => p) (fun _ _ p => p) (fun _ _ _ _ p => p))
theorem s_drop (h : WE K W te O ts (fun _ O' => E.nx ts O') (fun C fs O' => E.xe C fs ts O')) : WS K W (tDrop te) O ts E := fun b A σ H D s rs ks =>
  h b A σ H _ s rs (fun t v A' O' H' p s' n' r' => ks.nx ts σ A' O' H' p s' n' (rs.nxt n')) (ks.kx rs)
theorem s_ret (h : WE K W te O ts E.rt (fun C fs O' => E.xe C fs ts O')) : WS K W (tRet te) O ts E := fun b A σ H D s rs ks => h b A σ H _ s rs ks.rt (ks.kx rs)
theorem s_retN (k : E.rt (.v .non) O) : WS K W tRetN O ts E := fun b A σ H D s rs ks => ks.rt (.v .non) .non A O H k s Nxt.refl ⟨_, rfl, rfl⟩
theorem s_if (h : WT K W tt O ts (fun c O' => (c = true → WS K W t O' ts E) ∧ (c = false → WS K W u O' ts E)) (fun C fs O' => E.xe C fs ts O')) : WS K W (tIfS tt t u) O ts E := fun b A σ H D s rs ks =>
  h b A σ H _ s rs (fun c A1 O1 H1 p1 s1 n1 => by
    cases c with
    | true => exact iteT (p1.1 rfl b A1 σ H1 D s1 (rs.nxt n1) (ks.nxt n1))
    | false => exact iteF (p1.2 rfl b A1 σ H1 D s1 (rs.nxt n1) (ks.nxt n1))) (ks.kx rs)

theorem repT_int {F : Hp} {A : List Addr} (i : Int) : RepT K F A (.v (.int i)) (some (.int i)) := ⟨_, rfl, rfl⟩
def WG (K : PySem.W.Frag) (W : WX) (g : TG) (t : T) (O : List OD) (ts : List T) (N : List T → List OD → Prop) : Prop :=
  ∀ b A σ H Q v, StO K b A O H → RepS K (Fz b A O H) A ts σ → RepT K (Fz b A O H) A t (some v) → KN K b A O H N Q → g v σ H Q
def WGs (K : PySem.W.Frag) (W : WX) (g : TGs) (xs : List T) (O : List OD) (ts : List T) (N : List T → List OD → Prop) : Prop :=
  ∀ b A σ H Q vs, StO K b A O H → RepS K (Fz b A O H) A ts σ → RepTs K (Fz b A O H) A xs vs → KN K b A O H N Q → g vs σ H Q
theorem g_name {i : Nat} {x : T} {N : List T → List OD → Prop} (k : N (ts.set i x) O) : WG K W (gName i) x O ts N := fun b A σ H Q v s rs r kn => kn _ _ A O H k s Nxt.refl (rs.set r i)
theorem g_nil {N : List T → List OD → Prop} (k : N ts O) : WGs K W gNil [] O ts N := fun b A σ H Q vs s rs r kn => ⟨r, kn ts σ A O H k s Nxt.refl rs⟩
theorem g_cons {g : TG} {gs : TGs} {x : T} {xs : List T} {N : List T → List OD → Prop} (h : WG K W g x O ts (fun ts' O' => WGs K W gs xs O' ts' N)) : WGs K W (gCons g gs) (x :: xs) O ts N := fun b A σ H Q vs s rs r kn => by
  obtain ⟨v, r', rfl, r1, r2⟩ := r
  exact ⟨v, r', rfl, h b A σ H _ v s rs r1 fun ts' σ' A' O' H' p s' n' rs' => p b A' σ' H' Q r' s' rs' (r2.nxt n') (kn.nxt n')⟩
theorem repTs_v {F : Hp} {A : List Addr} : ∀ {ds : List D} {vs : List V}, RepL K F ds vs → RepTs K F A (ds.map T.v) vs
  | [], _, h => h
  | d :: ds, _, h => by
    obtain ⟨v, r, e, h1, h2⟩ := h
    exact ⟨v, r, e, ⟨v, rfl, h1⟩, repTs_v h2⟩
/-- a, b = a tuple -/
theorem g_tup {n : Nat} {gs : TGs} {ds : List D} {N : List T → List OD → Prop} (hl : ds.length = n) (h : WGs K W gs (ds.map T.v) O ts N) : WG K W (gTup K n gs) (.v (.tup ds)) O ts N := fun b A σ H Q v s rs r kn => by
  obtain ⟨_, e, a, vs, rfl, h1, h2⟩ := r
  cases e
  exact ⟨a, vs, rfl, (hid_ex : Ex (Fz b A O H) H).t h1, by rw [h2.length]; exact hl, h b A σ H Q vs s rs (repTs_v h2) kn⟩
theorem s_asg {g : TG} (h : WE K W te O ts (fun t O' => WG K W g t O' ts E.nx) (fun C fs O' => E.xe C fs ts O')) : WS K W (tAsg te g) O ts E := fun b A σ H D s rs ks =>
  h b A σ H _ s rs (fun t v A' O' H' p s' n' r' => p b A' σ H' D.nx v s' (rs.nxt n') r' (ks.nx.nxt n')) (ks.kx rs)
theorem s_set {i : Nat} (h : WE K W te O ts (fun t O' => E.nx (ts.set i t) O') (fun C fs O' => E.xe C fs ts O')) : WS K W (tAsg te (gName i)) O ts E := s_asg (h.imp fun t O' p => g_name p)
theorem s_par {i j : Nat} (h : WA K W ta O ts (fun xs O' => ∃ x y, xs = [x, y] ∧ E.nx ((ts.set i x).set j y) O') (fun C fs O' => E.xe C fs ts O')) : WS K W (tPar i j ta) O ts E := fun b A σ H D s rs ks =>
  h b A σ H _ s rs (fun xs vs A' O' H' p s' n' r' => by
    obtain ⟨x, y, rfl, q⟩ := p
    obtain ⟨v, _, rfl, r1, w', _, rfl, r2, rfl⟩ := r'
    exact ⟨v, w', rfl, ks.nx _ _ A' O' H' q s' n' (((rs.nxt n').set r1 i).set r2 j)⟩) (ks.kx rs)
theorem s_aug {i : Nat} {f : Int → Int → Int} {a : Int} (ha : ts[i]? = some (.v (.int a))) (h : WE K W te O ts (fun t O' => ∃ c, t = .v (.int c) ∧ E.nx (ts.set i (.v (.int (f a c)))) O') (fun C fs O' => E.xe C fs ts O')) : WS K W (tAug i te (ipI f)) O ts E := fun b A σ H D s rs ks => by
  obtain ⟨o, e, v, rfl, rd⟩ := rs.2 i _ ha
  refine ⟨v, e, h b A σ H _ s rs (fun t y A' O' H' p s' n' r' => ?_) (ks.kx rs)⟩
  obtain ⟨c, rfl, q⟩ := p
  obtain ⟨_, e2, rd2⟩ := r'
  cases e2
  exact ⟨a, c, rd, rd2, ks.nx _ _ A' O' H' q s' n' ((rs.nxt n').set (repT_int (f a c)) i)⟩

/-- what a for loop's source is, over data: the items, as they come -/
def WI (K : PySem.W.Frag) (W : WX) (wi : TI) (O : List OD) (ts : List T) (S : (Nat → Option T) → List OD → Prop) (X : XX) : Prop :=
  ∀ b A σ H R, StO K b A O H → RepS K (Fz b A O H) A ts σ →
    (∀ J f A' O' H', S f O' → StO K b A' O' H' → Nxt b A O H A' O' H' →
      (∀ i A2 O2 H2, StO K b A2 O2 H2 → Nxt b A' O' H' A2 O2 H2 → (f i = none → (∀ j, j < i → f j ≠ none) → J.stop i H2) ∧ (∀ t, f i = some t → J.go i H2 ∧ ∀ x H3, J.yld i H2 x H3 → StO K b A2 O2 H3 ∧ Nxt b A2 O2 H2 A2 O2 H3 ∧ RepT K (Fz b A2 O2 H3) A2 t (some x))) → R J H') →
    KX K W b A O σ H X → wi σ H R
/-- the items of a list of data -/
def itD (ds : List D) : Nat → Option T := fun i => (ds[i]?).map T.v
theorem itD_none {ds : List D} {i : Nat} (h : itD ds i = none) : ds.length ≤ i := by
  unfold itD at h
  cases q : ds[i]? with
  | none => exact List.getElem?_eq_none_iff.mp q
  | some d =>
    rw [q] at h
    cases h
theorem itD_some {ds : List D} {i : Nat} {t : T} (h : itD ds i = some t) : ∃ d, ds[i]? = some d ∧ t = .v d := by
  unfold itD at h
  cases q : ds[i]? with
  | none =>
    rw [q] at h
    cases h
  | some d =>
    rw [q] at h
    exact ⟨d, rfl, (Option.some.inj h).symm⟩
theorem i_list {tl : TE} {S : (Nat → Option T) → List OD → Prop} {X : XX} (h : WE K W tl O ts (fun t O' => ∃ ds, t = .v (.lst ds) ∧ S (itD ds) O') X) : WI K W (iList K tl) O ts S X := fun b A σ H R s rs k kx =>
  h b A σ H _ s rs (fun t v A' O' H' p s' n' r' => by
    obtain ⟨ds, rfl, q⟩ := p
    obtain ⟨_, e, a, vs, rfl, h1, h2⟩ := r'
    replace h1 := SqL.of (K := K) h1
    cases e
    have h1' := (hid_ex : Ex (Fz b A' O' H') H').l h1
    refine ⟨a, rfl, ⟨vs, h1'⟩, k _ _ A' O' H' q s' n' fun i A2 O2 H2 s2 n2 => ⟨fun hn _ => ⟨vs, hid_ex.l (n2.ext.l h1), by rw [h2.length]; exact itD_none hn⟩, fun t ht => ?_⟩⟩
    obtain ⟨d, e1, rfl⟩ := itD_some ht
    obtain ⟨v, e2, r⟩ := h2.get e1
    have h2' : SqL K H2 a vs := hid_ex.l (n2.ext.l h1)
    refine ⟨⟨vs, v, h2', e2⟩, fun x H3 y => ?_⟩
    obtain ⟨rfl, y⟩ := y
    have e3 := (y vs h2').symm.trans e2
    have e4 : x = v := Option.some.inj e3
    subst e4
    exact ⟨s2, Nxt.refl, ⟨_, rfl, r.ex n2.ext⟩⟩) kx
theorem i_tup {tl : TE} {S : (Nat → Option T) → List OD → Prop} {X : XX} (h : WE K W tl O ts (fun t O' => ∃ ds, t = .v (.tup ds) ∧ S (itD ds) O') X) : WI K W (iTup K tl) O ts S X := fun b A σ H R s rs k kx =>
  h b A σ H _ s rs (fun t v A' O' H' p s' n' r' => by
    obtain ⟨ds, rfl, q⟩ := p
    obtain ⟨_, e, a, vs, rfl, h1, h2⟩ := r'
    cases e
    have h1' := (hid_ex : Ex (Fz b A' O' H') H').t h1
    refine ⟨a, rfl, ⟨vs, h1'⟩, k _ _ A' O' H' q s' n' fun i A2 O2 H2 s2 n2 => ⟨fun hn _ => ⟨vs, hid_ex.t (n2.ext.t h1), by rw [h2.length]; exact itD_none hn⟩, fun t ht => ?_⟩⟩
    obtain ⟨d, e1, rfl⟩ := itD_some ht
    obtain ⟨v, e2, r⟩ := h2.get e1
    have h2' : SqT K H2 a vs := hid_ex.t (n2.ext.t h1)
    refine ⟨⟨vs, v, h2', e2⟩, fun x H3 y => ?_⟩
    obtain ⟨rfl, y⟩ := y
    have e3 := (y vs h2').symm.trans e2
    have e4 : x = v := Option.some.inj e3
    subst e4
    exact ⟨s2, Nxt.refl, ⟨_, rfl, r.ex n2.ext⟩⟩) kx
/-- the integers from lo on, n of them -/
def itR (lo c : Int) (n : Nat) : Nat → Option T := fun i => if i < n then some (.v (.int (lo + (i : Int) * c))) else none
theorem itR_none {lo c : Int} {n i : Nat} (h : itR lo c n i = none) : n ≤ i := by
  unfold itR at h
  by_cases q : i < n
  · rw [if_pos q] at h
    cases h
  · omega
theorem itR_some {lo c : Int} {n i : Nat} {t : T} (h : itR lo c n i = some t) : i < n ∧ t = .v (.int (lo + (i : Int) * c)) := by
  unfold itR at h
  by_cases q : i < n
  · rw [if_pos q] at h
    exact ⟨q, (Option.some.inj h).symm⟩
  · rw [if_neg q] at h
    cases h
theorem r_facts {b : Bs} {lo : Int} {n : Nat} {A' : List Addr} {O' : List OD} {H' : Hp} (i : Nat) (A2 : List Addr) (O2 : List OD) (H2 : Hp) (s2 : StO K b A2 O2 H2) :
    (itR lo 1 n i = none → (∀ j, j < i → itR lo 1 n j ≠ none) → (Itr lo n).stop i H2) ∧ (∀ t, itR lo 1 n i = some t → (Itr lo n).go i H2 ∧ ∀ x H3, (Itr lo n).yld i H2 x H3 → StO K b A2 O2 H3 ∧ Nxt b A2 O2 H2 A2 O2 H3 ∧ RepT K (Fz b A2 O2 H3) A2 t (some x)) := by
  refine ⟨fun hn _ => itR_none hn, fun t ht => ?_⟩
  obtain ⟨hi, rfl⟩ := itR_some ht
  refine ⟨hi, fun x H3 y => ?_⟩
  obtain ⟨rfl, rfl⟩ := y
  exact ⟨s2, Nxt.refl, ⟨_, rfl, by rw [Int.mul_one]; exact rfl⟩⟩
theorem i_rng1 {S : (Nat → Option T) → List OD → Prop} {X : XX} (h : WA K W ta O ts (fun xs O' => ∃ j : Int, xs = [.v (.int j)] ∧ (-(2 ^ 62) ≤ j ∧ j < 2 ^ 62) ∧ S (itR 0 1 j.toNat) O') X) : WI K W (iRng1 ta) O ts S X := fun b A σ H R s rs k kx =>
  h b A σ H _ s rs (fun xs vs A' O' H' p s' n' r' => by
    obtain ⟨j, rfl, hj, q⟩ := p
    obtain ⟨v, _, rfl, ⟨_, e, rfl⟩, rfl⟩ := r'
    cases e
    exact ⟨j, rfl, hj.1, hj.2, k _ _ A' O' H' q s' n' fun i A2 O2 H2 s2 _ => r_facts (A' := A') (O' := O') (H' := H') i A2 O2 H2 s2⟩) kx
theorem i_rng2 {S : (Nat → Option T) → List OD → Prop} {X : XX} (h : WA K W ta O ts (fun xs O' => ∃ i j : Int, xs = [.v (.int i), .v (.int j)] ∧ (-(2 ^ 62) ≤ i ∧ i < 2 ^ 62 ∧ -(2 ^ 62) ≤ j ∧ j < 2 ^ 62) ∧ S (itR i 1 (j - i).toNat) O') X) : WI K W (iRng2 ta) O ts S X := fun b A σ H R s rs k kx =>
  h b A σ H _ s rs (fun xs vs A' O' H' p s' n' r' => by
    obtain ⟨i, j, rfl, hj, q⟩ := p
    obtain ⟨v, _, rfl, ⟨_, e, rfl⟩, w', _, rfl, ⟨_, e2, rfl⟩, rfl⟩ := r'
    cases e
    cases e2
    exact ⟨i, j, rfl, hj, k _ _ A' O' H' q s' n' fun i A2 O2 H2 s2 _ => r_facts (A' := A') (O' := O') (H' := H') i A2 O2 H2 s2⟩) kx
/-- a for loop by an invariant over the turn, the slots and the owned things; n: the number of items -/
theorem s_for {wi : TI} {g : TG} {tb : TS} (h : WI K W wi O ts (fun f O1 => ∃ (n : Nat) (I : Nat → List T → List OD → Prop), (∀ i, i < n → f i ≠ none) ∧ f n = none ∧ I 0 ts O1 ∧
      (∀ i t ts' O', i < n → f i = some t → I i ts' O' → WG K W g t O' ts' (fun ts2 O2 => WS K W tb O2 ts2 { E with nx := I (i + 1), ct := I (i + 1), bk := E.nx })) ∧ (∀ ts' O', I n ts' O' → E.nx ts' O')) (fun C fs O' => E.xe C fs ts O')) : WS K W (tFor wi g tb) O ts E := fun b A σ H D s rs ks =>
  h b A σ H _ s rs (fun J f A1 O1 H1 p s1 n1 fc => by
    obtain ⟨n, I, hf, hn, h0, hs, hd⟩ := p
    refine ⟨fun i m σ' H' => m = n - i ∧ i ≤ n ∧ ∃ ts' A' O', I i ts' O' ∧ StO K b A' O' H' ∧ Nxt b A1 O1 H1 A' O' H' ∧ RepS K (Fz b A' O' H') A' ts' σ', ⟨n, by omega, Nat.zero_le _, ts, A1, O1, h0, s1, Nxt.refl, rs.nxt n1⟩, ?_⟩
    rintro i m σ' H' ⟨rfl, hi, ts', A', O', hI, s', n', rs'⟩
    obtain ⟨c1, c2⟩ := fc i A' O' H' s' n'
    by_cases hlt : i < n
    · right
      obtain ⟨t, ht⟩ := Option.ne_none_iff_exists'.mp (hf i hlt)
      obtain ⟨hgo, hy⟩ := c2 t ht
      refine ⟨hgo, fun σ2 H2 => ∃ ts2 A2 O2, I (i + 1) ts2 O2 ∧ StO K b A2 O2 H2 ∧ Nxt b A1 O1 H1 A2 O2 H2 ∧ RepS K (Fz b A2 O2 H2) A2 ts2 σ2, fun σ2 H2 q => ⟨n - (i + 1), by omega, rfl, hlt, q⟩, fun x H3 y => ?_⟩
      obtain ⟨s3, n3, r3⟩ := hy x H3 y
      refine hs i t ts' O' hlt ht hI b A' σ' H3 _ x s3 (rs'.nxt n3) r3 fun ts4 σ4 A4 O4 H4 p4 s4 n4 rs4 => ?_
      have n14 := (n'.trans n3).trans n4
      refine p4 b A4 σ4 H4 _ s4 rs4 ⟨fun ts5 σ5 A5 O5 H5 p5 s5 n5 rs5 => ⟨ts5, A5, O5, p5, s5, n14.trans n5, rs5⟩, ks.rt.nxt (n1.trans n14), ks.nx.nxt (n1.trans n14), fun ts5 σ5 A5 O5 H5 p5 s5 n5 rs5 => ⟨ts5, A5, O5, p5, s5, n14.trans n5, rs5⟩,
        fun C fs ts5 σ5 A5 O5 H5 d p5 s5 n5 rs5 rx => ks.xe C fs ts5 σ5 A5 O5 H5 d p5 s5 ((n1.trans n14).trans n5) rs5 rx⟩
    · left
      have e : i = n := by omega
      subst e
      exact ⟨c1 hn hf, ks.nx ts' σ' A' O' H' (hd ts' O' hI) s' (n1.trans n') rs'⟩) (ks.kx rs)
/-- while: an invariant with a measure -/
theorem s_while {tb : TS} (I : Nat → List T → List OD → Prop) (m0 : Nat) (h0 : I m0 ts O)
    (hs : ∀ m ts' O', I m ts' O' → WT K W tt O' ts' (fun c O2 => (c = true → WS K W tb O2 ts' { E with nx := fun ts3 O3 => ∃ m', m' < m ∧ I m' ts3 O3, ct := fun ts3 O3 => ∃ m', m' < m ∧ I m' ts3 O3, bk := E.nx }) ∧ (c = false → E.nx ts' O2)) (fun C fs O2 => E.xe C fs ts' O2)) :
    WS K W (tWhile tt tb) O ts E := fun b A σ H D s rs ks => by
  refine ⟨fun m σ' H' => ∃ ts' A' O', I m ts' O' ∧ StO K b A' O' H' ∧ Nxt b A O H A' O' H' ∧ RepS K (Fz b A' O' H') A' ts' σ', ⟨m0, ts, A, O, h0, s, Nxt.refl, rs⟩, ?_⟩
  rintro m σ' H' ⟨ts', A', O', hI, s', n', rs'⟩
  refine hs m ts' O' hI b A' σ' H' _ s' rs' (fun c A2 O2 H2 p2 s2 n2 => ?_) ((ks.nxt n').kx rs')
  cases c with
  | true =>
    refine iteT ⟨fun σ3 H3 => ∃ m', m' < m ∧ ∃ ts3 A3 O3, I m' ts3 O3 ∧ StO K b A3 O3 H3 ∧ Nxt b A O H A3 O3 H3 ∧ RepS K (Fz b A3 O3 H3) A3 ts3 σ3, fun σ3 H3 q => q, ?_⟩
    have n12 := n'.trans n2
    exact p2.1 rfl b A2 σ' H2 _ s2 (rs'.nxt n2) ⟨fun ts3 σ3 A3 O3 H3 ⟨m', l, p3⟩ s3 n3 rs3 => ⟨m', l, ts3, A3, O3, p3, s3, n12.trans n3, rs3⟩, ks.rt.nxt n12, ks.nx.nxt n12, fun ts3 σ3 A3 O3 H3 ⟨m', l, p3⟩ s3 n3 rs3 => ⟨m', l, ts3, A3, O3, p3, s3, n12.trans n3, rs3⟩,
      fun C fs ts3 σ3 A3 O3 H3 d p3 s3 n3 rs3 rx => ks.xe C fs ts3 σ3 A3 O3 H3 d p3 s3 (n12.trans n3) rs3 rx⟩
  | false => exact iteF (ks.nx ts' σ' A2 O2 H2 (p2.2 rfl) s2 (n'.trans n2) (rs'.nxt n2))
end
end G

set_option Elab.async false
set_option linter.all false
set_option maxRecDepth 100000
set_option maxHeartbeats 4000000
namespace G
open PySem PySem.Spec PyProof.Rows L2

theorem live_app : ∀ {A M : List Addr} {O N : List OD}, A.length = O.length → live (A ++ M) (O ++ N) = live A O ++ live M N
  | [], _, [], _, _ => rfl
  | [], _, _ :: _, _, h => by simp at h
  | _ :: _, _, [], _, h => by simp at h
  | a :: A, M, u :: O, N, h => by
    have ih := live_app (A := A) (O := O) (M := M) (N := N) (by simpa using h)
    cases u <;> simp only [List.cons_append, live, ih]
section
variable {K : PySem.W.Frag} {b : Bs} {A M : List Addr} {O N : List OD} {H : Hp}
theorem StO.drop (s : StO K b (A ++ M) (O ++ N) H) (hl : A.length = O.length) (hp : ∃ L, A = b.A0 ++ L) : StO K b A O H ∧ Ex (Fz b (A ++ M) (O ++ N) H) (Fz b A O H) := by
  have e := live_app (M := M) (N := N) hl
  have sub : ∀ a, a ∈ live A O → a ∈ live (A ++ M) (O ++ N) := fun a h => by
    rw [e]
    exact List.mem_append_left _ h
  have x : Ex (Fz b (A ++ M) (O ++ N) H) (Fz b A O H) := hid_mono (fun _ _ _ h => h) fun a o h _ z => by
    rcases List.mem_append.mp z with z | z
    · exact h (List.mem_append_left _ (sub a z))
    · exact h (List.mem_append_right _ z)
  refine ⟨⟨hl, hp, s.ext.trans (hid_mono (fun _ _ _ h => h) fun a o h _ z => h (sub a z)), s.zs, (List.nodup_append.mp s.nd).1, fun a h => s.inh a (List.mem_append_left _ h), fun i a o h1 h2 => ?_, s.tb⟩, x⟩
  have l1 : i < A.length := (List.getElem?_eq_some_iff.mp h1).1
  exact (s.cell i a o (by rw [List.getElem?_append_left l1]; exact h1) (by rw [List.getElem?_append_left (by rw [← hl]; exact l1)]; exact h2)).ex x fun _ h => h
end

def okG : List OD → Bool
  | [] => true
  | .gone :: _ => false
  | _ :: r => okG r
theorem okG_live : ∀ {A : List Addr} {O : List OD}, A.length = O.length → okG O = true → live A O = A
  | [], [], _, _ => rfl
  | [], _ :: _, h, _ => by simp at h
  | _ :: _, [], h, _ => by simp at h
  | a :: A, o :: O, h, g => by
    cases o with
    | gone => cases g
    | lst ds => exact congrArg (a :: ·) (okG_live (A := A) (O := O) (by simpa using h) g)
    | ins C fs => exact congrArg (a :: ·) (okG_live (A := A) (O := O) (by simpa using h) g)
    | dic kvs => exact congrArg (a :: ·) (okG_live (A := A) (O := O) (by simpa using h) g)
abbrev SpD := List T → List OD → PT' → XX → Prop
/-- the promise, over the heap -/
def lift (K : PySem.W.Frag) (sp : SpD) : Sp := fun vs H Q E => ∃ (Z A : List Addr) (O : List OD) (ts : List T) (P : PT') (X : XX),
  StO K ⟨hid A H, Z, A⟩ A O H ∧ okG O = true ∧ RepTs K (Fz ⟨hid A H, Z, A⟩ A O H) A ts vs ∧ sp ts O P X ∧
  (∀ t v O' H', P t O' → okG O' = true → StO K ⟨hid A H, Z, A⟩ A O' H' → RepT K (Fz ⟨hid A H, Z, A⟩ A O' H') A t (some v) → Q v H') ∧
  (∀ C fs O' H' d, X C fs O' → okG O' = true → StO K ⟨hid A H, Z, A⟩ A O' H' → RepX K (Fz ⟨hid A H, Z, A⟩ A O' H') H' fs d → E C d H')
theorem lift_len {K : PySem.W.Frag} {sp : SpD} {n : Nat} (h : ∀ ts O P X, sp ts O P X → ts.length = n) : ∀ vs H Q E, lift K sp vs H Q E → vs.length = n := fun vs H Q E ⟨_, _, _, ts, _, _, _, _, r, p, _, _⟩ => by
  rw [r.length]
  exact h _ _ _ _ p
/-- what a def hands back: an owned list of its own becomes plain data -/
def retOk (n : Nat) (P : PT') (t : T) (O : List OD) : Prop := okG (O.take n) = true ∧ match t with
  | .v d => P (.v d) (O.take n)
  | .own i => if i < n then P (.own i) (O.take n) else (match O[i]? with
    | some (.lst ds) => P (.v (.lst ds)) (O.take n)
    | some (.ins C fs) => P (.v (.ins C fs)) (O.take n)
    | some (.dic kvs) => P (.v (.dic kvs)) (O.take n)
    | _ => False)
  | _ => False
def bodyE (n : Nat) (P : PT') (X : XX) : DE where
  nx := fun _ O' => okG (O'.take n) = true ∧ P (.v .non) (O'.take n)
  rt := retOk n P
  xe := fun C fs _ O' => okG (O'.take n) = true ∧ X C fs (O'.take n)
def startT (N : Nat) (ts : List T) : List T := ts ++ List.replicate (N - ts.length) .no
theorem repS_start {K : PySem.W.Frag} {F : Hp} {A : List Addr} {N : List Str} {ts : List T} {vs : List V} (r : RepTs K F A ts vs) : RepS K F A (startT N.length ts) (L2.start N vs) := by
  have hl := r.length
  refine ⟨?_, fun i t h => ?_⟩
  · unfold startT L2.start
    rw [List.length_append, List.length_append, List.length_replicate, List.length_replicate, List.length_map, hl]
  · unfold startT at h
    unfold L2.start
    by_cases hi : i < ts.length
    · rw [List.getElem?_append_left hi] at h
      obtain ⟨v, e, q⟩ := r.get h
      refine ⟨some v, ?_, q⟩
      rw [List.getElem?_append_left (by rw [List.length_map, hl]; exact hi), List.getElem?_map, e]
      exact rfl
    · rw [List.getElem?_append_right (by omega)] at h
      rw [List.getElem?_append_right (by rw [List.length_map, hl]; omega), List.length_map, hl]
      rw [List.getElem?_replicate] at h ⊢
      by_cases h2 : i - ts.length < N.length - ts.length
      · rw [if_pos h2] at h ⊢
        have e : T.no = t := Option.some.inj h
        subst e
        exact ⟨_, rfl, trivial⟩
      · rw [if_neg h2] at h
        cases h
theorem enter {K : PySem.W.Frag} {sp : SpD} {t : TS} {N : List Str} {vs : List V} {H : Hp} {Q : VK} {E : XK} (h : lift K sp vs H Q E)
    (hb : ∀ ts O P X, sp ts O P X → okG O = true → WS K (fun c d _ H => E c d H) t O (startT N.length ts) (bodyE O.length P X)) : t { nx := fun _ H' => Q .non H', rt := Q } (L2.start N vs) H := by
  obtain ⟨Z, A, O, ts, P, X, s, g, r, p, hq, hx⟩ := h
  have hlen := s.len
  have shut : ∀ {A' O' H'}, StO K ⟨hid A H, Z, A⟩ A' O' H' → ∃ M, A' = A ++ M ∧ StO K ⟨hid A H, Z, A⟩ A (O'.take O.length) H' ∧ Ex (Fz ⟨hid A H, Z, A⟩ A' O' H') (Fz ⟨hid A H, Z, A⟩ A (O'.take O.length) H') := fun {A' O' H'} s' => by
    obtain ⟨M, e⟩ := s'.pre
    have e : A' = A ++ M := e
    subst e
    have l1 := s'.len
    rw [List.length_append] at l1
    have e2 : O' = O'.take O.length ++ O'.drop O.length := (List.take_append_drop _ _).symm
    have s2 := s'
    rw [e2] at s2
    obtain ⟨s3, x3⟩ := s2.drop (by rw [List.length_take]; omega) ⟨[], (List.append_nil A).symm⟩
    refine ⟨M, rfl, s3, ?_⟩
    rw [← e2] at x3
    exact x3
  refine hb ts O P X p g _ A _ H _ s (repS_start r) ⟨fun ts' σ' A' O' H' q s' _ _ => ?_, fun t v A' O' H' q s' _ rt => ?_, fun _ _ _ _ _ q => q.elim, fun _ _ _ _ _ q => q.elim, fun C fs ts' σ' A' O' H' d q s' _ _ rx => ?_⟩
  · obtain ⟨M, _, s3, _⟩ := shut s'
    exact hq (.v .non) .non _ H' q.2 q.1 s3 ⟨_, rfl, rfl⟩
  · obtain ⟨M, e, s3, x3⟩ := shut s'
    obtain ⟨q1, q2⟩ := q
    cases t with
    | v d =>
      obtain ⟨w, e4, r4⟩ := rt
      exact hq (.v d) v _ H' q2 q1 s3 ⟨w, e4, r4.ex x3⟩
    | own i =>
      obtain ⟨a, e4, e5⟩ := rt
      have ev : v = .ref a := Option.some.inj e5
      subst ev
      have q3 : if i < O.length then P (.own i) (O'.take O.length) else (match O'[i]? with
        | some (.lst ds) => P (.v (.lst ds)) (O'.take O.length)
        | some (.ins C fs) => P (.v (.ins C fs)) (O'.take O.length)
        | some (.dic kvs) => P (.v (.dic kvs)) (O'.take O.length)
        | _ => False) := q2
      by_cases hi : i < O.length
      · rw [if_pos hi] at q3
        refine hq (.own i) _ _ H' q3 q1 s3 ⟨a, ?_, rfl⟩
        rw [e, List.getElem?_append_left (by rw [hlen]; exact hi)] at e4
        exact e4
      · rw [if_neg hi] at q3
        have hn : a ∉ A := fun hm => by
          have nd := s'.nd
          rw [e] at nd e4
          rw [List.getElem?_append_right (by rw [hlen]; omega)] at e4
          exact (List.nodup_append.mp nd).2.2 a hm a (List.mem_of_getElem? e4) rfl
        have fz : ∀ o, H' a = some o → Fz ⟨hid A H, Z, A⟩ A (O'.take O.length) H' a = some o := fun o ho => hid_some.mpr ⟨fun z => by
          rcases List.mem_append.mp z with z | z
          · rw [okG_live s3.len q1] at z
            exact hn z
          · obtain ⟨o2, z2, _⟩ := s3.zs a z
            have z3 := (hid_some.mp z2).2
            have zz := s'.z_at (a := a) z
            cases ho' : O'[i]? with
            | none =>
              rw [ho'] at q3
              exact q3
            | some w =>
              rw [ho'] at q3
              have ng : w ≠ .gone := fun zz2 => by
                subst zz2
                exact q3
              exact zz.1 (live_at e4 ho' ng), ho⟩
        cases ho : O'[i]? with
        | none =>
          rw [ho] at q3
          exact q3.elim
        | some w =>
          rw [ho] at q3
          have c := s'.cell i a w e4 ho
          cases w with
          | gone => exact q3.elim
          | lst ds =>
            obtain ⟨us, c1, c2⟩ := c
            exact hq (.v (.lst ds)) _ _ H' q3 q1 s3 ⟨_, rfl, a, us, rfl, fz _ c1, c2.ex x3⟩
          | ins C fs =>
            obtain ⟨dx, us, c1, c2⟩ := c
            exact hq (.v (.ins C fs)) _ _ H' q3 q1 s3 ⟨_, rfl, a, dx, us, rfl, fz _ c1, c2.ex x3⟩
          | dic kvs =>
            obtain ⟨us, c1, c2⟩ := c
            exact hq (.v (.dic kvs)) _ _ H' q3 q1 s3 ⟨_, rfl, a, us, rfl, fz _ c1, c2.ex x3⟩
    | no => exact q2.elim
    | clo R f => exact q2.elim
  · obtain ⟨M, _, s3, x3⟩ := shut s'
    refine hx C fs _ H' d q.2 q.1 s3 ?_
    cases fs with
    | none => exact rx
    | some l =>
      obtain ⟨dx, us, r1, r2, r3⟩ := rx
      exact ⟨dx, us, r1, x3 _ _ r2 (by (first | assumption | exact nt_exc | exact fun _ z => (by cases z))), r3.ex x3⟩

section
variable {K : PySem.W.Frag} {W : WX} {O : List OD} {ts : List T} {P : PT'} {X : XX} {sp : SpD} {te ta : TE} {tr : TA} {E : XK}
theorem unv_reps {F : Hp} {A A' : List Addr} : ∀ {xs : List T} {vs : List V} {ds : List D}, unv xs = some ds → RepTs K F A xs vs → RepTs K F A' xs vs
  | [], _, _, _, h => h
  | .v d :: xs, _, ds, e, h => by
    obtain ⟨v, r, e1, ⟨w, e2, r2⟩, h2⟩ := h
    have e3 : (unv xs).map (d :: ·) = some ds := e
    cases q : unv xs with
    | none =>
      rw [q] at e3
      cases e3
    | some es => exact ⟨v, r, e1, ⟨w, e2, r2⟩, unv_reps q h2⟩
  | .own _ :: _, _, _, e, _ => by cases e
  | .no :: _, _, _, e, _ => by cases e
  | .clo _ _ :: _, _, _, e, _ => by cases e
/-- into a def that is handed plain data alone -/
theorem lift_p {b : Bs} {A : List Addr} {O : List OD} {H : Hp} {σ : L2.St} {Q : VK} {vs : List V} {xs : List T} {ds : List D} (s : StO K b A O H) (r : RepTs K (Fz b A O H) A xs vs) (hx : unv xs = some ds) (hE : ∀ C d H, W C d σ H → E C d H)
    (p : sp xs [] (fun t _ => (∃ d, t = .v d) ∧ P t O) (fun C fs _ => X C fs O)) (kv : KV' K b A O H P Q) (kx : KX K W b A O σ H X) : lift K sp vs H Q E := by
  have eh : hid [] H = H := by
    funext a
    unfold hid
    rw [if_neg (by simp)]
  have nz : ∀ a, a ∈ live A O ++ b.Z → ∃ o, H a = some o ∧ OB o := fun a h => by
    rcases List.mem_append.mp h with h | h
    · exact s.some_at h
    · exact (s.z_at h).2
  have back : ∀ {H'}, StO K ⟨hid [] H, live A O ++ b.Z, []⟩ [] [] H' → StO K b A O H' ∧ Nxt b A O H A O H' := fun {H'} s' => by
    have x : Ex H H' := by
      have x1 := s'.ext
      have e2 : hid (live [] []) H' = H' := by
        funext a
        show hid [] H' a = H' a
        unfold hid
        rw [if_neg (by simp)]
      rw [e2] at x1
      have x2 : Ex (hid [] H) H' := x1
      rw [eh] at x2
      exact x2
    have x3 : Ex (Fz b A O H) (Fz b A O H') := hid_monoW (fun a o _ h n => x a o h n) fun _ _ h _ => h
    exact ⟨⟨s.len, s.pre, s.ext.trans (hid_monoW (fun a o _ h n => x a o h n) fun _ _ h _ => h), s.zs, s.nd, fun a h => let ⟨o, q, n⟩ := s.inh a h; ⟨o, x a o q n, n⟩, fun i a o h1 h2 => (s.cell i a o h1 h2).exW x3 (x a), s'.tb⟩, ⟨[], (List.append_nil A).symm⟩, x3⟩
  refine ⟨live A O ++ b.Z, [], [], xs, _, _, ⟨rfl, ⟨[], rfl⟩, ?_, fun z hz => ?_, List.nodup_nil, fun a h => (by simp at h), fun i a o h _ => (by simp at h), s.tb⟩, rfl, unv_reps hx r, p, fun t v O' H' ⟨⟨d, e⟩, q⟩ g s' rt => ?_, fun C fs O' H' d q g s' rx => ?_⟩
  · show Ex (hid [] H) (hid [] H)
    exact Ex.refl _
  · obtain ⟨o, q, n⟩ := nz z hz
    exact ⟨o, by show hid [] H z = some o; rw [eh]; exact q, n⟩
  · have e0 : O' = [] := List.length_eq_zero_iff.mp s'.len.symm
    subst e0
    obtain ⟨s2, n2⟩ := back s'
    subst e
    exact kv _ v A O H' q s2 n2 rt
  · have e0 : O' = [] := List.length_eq_zero_iff.mp s'.len.symm
    subst e0
    obtain ⟨s2, n2⟩ := back s'
    exact hE C d H' (kx C fs A O H' d q s2 n2 rx)
/-- .. one that lets no exception out -/
theorem w_fn0 (h : WA K W tr O ts (fun xs O1 => ∃ ds, unv xs = some ds ∧ sp xs [] (fun t _ => (∃ d, t = .v d) ∧ P t O1) (fun _ _ _ => False)) X) : WE K W (tCall (lift K sp) [] E0 tr) O ts P X := fun b A σ H Q s rs kv kx =>
  h b A σ H _ s rs (fun xs vs A1 O1 H1 p1 s1 n1 r1 => by
    obtain ⟨ds, e, p⟩ := p1
    rw [List.append_nil]
    exact lift_p (W := fun _ _ _ _ => False) (X := fun _ _ _ => False) (σ := σ) s1 r1 e (fun C d H z => z) p (kv.nxt n1) (fun C fs A' O' H' d z => z.elim)) kx
end
end G

set_option Elab.async false
set_option linter.all false
set_option maxRecDepth 100000
set_option maxHeartbeats 4000000
namespace G
open PySem PySem.Spec PyProof.Rows L2

section
variable {K : PySem.W.Frag} {W : WX} {O : List OD} {ts : List T} {P : PT'} {X : XX} {sp : SpD} {te ta : TE} {tr : TA} {E : XK}
/-- into a def that is handed one owned thing, the i-th one (by it .own 0) -/
def tr1 (i : Nat) : List T → Option (List T)
  | [] => some []
  | .v d :: r => (tr1 i r).map (.v d :: ·)
  | .own j :: r => if j = i then (tr1 i r).map (.own 0 :: ·) else none
  | _ :: _ => none
/-- what a def may hand back -/
def okR : T → Bool
  | .v _ => true
  | .own _ => true
  | _ => false
abbrev un1 (i : Nat) : T → T
  | .own _ => .own i
  | t => t
theorem tr1_reps {F : Hp} {A : List Addr} {i : Nat} {a : Addr} (ha : A[i]? = some a) : ∀ {xs ys : List T} {vs : List V}, tr1 i xs = some ys → RepTs K F A xs vs → RepTs K F [a] ys vs
  | [], ys, _, e, h => by
    have e2 : [] = ys := Option.some.inj e
    subst e2
    exact h
  | .v d :: xs, ys, _, e, h => by
    obtain ⟨v, r, e1, ⟨w, e2, r2⟩, h2⟩ := h
    have e3 : (tr1 i xs).map (.v d :: ·) = some ys := e
    cases q : tr1 i xs with
    | none =>
      rw [q] at e3
      cases e3
    | some es =>
      rw [q] at e3
      have e4 : .v d :: es = ys := Option.some.inj e3
      subst e4
      exact ⟨v, r, e1, ⟨w, e2, r2⟩, tr1_reps ha q h2⟩
  | .own j :: xs, ys, _, e, h => by
    obtain ⟨v, r, e1, ⟨c, e2, r2⟩, h2⟩ := h
    have e3 : (if j = i then (tr1 i xs).map (.own 0 :: ·) else none) = some ys := e
    by_cases hj : j = i
    · rw [if_pos hj] at e3
      subst hj
      cases q : tr1 j xs with
      | none =>
        rw [q] at e3
        cases e3
      | some es =>
        rw [q] at e3
        have e4 : .own 0 :: es = ys := Option.some.inj e3
        subst e4
        rw [ha] at e2
        have e5 : a = c := Option.some.inj e2
        subst e5
        exact ⟨v, r, e1, ⟨a, rfl, r2⟩, tr1_reps ha q h2⟩
    · rw [if_neg hj] at e3
      cases e3
  | .no :: _, _, _, e, _ => by cases e
  | .clo _ _ :: _, _, _, e, _ => by cases e
theorem lift_1 {b : Bs} {A : List Addr} {H : Hp} {σ : L2.St} {Q : VK} {vs : List V} {xs ys : List T} {i : Nat} {o : OD} (s : StO K b A O H) (r : RepTs K (Fz b A O H) A xs vs) (hx : tr1 i xs = some ys) (ho : O[i]? = some o) (ng : okG [o] = true) (hE : ∀ C d H, W C d σ H → E C d H)
    (p : sp ys [o] (fun t O' => ∃ o', O' = [o'] ∧ okR t = true ∧ P (un1 i t) (O.set i o')) (fun C fs O' => ∃ o', O' = [o'] ∧ X C fs (O.set i o'))) (kv : KV' K b A O H P Q) (kx : KX K W b A O σ H X) : lift K sp vs H Q E := by
  have ng1 : o ≠ .gone := fun z => by
    subst z
    cases ng
  have hi : i < A.length := by
    rw [s.len]
    exact (List.getElem?_eq_some_iff.mp ho).1
  obtain ⟨a, ha⟩ : ∃ a, A[i]? = some a := ⟨A[i], List.getElem?_eq_getElem hi⟩
  have hl : a ∈ live A O := live_at ha ho ng1
  have lv1 : ∀ {o' : OD}, o' ≠ .gone → live [a] [o'] = [a] := fun {o'} h => by
    cases o' with
    | gone => exact absurd rfl h
    | _ => rfl
  have mem : ∀ x, x ∈ [a] ++ ((live A O).filter (fun y => y != a) ++ b.Z) ↔ x ∈ live A O ++ b.Z := fun x => by
    simp only [List.mem_append, List.mem_singleton, List.mem_filter, bne_iff_ne, ne_eq]
    constructor
    · rintro (rfl | ⟨h, _⟩ | h)
      · exact .inl hl
      · exact .inl h
      · exact .inr h
    · rintro (h | h)
      · by_cases hx : x = a
        · exact .inl hx
        · exact .inr (.inl ⟨h, hx⟩)
      · exact .inr (.inr h)
  have hid_eq : ∀ H0 : Hp, hid ([a] ++ ((live A O).filter (fun y => y != a) ++ b.Z)) H0 = hid (live A O ++ b.Z) H0 := fun H0 => by
    funext x
    unfold hid
    by_cases hx : x ∈ live A O ++ b.Z
    · rw [if_pos hx, if_pos ((mem x).mpr hx)]
    · rw [if_neg hx, if_neg fun z => hx ((mem x).mp z)]
  have fzc : ∀ {o' : OD} {H0 : Hp}, o' ≠ .gone → Fz ⟨hid [a] H, (live A O).filter (fun y => y != a) ++ b.Z, [a]⟩ [a] [o'] H0 = hid (live A O ++ b.Z) H0 := fun {o' H0} h => by
    show hid (live [a] [o'] ++ ((live A O).filter (fun y => y != a) ++ b.Z)) H0 = _
    rw [lv1 h]
    exact hid_eq H0
  have back : ∀ {o' : OD} {H' : Hp}, o' ≠ .gone → StO K ⟨hid [a] H, (live A O).filter (fun y => y != a) ++ b.Z, [a]⟩ [a] [o'] H' → StO K b A (O.set i o') H' ∧ Nxt b A O H A (O.set i o') H' ∧ Fz b A (O.set i o') H' = hid (live A O ++ b.Z) H' := fun {o' H'} g s' => by
    have x : ∀ c u, c ≠ a → H c = some u → NT u → H' c = some u := fun c u hc h n => by
      have x1 : Ex (hid [a] H) (hid (live [a] [o']) H') := s'.ext
      exact (hid_some.mp (x1 c u (hid_some.mpr ⟨by simpa using hc, h⟩) n)).2
    have el : live A (O.set i o') = live A O := live_set ho ng1 g
    have x3 : Ex (Fz b A O H) (Fz b A (O.set i o') H') := by
      unfold Fz
      rw [el]
      exact hid_monoW (fun c u hc h n => x c u (fun z => hc (List.mem_append_left _ (by rw [z]; exact hl))) h n) fun _ _ h _ => h
    refine ⟨⟨by rw [List.length_set]; exact s.len, s.pre, ?_, s.zs, s.nd, fun c h => ?_, fun j c u h1 h2 => ?_, s'.tb⟩, ⟨⟨[], (List.append_nil A).symm⟩, x3⟩, by unfold Fz; rw [el]⟩
    · rw [el]
      exact s.ext.trans (hid_monoW (fun c u hc h n => x c u (fun z => hc (by rw [z]; exact hl)) h n) fun _ _ h _ => h)
    · by_cases z : c = a
      · rw [z]
        exact s'.inh a List.mem_cons_self
      · obtain ⟨u, q, n⟩ := s.inh c h
        exact ⟨u, x c u z q n, n⟩
    · rw [List.getElem?_set] at h2
      by_cases hij : i = j
      · subst hij
        rw [if_pos rfl] at h2
        rw [ha] at h1
        have e3 : a = c := Option.some.inj h1
        subst e3
        by_cases hlt : i < O.length
        · rw [if_pos hlt] at h2
          have e4 : o' = u := Option.some.inj h2
          subst e4
          have c := s'.cell 0 a o' rfl rfl
          refine c.ex (fun y w h _ => ?_) fun _ h => h
          rw [fzc g] at h
          unfold Fz
          rw [el]
          exact h
        · rw [if_neg hlt] at h2
          cases h2
      · rw [if_neg hij] at h2
        have hne : c ≠ a := fun z => hij (nd_ix s.nd ha (z ▸ h1))
        exact (s.cell j c u h1 h2).exW x3 fun w h n => x c w hne h n
  have one : ∀ {o' : OD}, okG [o'] = true → o' ≠ .gone := fun {o'} g z => by
    subst z
    cases g
  refine ⟨(live A O).filter (fun y => y != a) ++ b.Z, [a], [o], ys, _, _, ⟨rfl, ⟨[], rfl⟩, ?_, fun z hz => ?_, by simp, fun c h => ?_, fun j c u h1 h2 => ?_, s.tb⟩, ng, ?_, p, fun t v O' H' ⟨o', e, hn, q⟩ g s' rt => ?_, fun C fs O' H' d ⟨o', e, q⟩ g s' rx => ?_⟩
  · show Ex (hid [a] H) (hid (live [a] [o]) H)
    rw [lv1 ng1]
    exact Ex.refl _
  · have hz' : z ≠ a ∧ ∃ u, H z = some u ∧ OB u := by
      rcases List.mem_append.mp hz with hz | hz
      · obtain ⟨h1, h2⟩ := List.mem_filter.mp hz
        exact ⟨by simpa using h2, s.some_at h1⟩
      · obtain ⟨h1, h2⟩ := s.z_at hz
        exact ⟨fun z => h1 (by rw [z]; exact hl), h2⟩
    obtain ⟨h1, u, h2, n⟩ := hz'
    exact ⟨u, hid_some.mpr ⟨by simpa using h1, h2⟩, n⟩
  · rw [List.mem_singleton.mp h]
    obtain ⟨o2, q2, q3⟩ := s.some_at hl
    exact ⟨o2, q2, q3.1⟩
  · have hj : j = 0 := by
      cases j with
      | zero => rfl
      | succ n => simp at h1
    subst hj
    have e1 : a = c := Option.some.inj h1
    have e2 : o = u := Option.some.inj h2
    subst e1 e2
    rw [fzc ng1]
    exact s.cell i a o ha ho
  · rw [fzc ng1]
    exact tr1_reps ha hx r
  · subst e
    have g1 := one g
    obtain ⟨s2, n2, f2⟩ := back g1 s'
    rw [fzc g1] at rt
    refine kv _ v A _ H' q s2 n2 ?_
    rw [f2]
    cases t with
    | v d => exact rt
    | own j =>
      obtain ⟨c, e1, e2⟩ := rt
      have hj : j = 0 := by
        cases j with
        | zero => rfl
        | succ n => simp at e1
      subst hj
      have e3 : a = c := Option.some.inj e1
      subst e3
      exact ⟨a, ha, e2⟩
    | no => cases hn
    | clo R f => cases hn
  · subst e
    have g1 := one g
    obtain ⟨s2, n2, f2⟩ := back g1 s'
    refine hE C d H' (kx C fs A _ H' d q s2 n2 ?_)
    rw [f2]
    rw [fzc g1] at rx
    exact rx
theorem w_fn10 (i : Nat) (h : WA K W tr O ts (fun xs O1 => ∃ ys o, tr1 i xs = some ys ∧ O1[i]? = some o ∧ okG [o] = true ∧
    sp ys [o] (fun t O' => ∃ o', O' = [o'] ∧ okR t = true ∧ P (un1 i t) (O1.set i o')) (fun C fs O' => False)) X) : WE K W (tCall (lift K sp) [] E0 tr) O ts P X := fun b A σ H Q s rs kv kx =>
  h b A σ H _ s rs (fun xs vs A1 O1 H1 p1 s1 n1 r1 => by
    obtain ⟨ys, o, e, ho, ng, p⟩ := p1
    rw [List.append_nil]
    have x0 : (fun (C : Value) (fs : Option (List (Str × D))) (O' : List OD) => ∃ o', O' = [o'] ∧ (fun _ _ _ => False : XX) C fs (O1.set i o')) = fun _ _ _ => False := by
      funext C fs O'
      exact propext ⟨fun ⟨_, _, z⟩ => z, fun z => z.elim⟩
    exact lift_1 (W := fun _ _ _ _ => False) (X := fun _ _ _ => False) (σ := σ) s1 r1 e ho ng (fun C d H z => z) (by rw [x0]; exact p) (kv.nxt n1) (fun C fs A' O' H' d z => z.elim)) kx

theorem StO.lay2 {b : Bs} {A : List Addr} {H : Hp} (s : StO K b A O H) {p : Addr} (hp : H p = none) (o : HO) : StO K b A O (upd H p o) ∧ Nxt b A O H A O (upd H p o) := ⟨(s.lay hp o).1, (s.lay hp o).2.1⟩
/-- C(..): __init__ is handed the new instance as the owned thing 0, of no fields -/
theorem w_make0 {C : Addr} (h : WA K W tr O ts (fun xs O1 => ∃ ds, unv xs = some ds ∧ sp (.own 0 :: xs) [.ins C []] (fun t O' => t = .v .non ∧ ∃ fs, O' = [.ins C fs] ∧ P (.v (.ins C fs)) O1) (fun _ _ _ => False)) X) :
    WE K W (tMake C (lift K sp) [] E0 tr) O ts P X := fun b A σ H Q s rs kv kx =>
  h b A σ H _ s rs (fun xs vs A1 O1 H1 p1 s1 n1 r1 x dx hx hdx hne => by
    obtain ⟨ds, e, p⟩ := p1
    rw [List.append_nil]
    obtain ⟨s2, n2⟩ := s1.lay2 hdx (.own x)
    have hx2 : upd H1 dx (.own x) x = none := by
      rw [upd_ne hne.symm]
      exact hx
    obtain ⟨s3, n3⟩ := s2.own (u := .ins C dx []) (o := .ins C []) hx2 ⟨dx, [], upd_same, rfl⟩
    have n13 := n2.trans n3
    have hat : (A1 ++ [x])[A1.length]? = some x := by
      rw [List.getElem?_append_right (Nat.le_refl _), Nat.sub_self]
      exact rfl
    have hoat : (O1 ++ [OD.ins C []])[A1.length]? = some (.ins C []) := by
      rw [s1.len, List.getElem?_append_right (Nat.le_refl _), Nat.sub_self]
      exact rfl
    have tr : tr1 A1.length (.own A1.length :: xs) = some (.own 0 :: xs) := by
      have z : ∀ {xs : List T} {ds : List D}, unv xs = some ds → tr1 A1.length xs = some xs := fun {xs} => by
        induction xs with
        | nil => exact fun _ => rfl
        | cons t xs ih =>
          intro ds e
          cases t with
          | v d =>
            have e3 : (unv xs).map (d :: ·) = some ds := e
            cases q : unv xs with
            | none =>
              rw [q] at e3
              cases e3
            | some es =>
              show (tr1 A1.length xs).map (T.v d :: ·) = _
              rw [ih q]
              exact rfl
          | own j => cases e
          | no => cases e
          | clo R f => cases e
      show (if A1.length = A1.length then (tr1 A1.length xs).map (T.own 0 :: ·) else none) = _
      rw [if_pos rfl, z e]
      exact rfl
    refine lift_1 (W := fun _ _ _ _ => False) (X := fun _ _ _ => False) (σ := σ) (P := fun t O' => t = .v .non ∧ ∃ fs, O' = O1 ++ [.ins C fs] ∧ P (.v (.ins C fs)) O1) s3 (xs := .own A1.length :: xs) ⟨.ref x, vs, rfl, ⟨x, hat, rfl⟩, r1.nxt n13⟩ tr hoat rfl (fun C d H z => z) ?_
      (fun t v A' O' H' q s' n' rt => ?_) (fun C fs A' O' H' d z => z.elim)
    · have x0 : (fun (C' : Value) (fs : Option (List (Str × D))) (O' : List OD) => ∃ o', O' = [o'] ∧ (fun _ _ _ => False : XX) C' fs ((O1 ++ [OD.ins C []]).set A1.length o')) = fun _ _ _ => False := by
        funext C fs O'
        exact propext ⟨fun ⟨_, _, z⟩ => z, fun z => z.elim⟩
      rw [x0]
      have pq : (fun (t : T) (O' : List OD) => ∃ o', O' = [o'] ∧ okR t = true ∧ (un1 A1.length t = .v .non ∧ ∃ fs, (O1 ++ [OD.ins C []]).set A1.length o' = O1 ++ [.ins C fs] ∧ P (.v (.ins C fs)) O1)) = fun t O' => t = .v .non ∧ ∃ fs, O' = [.ins C fs] ∧ P (.v (.ins C fs)) O1 := by
        have es : ∀ o' : OD, (O1 ++ [OD.ins C []]).set A1.length o' = O1 ++ [o'] := fun o' => by
          rw [s1.len, List.set_append_right _ _ (Nat.le_refl _), Nat.sub_self]
          exact rfl
        funext t O'
        refine propext ⟨?_, ?_⟩
        · rintro ⟨o', rfl, hn, hu, fs, e1, q⟩
          rw [es] at e1
          have e2 : o' = .ins C fs := by
            have := List.append_cancel_left e1
            injection this
          subst e2
          refine ⟨?_, fs, rfl, q⟩
          cases t with
          | v d => exact hu
          | own j => cases hu
          | no => cases hn
          | clo R f => cases hn
        · rintro ⟨rfl, fs, rfl, q⟩
          exact ⟨_, rfl, rfl, rfl, fs, es _, q⟩
      rw [pq]
      exact p
    · obtain ⟨rfl, fs, rfl, q⟩ := q
      obtain ⟨_, e1, e2⟩ := rt
      cases e1
      obtain ⟨M, eM⟩ := n'.pre
      have l2 := s'.len
      have eM0 : M = [] := by
        have l3 : A'.length = (A1 ++ [x] ++ M).length := by rw [eM]
        rw [List.length_append, List.length_append] at l3
        rw [List.length_append] at l2
        have l4 := s1.len
        refine List.length_eq_zero_iff.mp ?_
        simp only [List.length_singleton] at l2 l3
        omega
      subst eM0
      rw [List.append_nil] at eM
      subst eM
      have c := s'.cell A1.length x (.ins C fs) hat (by rw [s1.len, List.getElem?_append_right (Nat.le_refl _), Nat.sub_self]; exact rfl)
      obtain ⟨s4, x4⟩ := s'.drop s1.len s1.pre
      obtain ⟨dx', us, c1, c2⟩ := c
      have nA : x ∉ A1 := fun hm => (List.nodup_append.mp s'.nd).2.2 x hm x (List.mem_singleton.mpr rfl) rfl
      have nz : x ∉ live A1 O1 ++ b.Z := fun z => by
        rcases List.mem_append.mp z with z | z
        · obtain ⟨j, o, z1, _, _⟩ := live_mem z
          exact nA (List.mem_of_getElem? z1)
        · have zz := s1.z_at (a := x) z
          obtain ⟨o, zz, _⟩ := zz.2
          rw [hx] at zz
          cases zz
      have fz : Fz b A1 O1 H' x = some (.ins C dx' us) := hid_some.mpr ⟨nz, c1⟩
      refine ⟨e2, kv _ _ A1 O1 H' q s4 (n1.trans ⟨⟨[], (List.append_nil A1).symm⟩, ?_⟩) ⟨_, rfl, x, dx', us, rfl, fz, c2.ex x4⟩⟩
      exact (n13.ext.trans n'.ext).trans x4) kx
end
end G

set_option Elab.async false
set_option linter.all false
set_option maxRecDepth 100000
set_option maxHeartbeats 4000000
namespace G
open PySem PySem.Spec PyProof.Rows L2

/-- an instance: plain, or owned -/
def InsD (x : T) (O : List OD) (C : Addr) (fs : List (Str × D)) : Prop := x = .v (.ins C fs) ∨ ∃ i, x = .own i ∧ O[i]? = some (.ins C fs)
theorem insD_v {O : List OD} {C : Addr} {fs : List (Str × D)} : InsD (.v (.ins C fs)) O C fs := .inl rfl
theorem insD_o {O : List OD} {C : Addr} {fs : List (Str × D)} {i : Nat} (h : O[i]? = some (.ins C fs)) : InsD (.own i) O C fs := .inr ⟨i, rfl, h⟩
theorem insD_at {K : PySem.W.Frag} {b : Bs} {A : List Addr} {O : List OD} {H : Hp} {x : T} {C : Addr} {fs : List (Str × D)} {v : V} (h : InsD x O C fs) (s : StO K b A O H) (r : RepT K (Fz b A O H) A x (some v)) :
    ∃ a dx vs, v = .ref a ∧ H a = some (.ins C dx vs) ∧ RepF K (Fz b A O H) fs vs := by
  rcases h with rfl | ⟨i, rfl, ho⟩
  · obtain ⟨_, e, a, dx, vs, rfl, h1, h2⟩ := r
    cases e
    exact ⟨a, dx, vs, rfl, (hid_some.mp h1).2, h2⟩
  · obtain ⟨a, ha, e⟩ := r
    cases e
    obtain ⟨dx, vs, h1, h2⟩ := s.cell i a _ ha ho
    exact ⟨a, dx, vs, rfl, h1, h2⟩
section
variable {K : PySem.W.Frag} {W : WX} {O : List OD} {ts : List T} {P : PT'} {X : XX} {sp : SpD} {te ta tv : TE} {tr : TA} {E : XK} {DE' : DE} {C : Addr} {f m : Str}
theorem w_fld (c : Cls K C) (n : NoAttr K C f) (h : WE K W ta O ts (fun x O1 => ∃ fs d, InsD x O1 C fs ∧ fs.lookup f = some d ∧ P (.v d) O1) X) : WE K W (tFld K ta f) O ts P X := fun b A σ H Q s rs kv kx =>
  h b A σ H _ s rs (fun x v A1 O1 H1 p1 s1 n1 r1 => by
    obtain ⟨fs, d, hi, hl, p⟩ := p1
    obtain ⟨a, dx, vs, rfl, h1, h2⟩ := insD_at hi s1 r1
    obtain ⟨w, e, r⟩ := h2.look hl
    exact ⟨a, C, dx, vs, w, rfl, h1, c, n, e, kv _ w A1 O1 H1 p s1 n1 ⟨w, rfl, r⟩⟩) kx
def putD (f : Str) (d : D) : List (Str × D) → List (Str × D)
  | [] => [(f, d)]
  | p :: r => if p.1 = f then (f, d) :: r else p :: putD f d r
theorem repF_put {F : Hp} {f : Str} {d : D} {v : V} (q : Rep K F d v) : ∀ {fs : List (Str × D)} {vs : List (Str × V)}, RepF K F fs vs → RepF K F (putD f d fs) (putF f v vs)
  | [], _, h => by
    rw [show _ = [] from h]
    exact ⟨v, [], rfl, q, rfl⟩
  | p :: fs, _, h => by
    obtain ⟨w, r, e1, h1, h2⟩ := h
    subst e1
    show RepF K F (if p.1 = f then (f, d) :: fs else p :: putD f d fs) (putF f v ((p.1, w) :: r))
    unfold putF
    by_cases e : p.1 = f
    · rw [if_pos e]
      first
        | (rw [if_pos e]; exact ⟨v, r, rfl, q, h2⟩)
        | (rw [if_pos e.symm]; exact ⟨v, r, rfl, q, h2⟩)
        | (simp only [e, beq_self_eq_true, if_true]; exact ⟨v, r, rfl, q, h2⟩)
    · rw [if_neg e]
      first
        | (rw [if_neg e]; exact ⟨w, _, rfl, h1, repF_put q h2⟩)
        | (rw [if_neg (Ne.symm e)]; exact ⟨w, _, rfl, h1, repF_put q h2⟩)
        | (simp only [beq_iff_eq, e, if_false]; exact ⟨w, _, rfl, h1, repF_put q h2⟩)
theorem s_fld (c : Cls K C) (n : NoAttr K C f) (h : WE K W tv O ts (fun y O1 => WE K W ta O1 ts (fun x O2 => ∃ i fs d, x = .own i ∧ y = .v d ∧ O2[i]? = some (.ins C fs) ∧ fs.length < 1000 ∧ DE'.nx ts (O2.set i (.ins C (putD f d fs)))) (fun C fs O' => DE'.xe C fs ts O')) (fun C fs O' => DE'.xe C fs ts O')) :
    WS K W (sFld K ta tv f) O ts DE' := fun b A σ H D s rs ks =>
  h b A σ H _ s rs (fun y v A1 O1 H1 p1 s1 n1 r1 => by
    refine p1 b A1 σ H1 _ s1 (rs.nxt n1) (fun x u A2 O2 H2 p2 s2 n2 r2 => ?_) ((ks.kx rs).nxt n1)
    obtain ⟨i, fs, d, rfl, rfl, ho, hz, q⟩ := p2
    obtain ⟨a, ha, e⟩ := r2
    cases e
    obtain ⟨dx, vs, h1, h2⟩ := s2.cell i a _ ha ho
    obtain ⟨w, e2, rw'⟩ := r1.nxt n2
    cases e2
    obtain ⟨s3, n3⟩ := s2.put (w := .ins C dx (putF f v vs)) (o := .ins C (putD f d fs)) ha ho (fun z => by cases z) (fun z => by cases z) ⟨dx, _, upd_same, repF_put rw' h2⟩
    refine ⟨a, C, dx, vs, rfl, h1, c, n, by rw [h2.length]; exact hz, ks.nx ts σ A2 _ _ q s3 ((n1.trans n2).trans n3) (rs.nxt ((n1.trans n2).trans n3))⟩) (ks.kx rs)
/-- o.m(..) of a plain instance -/
theorem w_meth0 (h : WE K W ta O ts (fun x O1 => ∃ fs, x = .v (.ins C fs) ∧ fs.lookup m = none ∧ WA K W tr O1 ts (fun xs O2 => ∃ ds, unv xs = some ds ∧ sp (.v (.ins C fs) :: xs) [] (fun t _ => (∃ d, t = .v d) ∧ P t O2) (fun _ _ _ => False)) X) X) :
    WE K W (tMeth C m (lift K sp) [] E0 ta tr) O ts P X := fun b A σ H Q s rs kv kx =>
  h b A σ H _ s rs (fun x v A1 O1 H1 p1 s1 n1 r1 => by
    obtain ⟨fs, rfl, hm, p⟩ := p1
    obtain ⟨a, dx, vs, rfl, h1, h2⟩ := insD_at insD_v s1 r1
    refine ⟨a, dx, vs, rfl, h1, h2.none hm, p b A1 σ H1 _ s1 (rs.nxt n1) (fun xs us A2 O2 H2 p2 s2 n2 r2 => ?_) (kx.nxt n1)⟩
    obtain ⟨ds, e, q⟩ := p2
    rw [List.append_nil]
    exact lift_p (W := fun _ _ _ _ => False) (X := fun _ _ _ => False) (σ := σ) s2 (xs := .v (.ins C fs) :: xs) (ds := .ins C fs :: ds) ⟨.ref a, us, rfl, r1.nxt n2, r2⟩ (by show (unv xs).map _ = _; rw [e] <;> rfl) (fun C d H z => z) q (kv.nxt (n1.trans n2)) (fun C fs A' O' H' d z => z.elim)) kx
end

def LstD (x : T) (O : List OD) (ds : List D) : Prop := x = .v (.lst ds) ∨ ∃ i, x = .own i ∧ O[i]? = some (.lst ds)
theorem lstD_v {O : List OD} {ds : List D} : LstD (.v (.lst ds)) O ds := .inl rfl
theorem lstD_o {O : List OD} {ds : List D} {i : Nat} (h : O[i]? = some (.lst ds)) : LstD (.own i) O ds := .inr ⟨i, rfl, h⟩
theorem lstD_atH {K : PySem.W.Frag} {b : Bs} {A : List Addr} {O : List OD} {H : Hp} {x : T} {ds : List D} {v : V} (h : LstD x O ds) (s : StO K b A O H) (r : RepT K (Fz b A O H) A x (some v)) :
    ∃ a vs, v = .ref a ∧ H a = some (.lst vs) ∧ RepL K (Fz b A O H) ds vs := by
  rcases h with rfl | ⟨i, rfl, ho⟩
  · obtain ⟨_, e, a, vs, rfl, h1, h2⟩ := r
    cases e
    exact ⟨a, vs, rfl, hid_ex _ _ h1 (by (first | assumption | exact nt_exc | exact fun _ z => (by cases z))), h2⟩
  · obtain ⟨a, ha, e⟩ := r
    cases e
    obtain ⟨vs, h1, h2⟩ := s.cell i a _ ha ho
    exact ⟨a, vs, rfl, h1, h2⟩
theorem lstD_at {K : PySem.W.Frag} {b : Bs} {A : List Addr} {O : List OD} {H : Hp} {x : T} {ds : List D} {v : V} (h : LstD x O ds) (s : StO K b A O H) (r : RepT K (Fz b A O H) A x (some v)) :
    ∃ a vs, v = .ref a ∧ SqL K H a vs ∧ RepL K (Fz b A O H) ds vs := by
  obtain ⟨a, vs, e, h1, h2⟩ := lstD_atH h s r
  exact ⟨a, vs, e, SqL.of h1, h2⟩
theorem tupD_at {K : PySem.W.Frag} {F H : Hp} {A : List Addr} {ds : List D} {v : V} (e : Ex F H) (r : RepT K F A (.v (.tup ds)) (some v)) : ∃ a vs, v = .ref a ∧ SqT K H a vs ∧ RepL K F ds vs := by
  obtain ⟨_, e1, a, vs, rfl, h1, h2⟩ := r
  cases e1
  exact ⟨a, vs, rfl, e.t h1, h2⟩
theorem atI_rep {K : PySem.W.Frag} {F : Hp} {ds : List D} {vs : List V} {i : Int} {d : D} (r : RepL K F ds vs) (h : atI ds i = some d) : ∃ v, atI vs i = some v ∧ Rep K F d v := by
  unfold atI at h ⊢
  rw [r.length]
  cases q : ixN ds.length i with
  | none =>
    rw [q] at h
    cases h
  | some j =>
    rw [q] at h
    exact r.get h
section
variable {K : PySem.W.Frag} {W : WX} {O : List OD} {ts : List T} {P : PT'} {X : XX} {te ta tv : TE} {tr : TA} {DE' : DE}
theorem w_ixL {x : T} {ds : List D} {i : Int} {d : D} (hx : LstD x O ds) (h : atI ds i = some d) (k : P (.v d) O) : WR K (rIxL K) x (.v (.int i)) O P := fun b A H Q v u s r1 r2 kv => by
  obtain ⟨a, vs, rfl, h1, h2⟩ := lstD_at hx s r1
  obtain ⟨_, e2, rfl⟩ := r2
  cases e2
  obtain ⟨w, e, r⟩ := atI_rep h2 h
  exact ⟨a, vs, i, w, rfl, rfl, h1, e, kv _ w A O H k s Nxt.refl ⟨w, rfl, r⟩⟩
theorem w_ixT {ds : List D} {i : Int} {d : D} (h : atI ds i = some d) (k : P (.v d) O) : WR K (rIxT K) (.v (.tup ds)) (.v (.int i)) O P := fun b A H Q v u s r1 r2 kv => by
  obtain ⟨a, vs, rfl, h1, h2⟩ := tupD_at (hid_ex : Ex (Fz b A O H) H) r1
  obtain ⟨_, e2, rfl⟩ := r2
  cases e2
  obtain ⟨w, e, r⟩ := atI_rep h2 h
  exact ⟨a, vs, i, w, rfl, rfl, h1, e, kv _ w A O H k s Nxt.refl ⟨w, rfl, r⟩⟩
theorem atI_0 {α : Type} {x : α} {r : List α} : atI (x :: r) 0 = some x := atI_nat (j := 0) rfl
theorem atI_1 {α : Type} {x y : α} {r : List α} : atI (x :: y :: r) 1 = some y := atI_nat (j := 1) rfl
theorem atI_2 {α : Type} {x y z : α} {r : List α} : atI (x :: y :: z :: r) 2 = some z := atI_nat (j := 2) rfl
theorem atI_3 {α : Type} {x y z u : α} {r : List α} : atI (x :: y :: z :: u :: r) 3 = some u := atI_nat (j := 3) rfl
theorem atI_4 {α : Type} {x y z u v : α} {r : List α} : atI (x :: y :: z :: u :: v :: r) 4 = some v := atI_nat (j := 4) rfl
theorem atI_5 {α : Type} {x y z u v w : α} {r : List α} : atI (x :: y :: z :: u :: v :: w :: r) 5 = some w := atI_nat (j := 5) rfl
theorem atI_6 {α : Type} {x y z u v w k : α} {r : List α} : atI (x :: y :: z :: u :: v :: w :: k :: r) 6 = some k := atI_nat (j := 6) rfl
/-- xs[i] = e -/
theorem g_setL {te ti : TE} {x : T} {N : List T → List OD → Prop} (h : WE K W te O ts (fun y O1 => WE K W ti O1 ts (fun z O2 => ∃ (i : Nat) (ds : List D) (k : Int) (j : Nat) (d : D), y = .own i ∧ z = .v (.int k) ∧ x = .v d ∧ O2[i]? = some (.lst ds) ∧ ixN ds.length k = some j ∧ N ts (O2.set i (.lst (ds.set j d)))) (fun _ _ _ => False)) (fun _ _ _ => False)) :
    WG K W (gSub te ti rSetL) x O ts N := fun b A σ H Q v s rs r kn => by
  refine h b A σ H _ s rs (fun y u A1 O1 H1 p1 s1 n1 r1 => ?_) (fun C fs A' O' H' d z => z.elim)
  refine p1 b A1 σ H1 _ s1 (rs.nxt n1) (fun z w A2 O2 H2 p2 s2 n2 r2 => ?_) (fun C fs A' O' H' d z => z.elim)
  obtain ⟨i, ds, k, j, d, rfl, rfl, rfl, ho, hk, q⟩ := p2
  obtain ⟨a, ha, e⟩ := r1.nxt n2
  cases e
  obtain ⟨_, e2, rfl⟩ := r2
  cases e2
  obtain ⟨vs, h1, h2⟩ := s2.cell i a _ ha ho
  obtain ⟨v', e3, rd⟩ := r.nxt (n1.trans n2)
  cases e3
  obtain ⟨s3, n3⟩ := s2.put (w := .lst (vs.set j v)) (o := .lst (ds.set j d)) ha ho (fun z => by cases z) (fun z => by cases z) ⟨_, upd_same, h2.set rd j⟩
  exact ⟨a, vs, k, j, rfl, rfl, h1, by rw [h2.length]; exact hk, kn ts σ A2 _ _ q s3 ((n1.trans n2).trans n3) (rs.nxt ((n1.trans n2).trans n3))⟩
theorem w_bmL {rm : V → List V → Hp → VK → Prop} (h : WE K W ta O ts (fun x O1 => ∃ ds, LstD x O1 ds ∧ WA K W tr O1 ts (fun xs O2 => WM K rm x xs O2 P) X) X) : WE K W (tBM K "list" rm ta tr) O ts P X := fun b A σ H Q s rs kv kx =>
  h b A σ H _ s rs (fun x v A1 O1 H1 p1 s1 n1 r1 => by
    obtain ⟨ds, hx, p⟩ := p1
    obtain ⟨a, vs, rfl, h1, h2⟩ := lstD_at hx s1 r1
    exact ⟨.inl ⟨rfl, vs, h1⟩, p b A1 σ H1 _ s1 (rs.nxt n1) (fun xs us A2 O2 H2 p2 s2 n2 r2 => p2 b A2 H2 Q _ us s2 (r1.nxt n2) r2 (kv.nxt (n1.trans n2))) (kx.nxt n1)⟩) kx
theorem w_bmL0 {rm : V → List V → Hp → VK → Prop} (h : WE K W ta O ts (fun x O1 => ∃ ds, LstD x O1 ds ∧ WM K rm x [] O1 P) X) : WE K W (tBM0 K "list" rm ta) O ts P X := fun b A σ H Q s rs kv kx =>
  h b A σ H _ s rs (fun x v A1 O1 H1 p1 s1 n1 r1 => by
    obtain ⟨ds, hx, p⟩ := p1
    obtain ⟨a, vs, rfl, h1, h2⟩ := lstD_at hx s1 r1
    exact ⟨.inl ⟨rfl, vs, h1⟩, p b A1 H1 Q _ [] s1 r1 rfl (kv.nxt n1)⟩) kx
theorem m_append {i : Nat} {ds : List D} {d : D} (ho : O[i]? = some (.lst ds)) (hz : ds.length < sizeLine) (k : P (.v .non) (O.set i (.lst (ds ++ [d])))) : WM K rAppend (.own i) [.v d] O P := fun b A H Q v vs s r1 r2 kv => by
  obtain ⟨a, ha, e⟩ := r1
  cases e
  obtain ⟨us, h1, h2⟩ := s.cell i a _ ha ho
  obtain ⟨w, _, rfl, ⟨w2, e2, rd⟩, rfl⟩ := r2
  cases e2
  obtain ⟨s3, n3⟩ := s.put (w := .lst (us ++ [w])) (o := .lst (ds ++ [d])) ha ho (fun z => by cases z) (fun z => by cases z) ⟨_, upd_same, h2.append ⟨w, [], rfl, rd, rfl⟩⟩
  exact ⟨a, us, w, rfl, rfl, h1, by rw [h2.length]; exact hz, kv _ .non A _ _ k s3 n3 ⟨_, rfl, rfl⟩⟩
theorem m_pop {i : Nat} {ds : List D} {d : D} (ho : O[i]? = some (.lst ds)) (hz : ds[ds.length - 1]? = some d) (k : P (.v d) (O.set i (.lst ds.dropLast))) : WM K rPop (.own i) [] O P := fun b A H Q v vs s r1 r2 kv => by
  obtain ⟨a, ha, e⟩ := r1
  cases e
  obtain ⟨us, h1, h2⟩ := s.cell i a _ ha ho
  obtain ⟨w, e2, rd⟩ := h2.get hz
  have dl : RepL K (Fz b A O H) ds.dropLast us.dropLast := by
    rw [List.dropLast_eq_take, List.dropLast_eq_take, h2.length]
    exact h2.take _
  obtain ⟨s3, n3⟩ := s.put (w := .lst us.dropLast) (o := .lst ds.dropLast) ha ho (fun z => by cases z) (fun z => by cases z) ⟨_, upd_same, dl⟩
  exact ⟨a, us, w, rfl, r2, h1, by rw [h2.length]; exact e2, kv _ w A _ _ k s3 n3 ⟨w, rfl, rd.ex n3.ext⟩⟩

def WO (K : PySem.W.Frag) (W : WX) (to : TO) (O : List OD) (ts : List T) (P : Option Int → List OD → Prop) (X : XX) : Prop :=
  ∀ b A σ H Q, StO K b A O H → RepS K (Fz b A O H) A ts σ → (∀ c A' O' H', P c O' → StO K b A' O' H' → Nxt b A O H A' O' H' → Q c H') → KX K W b A O σ H X → to σ H Q
theorem o_none {PO' : Option Int → List OD → Prop} (k : PO' none O) : WO K W tNoPart O ts PO' X := fun b A σ H Q s rs kb _ => kb none A O H k s Nxt.refl
theorem o_some {PO' : Option Int → List OD → Prop} (h : WE K W te O ts (fun t O' => ∃ i, t = .v (.int i) ∧ PO' (some i) O') X) : WO K W (tPart te) O ts PO' X := fun b A σ H Q s rs kb kx =>
  h b A σ H _ s rs (fun t v A1 O1 H1 p1 s1 n1 r1 => by
    obtain ⟨i, rfl, p⟩ := p1
    obtain ⟨_, e, rfl⟩ := r1
    cases e
    exact ⟨i, rfl, kb _ A1 O1 H1 p s1 n1⟩) kx
def cutD (xs : List D) (lo hi : Option Int) : List D := (xs.drop (HT.sIx xs.length 0 lo)).take (HT.sIx xs.length xs.length hi - HT.sIx xs.length 0 lo)
theorem cut_rep {F : Hp} {ds : List D} {vs : List V} (r : RepL K F ds vs) (lo hi : Option Int) : RepL K F (cutD ds lo hi) (cutV vs lo hi) := by
  unfold cutD cutV
  rw [r.length]
  exact (r.drop _).take _
theorem w_slL {tl th : TO} (h : WE K W te O ts (fun x O1 => WO K W tl O1 ts (fun lo O2 => WO K W th O2 ts (fun hi O3 => ∃ ds, LstD x O3 ds ∧ P (.v (.lst (cutD ds lo hi))) O3) X) X) X) : WE K W (tSl (rSlL K) te tl th) O ts P X := fun b A σ H Q s rs kv kx =>
  h b A σ H _ s rs (fun x v A1 O1 H1 p1 s1 n1 r1 => p1 b A1 σ H1 _ s1 (rs.nxt n1) (fun lo A2 O2 H2 p2 s2 n2 => p2 b A2 σ H2 _ s2 (rs.nxt (n1.trans n2)) (fun hi A3 O3 H3 p3 s3 n3 => by
    obtain ⟨ds, hx, p⟩ := p3
    obtain ⟨a, vs, rfl, h1, h2⟩ := lstD_at hx s3 (r1.nxt (n2.trans n3))
    refine ⟨a, vs, rfl, h1, fun p' hp => ?_⟩
    obtain ⟨s4, n4, q⟩ := s3.lay hp (.lst (cutV vs lo hi))
    exact kv _ _ A3 O3 _ p s4 (((n1.trans n2).trans n3).trans n4) ⟨_, rfl, p', _, rfl, q, (cut_rep h2 lo hi).ex n4.ext⟩) (kx.nxt (n1.trans n2))) (kx.nxt n1)) kx
theorem c_int {i : Int} (k : P (.v (.int i)) O) : WC K (fun xs H Q => (∃ i, xs = [.int i] ∧ Q (.int i) H) ∨ ∃ k, xs = [.bl k] ∧ Q (.int (if k then 1 else 0)) H) [.v (.int i)] O P := fun b A H Q vs s r kv => by
  obtain ⟨v, _, rfl, ⟨_, e, rfl⟩, rfl⟩ := r
  cases e
  exact .inl ⟨i, rfl, kv _ _ A O H k s Nxt.refl ⟨_, rfl, rfl⟩⟩
theorem c_intB {c : Bool} (k : P (.v (.int (if c then 1 else 0))) O) : WC K (fun xs H Q => (∃ i, xs = [.int i] ∧ Q (.int i) H) ∨ ∃ k, xs = [.bl k] ∧ Q (.int (if k then 1 else 0)) H) [.v (.bl c)] O P := fun b A H Q vs s r kv => by
  obtain ⟨v, _, rfl, ⟨_, e, rfl⟩, rfl⟩ := r
  cases e
  exact .inr ⟨c, rfl, kv _ _ A O H k s Nxt.refl ⟨_, rfl, rfl⟩⟩
theorem c_abs {i : Int} (k : P (.v (.int (if i < 0 then -i else i))) O) : WC K (fun xs H Q => ∃ i, xs = [.int i] ∧ Q (.int (if i < 0 then -i else i)) H) [.v (.int i)] O P := fun b A H Q vs s r kv => by
  obtain ⟨v, _, rfl, ⟨_, e, rfl⟩, rfl⟩ := r
  cases e
  exact ⟨i, rfl, kv _ _ A O H k s Nxt.refl ⟨_, rfl, rfl⟩⟩
def rLen (K : PySem.W.Frag) : List V → Hp → VK → Prop := fun xs H Q => ∃ x n, xs = [x] ∧ LenV K x H n ∧ Q (.int n) H
theorem cr_len {X : Cx} : CallR X (.builtin "len") (rLen X.K) := call_len
theorem c_lenL {x : T} {ds : List D} (hx : LstD x O ds) (k : P (.v (.int ds.length)) O) : WC K (rLen K) [x] O P := fun b A H Q vs s r kv => by
  obtain ⟨v, _, rfl, r1, rfl⟩ := r
  obtain ⟨a, us, rfl, h1, h2⟩ := lstD_at hx s r1
  refine ⟨.ref a, ds.length, rfl, .inl ⟨us, h1, h2.length.symm⟩, kv _ _ A O H k s Nxt.refl ⟨_, rfl, rfl⟩⟩
theorem c_lenT {ds : List D} (k : P (.v (.int ds.length)) O) : WC K (rLen K) [.v (.tup ds)] O P := fun b A H Q vs s r kv => by
  obtain ⟨v, _, rfl, r1, rfl⟩ := r
  obtain ⟨a, us, rfl, h1, h2⟩ := tupD_at (hid_ex : Ex (Fz b A O H) H) r1
  refine ⟨.ref a, ds.length, rfl, .inr ⟨us, h1, h2.length.symm⟩, kv _ _ A O H k s Nxt.refl ⟨_, rfl, rfl⟩⟩
theorem c_lenS {x : Str} (hz : x.length ≤ sizeLine) (k : P (.v (.int x.length)) O) : WC K (rLen K) [.v (.str x)] O P := fun b A H Q vs s r kv => by
  obtain ⟨v, _, rfl, ⟨_, e, rfl⟩, rfl⟩ := r
  cases e
  exact ⟨.str x, x.length, rfl, ⟨hz, rfl⟩, kv _ _ A O H k s Nxt.refl ⟨_, rfl, rfl⟩⟩
def rListOf (K : PySem.W.Frag) : List V → Hp → VK → Prop := fun xs H Q => ∃ p ys, xs = [.ref p] ∧ (SqL K H p ys ∨ SqT K H p ys) ∧ ∀ l, H l = none → Q (.ref l) (upd H l (.lst ys))
theorem cr_list {X : Cx} : CallR X (.type "list") (rListOf X.K) := call_list_of
def rTupOf (K : PySem.W.Frag) : List V → Hp → VK → Prop := fun xs H Q => ∃ p ys, xs = [.ref p] ∧ ((SqL K H p ys ∧ ∀ l, H l = none → Q (.ref l) (upd H l (.tup ys))) ∨ (SqT K H p ys ∧ Q (.ref p) H))
theorem cr_tup {X : Cx} : CallR X (.type "tuple") (rTupOf X.K) := call_tuple_of
theorem c_listL {x : T} {ds : List D} (hx : LstD x O ds) (k : P (.v (.lst ds)) O) : WC K (rListOf K) [x] O P := fun b A H Q vs s r kv => by
  obtain ⟨v, _, rfl, r1, rfl⟩ := r
  obtain ⟨a, us, rfl, h1, h2⟩ := lstD_at hx s r1
  refine ⟨a, us, rfl, .inl h1, fun p hp => ?_⟩
  obtain ⟨s2, n2, q⟩ := s.lay hp (.lst us)
  exact kv _ _ A O _ k s2 n2 ⟨_, rfl, p, us, rfl, q, h2.ex n2.ext⟩
theorem c_listT {ds : List D} (k : P (.v (.lst ds)) O) : WC K (rListOf K) [.v (.tup ds)] O P := fun b A H Q vs s r kv => by
  obtain ⟨v, _, rfl, r1, rfl⟩ := r
  obtain ⟨a, us, rfl, h1, h2⟩ := tupD_at (hid_ex : Ex (Fz b A O H) H) r1
  refine ⟨a, us, rfl, .inr h1, fun p hp => ?_⟩
  obtain ⟨s2, n2, q⟩ := s.lay hp (.lst us)
  exact kv _ _ A O _ k s2 n2 ⟨_, rfl, p, us, rfl, q, h2.ex n2.ext⟩
theorem c_tupL {x : T} {ds : List D} (hx : LstD x O ds) (k : P (.v (.tup ds)) O) : WC K (rTupOf K) [x] O P := fun b A H Q vs s r kv => by
  obtain ⟨v, _, rfl, r1, rfl⟩ := r
  obtain ⟨a, us, rfl, h1, h2⟩ := lstD_at hx s r1
  refine ⟨a, us, rfl, .inl ⟨h1, fun p hp => ?_⟩⟩
  obtain ⟨s2, n2, q⟩ := s.lay hp (.tup us)
  exact kv _ _ A O _ k s2 n2 ⟨_, rfl, p, us, rfl, SqT.of q, h2.ex n2.ext⟩
theorem c_tupT {ds : List D} (k : P (.v (.tup ds)) O) : WC K (rTupOf K) [.v (.tup ds)] O P := fun b A H Q vs s r kv => by
  obtain ⟨v, _, rfl, r1, rfl⟩ := r
  obtain ⟨a, us, rfl, h1, h2⟩ := tupD_at (hid_ex : Ex (Fz b A O H) H) r1
  exact ⟨a, us, rfl, .inr ⟨h1, kv _ _ A O H k s Nxt.refl r1⟩⟩
theorem rep_ints {F : Hp} : ∀ {ns : List Int} {vs : List V}, RepL K F (ns.map D.int) vs → vs = ns.map V.int
  | [], _, h => h
  | n :: ns, _, h => by
    obtain ⟨v, r, rfl, rfl, h2⟩ := h
    rw [rep_ints h2] <;> rfl
theorem rep_bools {F : Hp} : ∀ {ns : List Bool} {vs : List V}, RepL K F (ns.map D.bl) vs → vs = ns.map V.bl
  | [], _, h => h
  | n :: ns, _, h => by
    obtain ⟨v, r, rfl, rfl, h2⟩ := h
    rw [rep_bools h2] <;> rfl
theorem c_sum {x : T} {ns : List Int} (hx : LstD x O (ns.map D.int)) (k : P (.v (.int ns.sum)) O) : WC K (rSum K) [x] O P := fun b A H Q vs s r kv => by
  obtain ⟨v, _, rfl, r1, rfl⟩ := r
  obtain ⟨a, us, rfl, h1, h2⟩ := lstD_at hx s r1
  rw [rep_ints h2] at h1
  exact ⟨a, ns, rfl, h1, kv _ _ A O H k s Nxt.refl ⟨_, rfl, rfl⟩⟩
theorem c_all {x : T} {bs : List Bool} (hx : LstD x O (bs.map D.bl)) (k : P (.v (.bl (bs.all id))) O) : WC K (rAll K) [x] O P := fun b A H Q vs s r kv => by
  obtain ⟨v, _, rfl, r1, rfl⟩ := r
  obtain ⟨a, us, rfl, h1, h2⟩ := lstD_at hx s r1
  rw [rep_bools h2] at h1
  exact ⟨a, bs, rfl, h1, kv _ _ A O H k s Nxt.refl ⟨_, rfl, rfl⟩⟩
theorem c_any {x : T} {bs : List Bool} (hx : LstD x O (bs.map D.bl)) (k : P (.v (.bl (bs.any id))) O) : WC K (rAny K) [x] O P := fun b A H Q vs s r kv => by
  obtain ⟨v, _, rfl, r1, rfl⟩ := r
  obtain ⟨a, us, rfl, h1, h2⟩ := lstD_at hx s r1
  rw [rep_bools h2] at h1
  exact ⟨a, bs, rfl, h1, kv _ _ A O H k s Nxt.refl ⟨_, rfl, rfl⟩⟩
end
end G

set_option Elab.async false
set_option linter.all false
set_option maxRecDepth 100000
set_option maxHeartbeats 4000000
namespace G
open PySem PySem.Spec PyProof.Rows L2

def wipeT (ts : List T) : List Nat → List T
  | [] => ts
  | v :: vs => (wipeT ts vs).set v .no
theorem repS_wipe {K : PySem.W.Frag} {F : Hp} {A : List Addr} {ts : List T} {σ : L2.St} (h : RepS K F A ts σ) : ∀ vs : List Nat, RepS K F A (wipeT ts vs) (wipe σ vs)
  | [] => h
  | v :: vs => by
    have ih := repS_wipe h vs
    refine ⟨by show ((wipeT ts vs).set v .no).length = ((wipe σ vs).set v none).length; rw [List.length_set, List.length_set]; exact ih.1, fun j u e => ?_⟩
    have e : ((wipeT ts vs).set v .no)[j]? = some u := e
    show ∃ o, ((wipe σ vs).set v none)[j]? = some o ∧ _
    rw [List.getElem?_set] at e
    by_cases hij : v = j
    · subst hij
      rw [if_pos rfl] at e
      by_cases hl : v < (wipeT ts vs).length
      · rw [if_pos hl] at e
        have e2 : T.no = u := Option.some.inj e
        subst e2
        refine ⟨none, ?_, trivial⟩
        rw [List.getElem?_set_self (by rw [← ih.1]; exact hl)]
      · rw [if_neg hl] at e
        cases e
    · rw [if_neg hij] at e
      obtain ⟨o, e1, r1⟩ := ih.2 j u e
      refine ⟨o, ?_, r1⟩
      rw [List.getElem?_set_ne hij]
      exact e1
/-- the target touches the block's own slots alone -/
def Tgt (g : TG) (vs : List Nat) : Prop := ∀ v σ H (Q : L2.St → Hp → Prop), g v σ H Q → g v σ H fun σ2 H2 => wipe σ2 vs = wipe σ vs ∧ Q σ2 H2
def Tgts (g : TGs) (vs : List Nat) : Prop := ∀ xs σ H (Q : L2.St → Hp → Prop), g xs σ H Q → g xs σ H fun σ2 H2 => wipe σ2 vs = wipe σ vs ∧ Q σ2 H2
theorem wipe_get {σ : L2.St} : ∀ (vs : List Nat) (i : Nat), (wipe σ vs)[i]? = if i ∈ vs then (σ[i]?).map (fun _ => none) else σ[i]?
  | [], i => by simp [wipe]
  | v :: vs, i => by
    show ((wipe σ vs).set v none)[i]? = _
    rw [List.getElem?_set, wipe_get vs i]
    by_cases h : v = i
    · subst h
      rw [if_pos rfl, if_pos List.mem_cons_self]
      by_cases hl : v < (wipe σ vs).length
      · rw [if_pos hl]
        rw [wipe_length] at hl
        rw [List.getElem?_eq_getElem hl] <;> rfl
      · rw [if_neg hl]
        rw [wipe_length] at hl
        rw [List.getElem?_eq_none (by omega)] <;> rfl
    · rw [if_neg h]
      by_cases hm : i ∈ vs
      · rw [if_pos hm, if_pos (List.mem_cons_of_mem _ hm)]
      · rw [if_neg hm, if_neg (fun z => by rcases List.mem_cons.mp z with z | z; exact h z.symm; exact hm z)]
theorem wipe_set {σ : L2.St} {j : Nat} {o : Option V} {vs : List Nat} (h : j ∈ vs) : wipe (σ.set j o) vs = wipe σ vs := by
  refine List.ext_getElem? fun i => ?_
  rw [wipe_get, wipe_get, List.getElem?_set]
  by_cases hi : i ∈ vs
  · rw [if_pos hi, if_pos hi]
    by_cases hj : j = i
    · subst hj
      rw [if_pos rfl]
      by_cases hl : j < σ.length
      · rw [if_pos hl, List.getElem?_eq_getElem hl] <;> rfl
      · rw [if_neg hl, List.getElem?_eq_none (by omega)]
    · rw [if_neg hj]
  · have hne : ¬ j = i := fun z => hi (z ▸ h)
    rw [if_neg hi, if_neg hi, if_neg hne]
theorem tgt_name {j : Nat} {vs : List Nat} (h : j ∈ vs) : Tgt (gName j) vs := fun v σ H Q q => ⟨wipe_set h, q⟩
theorem tgt_nil {vs : List Nat} : Tgts gNil vs := fun xs σ H Q q => ⟨q.1, rfl, q.2⟩
theorem tgt_cons1 {j : Nat} {gs : TGs} {vs : List Nat} (h : j ∈ vs) (hs : Tgts gs vs) : Tgts (gCons (gName j) gs) vs := fun xs σ H Q q => by
  obtain ⟨v, r, rfl, q⟩ := q
  refine ⟨v, r, rfl, ?_⟩
  have q2 := hs r (σ.set j (some v)) H Q q
  rw [wipe_set h] at q2
  exact q2
theorem tgt_tup {K : PySem.W.Frag} {n : Nat} {gs : TGs} {vs : List Nat} (h : Tgts gs vs) : Tgt (gTup K n gs) vs := fun v σ H Q q => by
  obtain ⟨a, xs, e, h1, h2, q⟩ := q
  exact ⟨a, xs, e, h1, h2, h xs σ H Q q⟩

section
variable {K : PySem.W.Frag} {W : WX} {O : List OD} {ts : List T} {P : PT'} {X : XX} {te : TE} {tt : TT}
/-- no exception may leave -/
abbrev X0 : XX := fun _ _ _ => False
theorem w_yes {PB' : PB} (k : PB' true O) : WT K W tYes O ts PB' X := fun b A σ H Q s rs kb _ => kb true A O H k s Nxt.refl
theorem w_lc {wi : TI} {g : TG} {vs : List Nat} (hg : Tgt g vs) (h : WI K W wi O ts (fun f O1 => ∃ (n : Nat) (I : Nat → List D → List OD → Prop), (∀ i, i < n → f i ≠ none) ∧ f n = none ∧ I 0 [] O1 ∧ (∀ i acc O', I i acc O' → O'.length = O1.length) ∧
      (∀ i t acc O', i < n → f i = some t → I i acc O' → WG K W g t (O' ++ [.lst acc]) (wipeT ts vs) (fun ts2 O2 => WT K W tt O2 ts2 (fun c O3 =>
        (c = true → WE K W te O3 ts2 (fun y O4 => ∃ d O5, y = .v d ∧ O4 = O5 ++ [.lst acc] ∧ acc.length < sizeLine ∧ I (i + 1) (acc ++ [d]) O5) X0) ∧ (c = false → ∃ O5, O3 = O5 ++ [.lst acc] ∧ I (i + 1) acc O5)) X0)) ∧
      (∀ acc O', I n acc O' → P (.v (.lst acc)) O')) X) : WE K W (tLc wi g tt te vs) O ts P X := fun b A σ H Q s rs kv kx =>
  h b A σ H _ s rs (fun J f A1 O1 H1 p s1 n1 fc => by
    obtain ⟨n, I, hf, hn, h0, hlen, hs, hd⟩ := p
    intro Dl hD
    obtain ⟨s2, n2⟩ := s1.own (u := .lst []) (o := .lst []) hD ⟨[], upd_same, rfl⟩
    have at_ : ∀ {O' : List OD} {acc : List D}, O'.length = O1.length → (O' ++ [OD.lst acc])[A1.length]? = some (.lst acc) := fun {O' acc} e => by
      rw [s1.len, List.getElem?_append_right (by omega), e, Nat.sub_self]
      exact rfl
    have atA : (A1 ++ [Dl])[A1.length]? = some Dl := by
      rw [List.getElem?_append_right (Nat.le_refl _), Nat.sub_self]
      exact rfl
    refine ⟨fun i m H' => m = n - i ∧ i ≤ n ∧ ∃ acc O', I i acc O' ∧ StO K b (A1 ++ [Dl]) (O' ++ [.lst acc]) H' ∧ Nxt b A1 O1 H1 (A1 ++ [Dl]) (O' ++ [.lst acc]) H', ⟨n, by omega, Nat.zero_le _, [], O1, h0, s2, n2⟩, ?_⟩
    rintro i m H' ⟨rfl, hi, acc, O', hI, s', n'⟩
    have hl := hlen i acc O' hI
    obtain ⟨c1, c2⟩ := fc i _ _ H' s' n'
    by_cases hlt : i < n
    · right
      obtain ⟨t, ht⟩ := Option.ne_none_iff_exists'.mp (hf i hlt)
      obtain ⟨hgo, hy⟩ := c2 t ht
      refine ⟨hgo, fun H2 => ∃ acc2 O2, I (i + 1) acc2 O2 ∧ StO K b (A1 ++ [Dl]) (O2 ++ [.lst acc2]) H2 ∧ Nxt b A1 O1 H1 (A1 ++ [Dl]) (O2 ++ [.lst acc2]) H2, fun H2 q => ⟨n - (i + 1), by omega, rfl, hlt, q⟩, fun x H3 y => ?_⟩
      obtain ⟨s3, n3, r3⟩ := hy x H3 y
      have rsw : RepS K (Fz b (A1 ++ [Dl]) (O' ++ [.lst acc]) H3) (A1 ++ [Dl]) (wipeT ts vs) (wipe σ vs) := repS_wipe (rs.nxt ((n1.trans n').trans n3)) vs
      have key := hs i t acc O' hlt ht hI b (A1 ++ [Dl]) (wipe σ vs) H3 (fun σ2 H2 => tt σ2 H2 fun c H4 => if c = true then te σ2 H4 fun y H5 => ∃ acc, H5 Dl = some (.lst acc) ∧ acc.length < sizeLine ∧ ∃ acc2 O2, I (i + 1) acc2 O2 ∧ StO K b (A1 ++ [Dl]) (O2 ++ [.lst acc2]) (upd H5 Dl (.lst (acc ++ [y]))) ∧ Nxt b A1 O1 H1 (A1 ++ [Dl]) (O2 ++ [.lst acc2]) (upd H5 Dl (.lst (acc ++ [y])))
        else ∃ acc2 O2, I (i + 1) acc2 O2 ∧ StO K b (A1 ++ [Dl]) (O2 ++ [.lst acc2]) H4 ∧ Nxt b A1 O1 H1 (A1 ++ [Dl]) (O2 ++ [.lst acc2]) H4) x s3 rsw r3 fun ts4 σ4 A4 O4 H4 p4 s4 n4 rs4 => ?_
      · have k2 := hg x (wipe σ vs) H3 _ key
        have ww : wipe (wipe σ vs) vs = wipe σ vs := by
          refine List.ext_getElem? fun i => ?_
          rw [wipe_get, wipe_get]
          by_cases hi : i ∈ vs
          · rw [if_pos hi, if_pos hi]
            cases σ[i]? <;> rfl
          · rw [if_neg hi, if_neg hi]
        rw [ww] at k2
        exact k2
      · have n14 := (n'.trans n3).trans n4
        refine p4 b A4 σ4 H4 _ s4 rs4 (fun c A5 O5 H5 p5 s5 n5 => ?_) (fun C fs A' O' H' d z => z.elim)
        have n15 := n14.trans n5
        have prefixA : ∀ {A6 O6 H6}, Nxt b A1 O1 H1 A6 O6 H6 → Nxt b (A1 ++ [Dl]) (O' ++ [.lst acc]) H' A6 O6 H6 → StO K b A6 O6 H6 → O6.length = O1.length + 1 → A6 = A1 ++ [Dl] := fun {A6 O6 H6} n6 m6 s6 l6 => by
          obtain ⟨M, e⟩ := m6.pre
          have l7 := s6.len
          rw [e, List.length_append, List.length_append, s1.len] at l7
          have : M.length = 0 := by
            simp only [List.length_singleton] at l7
            omega
          rw [e, List.length_eq_zero_iff.mp this, List.append_nil]
        cases c with
        | true =>
          refine iteT (p5.1 rfl b A5 σ4 H5 _ s5 (rs4.nxt n5) (fun y v A6 O6 H6 p6 s6 n6 r6 => ?_) (fun C fs A' O' H' d z => z.elim))
          obtain ⟨d, O7, rfl, rfl, hz, hI2⟩ := p6
          have hl7 := hlen _ _ _ hI2
          have eA := prefixA (n'.trans (((n3.trans n4).trans n5).trans n6)) (((n3.trans n4).trans n5).trans n6) s6 (by rw [List.length_append, hl7] <;> rfl)
          subst eA
          obtain ⟨us, h1, h2⟩ := s6.cell A1.length Dl _ atA (at_ hl7)
          obtain ⟨w, e2, rd⟩ := r6
          cases e2
          refine ⟨us, h1, by rw [h2.length]; exact hz, acc ++ [d], O7, hI2, ?_⟩
          obtain ⟨s8, n8⟩ := s6.put (w := .lst (us ++ [v])) (o := .lst (acc ++ [d])) atA (at_ hl7) (fun z => by cases z) (fun z => by cases z) ⟨_, upd_same, h2.append ⟨v, [], rfl, rd, rfl⟩⟩
          have es : (O7 ++ [OD.lst acc]).set A1.length (.lst (acc ++ [d])) = O7 ++ [.lst (acc ++ [d])] := by
            rw [s1.len, ← hl7, List.set_append_right _ _ (Nat.le_refl _), Nat.sub_self]
            exact rfl
          rw [es] at s8 n8
          exact ⟨s8, n'.trans ((((n3.trans n4).trans n5).trans n6).trans n8)⟩
        | false =>
          refine iteF ?_
          obtain ⟨O7, rfl, hI2⟩ := p5.2 rfl
          have hl7 := hlen _ _ _ hI2
          have eA := prefixA (n'.trans ((n3.trans n4).trans n5)) ((n3.trans n4).trans n5) s5 (by rw [List.length_append, hl7] <;> rfl)
          subst eA
          exact ⟨acc, O7, hI2, s5, n'.trans ((n3.trans n4).trans n5)⟩
    · left
      have e : i = n := by omega
      subst e
      refine ⟨c1 hn hf, ?_⟩
      obtain ⟨us, h1, h2⟩ := s'.cell A1.length Dl _ atA (at_ hl)
      obtain ⟨s5, x5⟩ := s'.drop (by rw [hl]; exact s1.len) s1.pre
      have nA : Dl ∉ A1 := fun hm => (List.nodup_append.mp s'.nd).2.2 Dl hm Dl (List.mem_singleton.mpr rfl) rfl
      have nz : Dl ∉ live A1 O' ++ b.Z := fun z => by
        rcases List.mem_append.mp z with z | z
        · obtain ⟨j, o, z1, _, _⟩ := live_mem z
          exact nA (List.mem_of_getElem? z1)
        · have zz := s1.z_at (a := Dl) z
          obtain ⟨o, zz, _⟩ := zz.2
          rw [hD] at zz
          cases zz
      exact kv _ _ A1 O' H' (hd acc O' hI) s5 (n1.trans ⟨⟨[], (List.append_nil A1).symm⟩, n'.ext.trans x5⟩) ⟨_, rfl, Dl, us, rfl, (hid_some.mpr ⟨nz, h1⟩), h2.ex x5⟩) kx
end

mutual
def toP : D → PyData
  | .non => .none
  | .bl b => .bool b
  | .int i => .int i
  | .str x => .str x
  | .lst ds => .list (toPs ds)
  | .tup ds => .tuple (toPs ds)
  | _ => .none
def toPs : List D → List PyData
  | [] => []
  | d :: ds => toP d :: toPs ds
end
mutual
/-- data that can be compared, of depth at most n -/
def pl : Nat → D → Bool
  | _, .non => true
  | _, .bl _ => true
  | _, .int _ => true
  | _, .str x => PyData.canLay0 (.str x)
  | n + 1, .lst ds => pls n ds
  | n + 1, .tup ds => pls n ds
  | _, _ => false
def pls : Nat → List D → Bool
  | _, [] => true
  | n, d :: ds => pl n d && pls n ds
end
mutual
theorem rep_dp {K : PySem.W.Frag} {H : Hp} : ∀ (n : Nat) (d : D) {v : V}, pl n d = true → Rep K H d v → Dp K H v (toP d)
  | _, .non, _, _, r => by rw [show _ = V.non from r]; exact .non
  | _, .bl b, _, _, r => by rw [show _ = V.bl b from r]; exact .bl b
  | _, .int b, _, _, r => by rw [show _ = V.int b from r]; exact .int b
  | _, .str b, _, _, r => by rw [show _ = V.str b from r]; exact .str b
  | n + 1, .lst ds, _, h, r => by
    obtain ⟨a, vs, rfl, h1, h2⟩ := r
    exact .lst (SqL.of h1) (reps_dp n ds h h2)
  | n + 1, .tup ds, _, h, r => by
    obtain ⟨a, vs, rfl, h1, h2⟩ := r
    exact .tup h1 (reps_dp n ds h h2)
  | 0, .lst ds, _, h, _ => by cases h
  | 0, .tup ds, _, h, _ => by cases h
  | 0, .ins _ _, _, h, _ => by cases h
  | _ + 1, .ins _ _, _, h, _ => by cases h
  | 0, .ref _, _, h, _ => by cases h
  | _ + 1, .ref _, _, h, _ => by cases h
  | 0, .ty _, _, h, _ => by cases h
  | _ + 1, .ty _, _, h, _ => by cases h
  | 0, .dic _, _, h, _ => by cases h
  | _ + 1, .dic _, _, h, _ => by cases h
  | 0, .scr _, _, h, _ => by cases h
  | _ + 1, .scr _, _, h, _ => by cases h
  | 0, .exc _ _, _, h, _ => by cases h
  | _ + 1, .exc _ _, _, h, _ => by cases h
theorem reps_dp {K : PySem.W.Frag} {H : Hp} : ∀ (n : Nat) (ds : List D) {vs : List V}, pls n ds = true → RepL K H ds vs → DpAll K H vs (toPs ds)
  | _, [], _, _, r => by rw [show _ = [] from r]; exact .nil
  | n, d :: ds, _, h, r => by
    obtain ⟨v, s, rfl, r1, r2⟩ := r
    have h' : (pl n d && pls n ds) = true := h
    obtain ⟨h1, h2⟩ := Bool.and_eq_true_iff.mp h'
    exact .cons (rep_dp n d h1 r1) (reps_dp n ds h2 r2)
end
mutual
theorem pl_shape : ∀ (n : Nat) (d : D), pl n d = true → (toP d).canLay0 = true ∧ (toP d).depth ≤ n
  | _, .non, _ => ⟨by simp only [toP, PyData.canLay0], by simp only [toP, PyData.depth]; omega⟩
  | _, .bl b, _ => ⟨by simp only [toP, PyData.canLay0], by simp only [toP, PyData.depth]; omega⟩
  | _, .int b, _ => ⟨by simp only [toP, PyData.canLay0], by simp only [toP, PyData.depth]; omega⟩
  | _, .str b, h => ⟨h, by simp only [toP, PyData.depth]; omega⟩
  | n + 1, .lst ds, h => by
    obtain ⟨h1, h2⟩ := pls_shape n ds h
    exact ⟨by simp only [toP, PyData.canLay0]; exact h1, by simp only [toP, PyData.depth]; omega⟩
  | n + 1, .tup ds, h => by
    obtain ⟨h1, h2⟩ := pls_shape n ds h
    exact ⟨by simp only [toP, PyData.canLay0]; exact h1, by simp only [toP, PyData.depth]; omega⟩
  | 0, .lst ds, h => by cases h
  | 0, .tup ds, h => by cases h
  | 0, .ins _ _, h => by cases h
  | _ + 1, .ins _ _, h => by cases h
  | 0, .ref _, h => by cases h
  | _ + 1, .ref _, h => by cases h
  | 0, .ty _, h => by cases h
  | _ + 1, .ty _, h => by cases h
  | 0, .scr _, h => by cases h
  | _ + 1, .scr _, h => by cases h
  | 0, .exc _ _, h => by cases h
  | _ + 1, .exc _ _, h => by cases h
  | 0, .dic _, h => by cases h
  | _ + 1, .dic _, h => by cases h
theorem pls_shape : ∀ (n : Nat) (ds : List D), pls n ds = true → PyData.canLayAll0 (toPs ds) = true ∧ PyData.depthAll (toPs ds) ≤ n
  | n, [], _ => ⟨by simp only [toPs, PyData.canLayAll0], by simp only [toPs, PyData.depthAll]; omega⟩
  | n, d :: ds, h => by
    have h' : (pl n d && pls n ds) = true := h
    obtain ⟨h1, h2⟩ := Bool.and_eq_true_iff.mp h'
    obtain ⟨a1, a2⟩ := pl_shape n d h1
    obtain ⟨b1, b2⟩ := pls_shape n ds h2
    exact ⟨by simp only [toPs, PyData.canLayAll0, a1, b1, Bool.and_self], by simp only [toPs, PyData.depthAll]; omega⟩
end
theorem pl_shaped {d : D} (h : pl 60 d = true) : SeqAt.shaped (toP d) = true := by
  obtain ⟨h1, h2⟩ := pl_shape 60 d h
  unfold SeqAt.shaped
  rw [h1, decide_eq_true (by omega)] <;> rfl
def eqD (d e : D) : Bool := PyData.eqv (toP d) (toP e)
/-- a value, or an owned list, as data -/
def ValD (x : T) (O : List OD) (d : D) : Prop := x = .v d ∨ ∃ i ds, x = .own i ∧ O[i]? = some (.lst ds) ∧ d = .lst ds
theorem valD_v {O : List OD} {d : D} : ValD (.v d) O d := .inl rfl
theorem valD_o {O : List OD} {i : Nat} {ds : List D} (h : O[i]? = some (.lst ds)) : ValD (.own i) O (.lst ds) := .inr ⟨i, ds, rfl, h, rfl⟩
theorem valD_dp {K : PySem.W.Frag} {b : Bs} {A : List Addr} {O : List OD} {H : Hp} {x : T} {d : D} {v : V} (hp : pl 60 d = true) (h : ValD x O d) (s : StO K b A O H) (r : RepT K (Fz b A O H) A x (some v)) : Dp K H v (toP d) := by
  rcases h with rfl | ⟨i, ds, rfl, ho, rfl⟩
  · obtain ⟨_, e, r⟩ := r
    cases e
    exact rep_dp 60 d hp (r.ex hid_ex)
  · obtain ⟨a, ha, e⟩ := r
    cases e
    obtain ⟨vs, h1, h2⟩ := s.cell i a _ ha ho
    have h2' : RepL K H ds vs := h2.ex hid_ex
    exact rep_dp 60 (.lst ds) hp ⟨a, vs, rfl, h1, h2'⟩
section
variable {K : PySem.W.Frag} {W : WX} {O : List OD} {ts : List T} {P : PT'} {X : XX} {te : TE} {tr : TA}
theorem w_eqD {x y : T} {d e : D} (hx : ValD x O d) (hy : ValD y O e) (h1 : pl 60 d = true) (h2 : pl 60 e = true) (k : P (.v (.bl (eqD d e))) O) : WR K (rEqD K) x y O P := fun b A H Q v u s r1 r2 kv =>
  ⟨toP d, toP e, valD_dp h1 hx s r1, valD_dp h2 hy s r2, pl_shaped h1, pl_shaped h2, kv _ _ A O H k s Nxt.refl ⟨_, rfl, rfl⟩⟩
theorem w_neD {x y : T} {d e : D} (hx : ValD x O d) (hy : ValD y O e) (h1 : pl 60 d = true) (h2 : pl 60 e = true) (k : P (.v (.bl (!eqD d e))) O) : WR K (rNeD K) x y O P := fun b A H Q v u s r1 r2 kv =>
  ⟨toP d, toP e, valD_dp h1 hx s r1, valD_dp h2 hy s r2, pl_shaped h1, pl_shaped h2, kv _ _ A O H k s Nxt.refl ⟨_, rfl, rfl⟩⟩
def isNon : D → Bool
  | .non => true
  | _ => false
theorem isNon_v {F : Hp} {d : D} {v : V} (r : Rep K F d v) : decide (v = .non) = isNon d := by
  cases d with
  | non => rw [show v = .non from r] <;> rfl
  | bl b => rw [show v = .bl b from r] <;> rfl
  | int b => rw [show v = .int b from r] <;> rfl
  | str b => rw [show v = .str b from r] <;> rfl
  | ty b => rw [show v = .ty b from r] <;> rfl
  | ref b => rw [show v = .ref b from r] <;> rfl
  | lst ds =>
    obtain ⟨a, vs, rfl, _⟩ := r
    rfl
  | tup ds =>
    obtain ⟨a, vs, rfl, _⟩ := r
    rfl
  | ins C fs =>
    obtain ⟨a, dx, vs, rfl, _⟩ := r
    rfl
  | dic kvs =>
    obtain ⟨a, vs, rfl, _⟩ := r
    rfl
  | scr kvs =>
    obtain ⟨a, rfl, _⟩ := r
    rfl
  | exc C fs =>
    obtain ⟨a, d, vs, rfl, _⟩ := r
    rfl
  | ext R =>
    obtain ⟨a, h0, rfl, _⟩ := r
    rfl
theorem w_isN {d : D} (k : P (.v (.bl (isNon d))) O) : WR K rIsN (.v d) (.v .non) O P := fun b A H Q v u s r1 r2 kv => by
  obtain ⟨_, e1, q1⟩ := r1
  obtain ⟨_, e2, rfl⟩ := r2
  cases e1
  cases e2
  refine ⟨rfl, ?_⟩
  rw [isNon_v q1]
  exact kv _ _ A O H k s Nxt.refl ⟨_, rfl, rfl⟩
theorem w_notN {d : D} (k : P (.v (.bl (!isNon d))) O) : WR K rNotN (.v d) (.v .non) O P := fun b A H Q v u s r1 r2 kv => by
  obtain ⟨_, e1, q1⟩ := r1
  obtain ⟨_, e2, rfl⟩ := r2
  cases e1
  cases e2
  refine ⟨rfl, ?_⟩
  rw [isNon_v q1]
  exact kv _ _ A O H k s Nxt.refl ⟨_, rfl, rfl⟩
theorem cutV_whole {xs : List V} {lo hi : Option Int} (h : HT.sIx xs.length 0 lo = 0 ∧ HT.sIx xs.length xs.length hi = xs.length) : cutV xs lo hi = xs := by
  unfold cutV
  rw [h.1, h.2, Nat.sub_zero, List.drop_zero, List.take_length]
theorem w_slT {tl th : TO} (h : WE K W te O ts (fun x O1 => WO K W tl O1 ts (fun lo O2 => WO K W th O2 ts (fun hi O3 => ∃ ds, x = .v (.tup ds) ∧ P (.v (.tup (cutD ds lo hi))) O3) X) X) X) : WE K W (tSl (rSlA K) te tl th) O ts P X := fun b A σ H Q s rs kv kx =>
  h b A σ H _ s rs (fun x v A1 O1 H1 p1 s1 n1 r1 => p1 b A1 σ H1 _ s1 (rs.nxt n1) (fun lo A2 O2 H2 p2 s2 n2 => p2 b A2 σ H2 _ s2 (rs.nxt (n1.trans n2)) (fun hi A3 O3 H3 p3 s3 n3 => by
    obtain ⟨ds, rfl, p⟩ := p3
    have r3 := r1.nxt (n2.trans n3)
    obtain ⟨_, e3, a, vs, rfl, h1, h2⟩ := r3
    cases e3
    refine ⟨a, vs, rfl, (hid_ex : Ex (Fz b A3 O3 H3) H3).t h1, fun hw => ?_, fun _ p' hp => ?_⟩
    · have c := cut_rep h2 lo hi
      rw [cutV_whole hw] at c
      exact kv _ _ A3 O3 _ p s3 ((n1.trans n2).trans n3) ⟨_, rfl, a, vs, rfl, h1, c⟩
    · obtain ⟨s4, n4, q⟩ := s3.lay hp (.tup (cutV vs lo hi))
      exact kv _ _ A3 O3 _ p s4 (((n1.trans n2).trans n3).trans n4) ⟨_, rfl, p', _, rfl, SqT.of q, (cut_rep h2 lo hi).ex n4.ext⟩) (kx.nxt (n1.trans n2))) (kx.nxt n1)) kx
theorem w_catT {ds es : List D} (hz : ds.length + es.length ≤ sizeLine) (k : P (.v (.tup (ds ++ es))) O) : WR K (rCatA K) (.v (.tup ds)) (.v (.tup es)) O P := fun b A H Q v u s r1 r2 kv => by
  obtain ⟨_, e1, a, vs, rfl, h1, h2⟩ := r1
  obtain ⟨_, e2, c, us, rfl, h3, h4⟩ := r2
  cases e1
  cases e2
  have x : Ex (Fz b A O H) H := hid_ex
  refine ⟨a, c, vs, us, rfl, rfl, x.t h1, x.t h3, by rw [h2.length, h4.length]; exact hz, fun e => ?_, fun _ e => ?_, fun _ _ p hp => ?_⟩
  · subst e
    have e0 : ds = [] := List.length_eq_zero_iff.mp h2.length.symm
    subst e0
    exact kv _ _ A O H k s Nxt.refl ⟨_, rfl, c, us, rfl, h3, h4⟩
  · subst e
    have e0 : es = [] := List.length_eq_zero_iff.mp h4.length.symm
    subst e0
    rw [List.append_nil] at k
    exact kv _ _ A O H k s Nxt.refl ⟨_, rfl, a, vs, rfl, h1, h2⟩
  · obtain ⟨s4, n4, q⟩ := s.lay hp (.tup (vs ++ us))
    exact kv _ _ A O _ k s4 n4 ⟨_, rfl, p, _, rfl, SqT.of q, (h2.append h4).ex n4.ext⟩
theorem repTs_app {F : Hp} {A : List Addr} {ys : List T} {us : List V} (q : RepTs K F A ys us) : ∀ {ds : List D} {vs : List V}, RepL K F ds vs → RepTs K F A (ds.map T.v ++ ys) (vs ++ us)
  | [], _, h => by
    rw [show _ = [] from h]
    exact q
  | d :: ds, _, h => by
    obtain ⟨v, r, rfl, h1, h2⟩ := h
    exact ⟨v, r ++ us, rfl, ⟨v, rfl, h1⟩, repTs_app q h2⟩
/-- *xs in a display or a call -/
theorem w_star {PL' : PL} (h : WE K W te O ts (fun x O1 => ∃ ds, (ValD x O1 (.lst ds) ∨ x = .v (.tup ds)) ∧ WA K W tr O1 ts (fun ys O2 => PL' (ds.map T.v ++ ys) O2) X) X) : WA K W (StX.tStar K te tr) O ts PL' X := fun b A σ H Q s rs kl kx =>
  h b A σ H _ s rs (fun x v A1 O1 H1 p1 s1 n1 r1 => by
    obtain ⟨ds, hx, p⟩ := p1
    have key : ∃ a vs, v = .ref a ∧ (SqT K H1 a vs ∨ SqL K H1 a vs) ∧ RepL K (Fz b A1 O1 H1) ds vs := by
      rcases hx with hx | rfl
      · have hx' : LstD x O1 ds := by
          rcases hx with rfl | ⟨i, es, rfl, ho, e⟩
          · exact .inl rfl
          · cases e
            exact .inr ⟨i, rfl, ho⟩
        obtain ⟨a, vs, e, h1, h2⟩ := lstD_at hx' s1 r1
        exact ⟨a, vs, e, .inr h1, h2⟩
      · obtain ⟨a, vs, e, h1, h2⟩ := tupD_at (hid_ex : Ex (Fz b A1 O1 H1) H1) r1
        exact ⟨a, vs, e, .inl h1, h2⟩
    obtain ⟨a, vs, rfl, h1, h2⟩ := key
    refine ⟨a, vs, rfl, h1, p b A1 σ H1 _ s1 (rs.nxt n1) (fun ys us A2 O2 H2 p2 s2 n2 r2 => kl _ _ A2 O2 H2 p2 s2 (n1.trans n2) ?_) (kx.nxt n1)⟩
    exact repTs_app r2 (h2.ex n2.ext)) kx
end
end G

set_option Elab.async false
set_option linter.all false
set_option maxRecDepth 100000
set_option maxHeartbeats 4000000
namespace G
open PySem PySem.Spec PyProof.Rows L2

section
variable {K : PySem.W.Frag} {W : WX} {O : List OD} {ts : List T} {X : XX} {ta : TA}
theorem pair_laid {b : Bs} {A : List Addr} {H : Hp} {p : Addr} {x y : V} {d e : D} (s : StO K b A O H) (hp : H p = none) (r1 : Rep K (Fz b A O H) d x) (r2 : Rep K (Fz b A O H) e y) :
    StO K b A O (upd H p (.tup [x, y])) ∧ Nxt b A O H A O (upd H p (.tup [x, y])) ∧ RepT K (Fz b A O (upd H p (.tup [x, y]))) A (.v (.tup [d, e])) (some (.ref p)) := by
  obtain ⟨s2, n2, q⟩ := s.lay hp (.tup [x, y])
  exact ⟨s2, n2, _, rfl, p, _, rfl, SqT.of q, x, [y], rfl, r1.ex n2.ext, y, [], rfl, r2.ex n2.ext, rfl⟩
/-- zip of two lists, of two tuples -/
def itZ (ds es : List D) : Nat → Option T := fun i => match ds[i]?, es[i]? with
  | some d, some e => some (.v (.tup [d, e]))
  | _, _ => none
theorem itZ_none {ds es : List D} {i : Nat} (h : itZ ds es i = none) : ds.length ≤ i ∨ es.length ≤ i := by
  unfold itZ at h
  cases q : ds[i]? with
  | none => exact .inl (List.getElem?_eq_none_iff.mp q)
  | some d =>
    cases q2 : es[i]? with
    | none => exact .inr (List.getElem?_eq_none_iff.mp q2)
    | some e =>
      rw [q, q2] at h
      cases h
theorem itZ_some {ds es : List D} {i : Nat} {t : T} (h : itZ ds es i = some t) : ∃ d e, ds[i]? = some d ∧ es[i]? = some e ∧ t = .v (.tup [d, e]) := by
  unfold itZ at h
  cases q : ds[i]? with
  | none =>
    rw [q] at h
    cases h
  | some d =>
    cases q2 : es[i]? with
    | none =>
      rw [q, q2] at h
      cases h
    | some e =>
      rw [q, q2] at h
      exact ⟨d, e, rfl, rfl, (Option.some.inj h).symm⟩
theorem i_zipT {S : (Nat → Option T) → List OD → Prop} (h : WA K W ta O ts (fun xs O' => ∃ ds es, xs = [.v (.tup ds), .v (.tup es)] ∧ S (itZ ds es) O') X) : WI K W (RZ.iZipA K ta) O ts S X := fun b A σ H R s rs k kx =>
  h b A σ H _ s rs (fun xs vs A' O' H' p s' n' r' => by
    obtain ⟨ds, es, rfl, q⟩ := p
    obtain ⟨v, _, rfl, ⟨_, e, a, us, rfl, h1, h2⟩, v', _, rfl, ⟨_, e', c, ws, rfl, h3, h4⟩, rfl⟩ := r'
    cases e
    cases e'
    refine ⟨a, c, us, ws, rfl, .inr ⟨hid_ex.t h1, hid_ex.t h3, k _ _ A' O' H' q s' n' fun i A2 O2 H2 s2 n2 => ⟨fun hn _ => ⟨us, ws, hid_ex.t (n2.ext.t h1), hid_ex.t (n2.ext.t h3), by rw [h2.length, h4.length]; exact itZ_none hn⟩, fun t ht => ?_⟩⟩⟩
    obtain ⟨d, e, e1, e2, rfl⟩ := itZ_some ht
    obtain ⟨v, e3, r3⟩ := h2.get e1
    obtain ⟨v', e4, r4⟩ := h4.get e2
    have k1 : SqT K H2 a us := hid_ex.t (n2.ext.t h1)
    have k2 : SqT K H2 c ws := hid_ex.t (n2.ext.t h3)
    refine ⟨⟨us, ws, v, v', k1, k2, e3, e4⟩, fun x H3 y => ?_⟩
    obtain ⟨p, w, w', rfl, hp, rfl, y1, y2⟩ := y
    have e5 : w = v := Option.some.inj ((y1 us k1).symm.trans e3)
    have e6 : w' = v' := Option.some.inj ((y2 ws k2).symm.trans e4)
    subst e5 e6
    exact pair_laid s2 hp (r3.ex n2.ext) (r4.ex n2.ext)) kx
theorem s_par3 {E : DE} {i j l : Nat} (h : WA K W ta O ts (fun xs O' => ∃ x y z, xs = [x, y, z] ∧ E.nx (((ts.set i x).set j y).set l z) O') (fun C fs O' => E.xe C fs ts O')) : WS K W (tPar3 i j l ta) O ts E := fun b A σ H D s rs ks =>
  h b A σ H _ s rs (fun xs vs A' O' H' p s' n' r' => by
    obtain ⟨x, y, z, rfl, q⟩ := p
    obtain ⟨v, _, rfl, r1, w', _, rfl, r2, w2, _, rfl, r3, rfl⟩ := r'
    exact ⟨v, w', w2, rfl, ks.nx _ _ A' O' H' q s' n' ((((rs.nxt n').set r1 i).set r2 j).set r3 l)⟩) (ks.kx rs)
/-- what of the text an own class must have that isinstance may look at its instances -/
structure InsTy (K : PySem.W.Frag) (C : Addr) : Prop where
  cl : Cls K C
  ha : PySem.W.findIn K (.ref C) "__class__" = some (some (.builtin "object.__class__"))
  hn : PySem.W.specialIn K (.builtin "object.__class__") "__get__" = some (some (.builtin "getset_descriptor.__get__"))
  ht : PySem.W.takesIn K (.builtin "object.__class__") = some true
  hm : PySem.W.mroIn K C (.type "object") = some true
inductive TyD (K : PySem.W.Frag) : D → Value → Prop where
  | non : TyD K .non (.type "NoneType")
  | bl (b : Bool) : TyD K (.bl b) (.type "bool")
  | int (i : Int) : TyD K (.int i) (.type "int")
  | str (x : Str) : TyD K (.str x) (.type "str")
  | lst (ds : List D) : TyD K (.lst ds) (.type "list")
  | tup (ds : List D) : TyD K (.tup ds) (.type "tuple")
  | dic (kvs : List (Key × D)) : TyD K (.dic kvs) (.type "dict")
  | ins (C : Addr) (fs : List (Str × D)) (h : InsTy K C) : TyD K (.ins C fs) (.ref C)
theorem sqL_ty {H : Hp} {a : Addr} {vs : List V} (h : SqL K H a vs) : TyX K H (.ref a) (.type "list") := by
  rcases h with (h | ⟨o, h⟩) | h
  · exact .base (.lst h)
  · exact .base (.frz h)
  · obtain ⟨o, its, n, h1, h2, _⟩ := h
    exact .kList h1 h2
theorem sqT_ty {H : Hp} {a : Addr} {vs : List V} (h : SqT K H a vs) : TyX K H (.ref a) (.type "tuple") := by
  rcases h with (h | ⟨o, h⟩) | h
  · exact .base (.tup h)
  · exact .fTuple h
  · obtain ⟨o, its, n, h1, h2, _⟩ := h
    exact .kTuple h1 h2
theorem TyD.tyX {H : Hp} {d : D} {t : Value} {v : V} (h : TyD K d t) (r : Rep K H d v) : TyX K H v t := by
  cases h with
  | non => rw [show v = .non from r]; exact .base .non
  | bl b => rw [show v = .bl b from r]; exact .base (.bl b)
  | int i => rw [show v = .int i from r]; exact .base (.int i)
  | str x => rw [show v = .str x from r]; exact .base (.str x)
  | lst ds =>
    obtain ⟨a, vs, rfl, h1, _⟩ := r
    exact sqL_ty (SqL.of h1)
  | tup ds =>
    obtain ⟨a, vs, rfl, h1, _⟩ := r
    exact sqT_ty h1
  | dic kvs =>
    obtain ⟨a, vs, rfl, h1, _⟩ := r
    exact .base (.dK h1)
  | ins C fs h =>
    obtain ⟨a, dx, vs, rfl, h1, _⟩ := r
    exact .base (.ins h1 h.cl h.ha h.hn h.ht h.hm)
/-- a class as data -/
inductive ClsD : D → Value → Prop where
  | ty (n : String) : ClsD (.ty n) (.type n)
  | own (C : Addr) : ClsD (.ref C) (.ref C)
theorem ClsD.cls {H : Hp} {d : D} {u : Value} {v : V} (h : ClsD d u) (r : Rep K H d v) : ClsV v u := by
  cases h with
  | ty n => rw [show v = .ty n from r]; exact .ty n
  | own C => rw [show v = .ref C from r]; exact .own C
theorem c_isi {P : PT'} {d c : D} {t u : Value} {b : Bool} (ht : TyD K d t) (hc : ClsD c u) (e : PySem.W.kitOne K t u = some b) (k : P (.v (.bl b)) O) : WC K (rIsi K) [.v d, .v c] O P := fun b' A H Q vs s r kv => by
  obtain ⟨v, _, rfl, ⟨_, e1, r1⟩, w, _, rfl, ⟨_, e2, r2⟩, rfl⟩ := r
  cases e1
  cases e2
  exact ⟨v, w, t, u, b, rfl, hc.cls r2, ht.tyX (r1.ex hid_ex), e, kv _ _ A O H k s Nxt.refl ⟨_, rfl, rfl⟩⟩
end
end G

set_option Elab.async false
set_option linter.all false
set_option maxRecDepth 100000
set_option maxHeartbeats 4000000
namespace G
open PySem PySem.Spec PyProof.Rows L2
section
variable {K : PySem.W.Frag} {W : WX} {O : List OD} {ts : List T} {P : PT'} {X : XX}
theorem w_add {i j : Int} (k : P (.v (.int (i + j))) O) : WR K (rI0 fun i j => .int (i + j)) (.v (.int i)) (.v (.int j)) O P := w_I0 (d := .int (i + j)) (fun _ => rfl) k
theorem w_sub {i j : Int} (k : P (.v (.int (i - j))) O) : WR K (rI0 fun i j => .int (i - j)) (.v (.int i)) (.v (.int j)) O P := w_I0 (d := .int (i - j)) (fun _ => rfl) k
theorem w_lt {i j : Int} (k : P (.v (.bl (decide (i < j)))) O) : WR K (rI0 fun i j => .bl (decide (i < j))) (.v (.int i)) (.v (.int j)) O P := w_I0 (d := .bl (decide (i < j))) (fun _ => rfl) k
theorem w_le {i j : Int} (k : P (.v (.bl (decide (i ≤ j)))) O) : WR K (rI0 fun i j => .bl (decide (i ≤ j))) (.v (.int i)) (.v (.int j)) O P := w_I0 (d := .bl (decide (i ≤ j))) (fun _ => rfl) k
theorem w_gt {i j : Int} (k : P (.v (.bl (decide (j < i)))) O) : WR K (rI0 fun i j => .bl (decide (j < i))) (.v (.int i)) (.v (.int j)) O P := w_I0 (d := .bl (decide (j < i))) (fun _ => rfl) k
theorem w_ge {i j : Int} (k : P (.v (.bl (decide (j ≤ i)))) O) : WR K (rI0 fun i j => .bl (decide (j ≤ i))) (.v (.int i)) (.v (.int j)) O P := w_I0 (d := .bl (decide (j ≤ i))) (fun _ => rfl) k
theorem w_mul {i j : Int} (h : CMul i j) (k : P (.v (.int (i * j))) O) : WR K (rI CMul fun i j => .int (i * j)) (.v (.int i)) (.v (.int j)) O P := w_I (d := .int (i * j)) h (fun _ => rfl) k
theorem w_mulW {i j : Int} (h : CMulW i j) (k : P (.v (.int (i * j))) O) : WR K (rI CMulW fun i j => .int (i * j)) (.v (.int i)) (.v (.int j)) O P := w_I (d := .int (i * j)) h (fun _ => rfl) k
theorem w_fdivW {i j : Int} (h : CDivW i j) (k : P (.v (.int (i / j))) O) : WR K (rI CDivW fun i j => .int (i / j)) (.v (.int i)) (.v (.int j)) O P := w_I (d := .int (i / j)) h (fun _ => rfl) k
theorem w_mod {i j : Int} (h : 0 < j) (k : P (.v (.int (i % j))) O) : WR K (rI (fun _ j => 0 < j) fun i j => .int (i % j)) (.v (.int i)) (.v (.int j)) O P := w_I (d := .int (i % j)) h (fun _ => rfl) k
theorem w_pow {i j : Int} (h : CPow i j) (k : P (.v (.int (i ^ j.toNat))) O) : WR K (rI CPow fun i j => .int (i ^ j.toNat)) (.v (.int i)) (.v (.int j)) O P := w_I (d := .int (i ^ j.toNat)) h (fun _ => rfl) k
theorem w_neg {i : Int} (k : P (.v (.int (-i))) O) : WU K (rU fun i => .int (-i)) (.v (.int i)) O P := w_Ui (d := .int (-i)) (fun _ => rfl) k
theorem brF {p : Prop} [Decidable p] {A B : Prop} (hp : ¬ p) (h : B) : (decide p = true → A) ∧ (decide p = false → B) := ⟨fun z => absurd (of_decide_eq_true z) hp, fun _ => h⟩
theorem br {p : Prop} [Decidable p] {A B : Prop} (h1 : p → A) (h2 : ¬ p → B) : (decide p = true → A) ∧ (decide p = false → B) := ⟨fun z => h1 (of_decide_eq_true z), fun z => h2 (of_decide_eq_false z)⟩
theorem nbr {p : Prop} [Decidable p] {A B : Prop} (h1 : ¬ p → A) (h2 : p → B) : ((!decide p) = true → A) ∧ ((!decide p) = false → B) := ⟨fun z => h1 fun hp => (by rw [decide_eq_true hp] at z; cases z), fun z => h2 (Decidable.byContradiction fun hp => (by rw [decide_eq_false hp] at z; cases z))⟩
theorem bT {c : Bool} {A B : Prop} (hp : c = true) (h : A) : (c = true → A) ∧ (c = false → B) := ⟨fun _ => h, fun z => by rw [hp] at z; cases z⟩
theorem bF {c : Bool} {A B : Prop} (hp : c = false) (h : B) : (c = true → A) ∧ (c = false → B) := ⟨fun z => (by rw [hp] at z; cases z), fun _ => h⟩
theorem bnT {c : Bool} {A B : Prop} (hp : c = false) (h : A) : ((!c) = true → A) ∧ ((!c) = false → B) := ⟨fun _ => h, fun z => by rw [hp] at z; cases z⟩
theorem bnF {c : Bool} {A B : Prop} (hp : c = true) (h : B) : ((!c) = true → A) ∧ ((!c) = false → B) := ⟨fun z => (by rw [hp] at z; cases z), fun _ => h⟩
theorem tt_ {A B : Prop} (h : A) : (true = true → A) ∧ (true = false → B) := ⟨fun _ => h, fun z => (nomatch z)⟩
theorem ff_ {A B : Prop} (h : B) : (false = true → A) ∧ (false = false → B) := ⟨fun z => (nomatch z), fun _ => h⟩
theorem ntt_ {A B : Prop} (h : B) : ((!true) = true → A) ∧ ((!true) = false → B) := ⟨fun z => (nomatch z), fun _ => h⟩
theorem nff_ {A B : Prop} (h : A) : ((!false) = true → A) ∧ ((!false) = false → B) := ⟨fun _ => h, fun z => (nomatch z)⟩
end
def LkF (K : PySem.W.Frag) (f : Addr) (fd : FuncData) : Prop := ∃ oc od osl, K.lookup f = some ⟨oc, od, .func fd, osl⟩
theorem lk_of {K : PySem.W.Frag} {x qual : Str} {params : Arguments} {body : List Stmt} {scope : Scope} {dvs : List V} {kws : List (Str × V)} {f : Addr} {fd : FuncData} (F : FunD K x qual params body scope dvs kws f fd) : LkF K f fd := by
  obtain ⟨oc, od, dV, kV, doc, pm, an, cdv, ct, osl, rfl, lk, _⟩ := F.ex
  exact ⟨oc, od, osl, lk⟩
/-- a def by its promise over data -/
def Fn (P : Program) (w : World) (K : PySem.W.Frag) (mg : Str → Option Value) (base : Heap) (k : Nat) (f : Addr) (ps : List Str) (sp : SpD) : Prop :=
  ∃ fd, FnOk P w K mg base (L2.CX P w) k f fd ps (lift K sp) ∧ Binds K fd ps [] ∧ PySem.W.keepIn K (.ref f) = true ∧ LkF K f fd
theorem natAbs_lt {i : Int} {n : Nat} (h0 : -(2 ^ n : Int) < i) (h1 : i < 2 ^ n) : i.natAbs < 2 ^ n := by
  have e : ((2 ^ n : Nat) : Int) = (2 ^ n : Int) := by simp
  omega
theorem mulW_ok {i j : Int} (hi : -(2 ^ 250 : Int) < i ∧ i < 2 ^ 250) (hj : -(2 ^ 250 : Int) < j ∧ j < 2 ^ 250) : CMulW i j :=
  wide_mul (a := 250) (b := 250) (natAbs_lt hi.1 hi.2) (natAbs_lt hj.1 hj.2) (by omega) (by omega) (by omega)
theorem divW_ok {i j : Int} (h : 0 < j) (hj : j < 2 ^ 250) : CDivW i j := by
  have h2 : -(2 ^ 250 : Int) < j := Int.lt_trans (by decide) h
  exact wide_div (b := 250) h (natAbs_lt h2 hj) (by omega) (by omega)
/-- whether a value is an integer and no bool, as isinstance tells it -/
def IntQ (K : PySem.W.Frag) (d : D) (b : Bool) : Prop := ∃ t b1 b2, TyD K d t ∧ PySem.W.kitOne K t (.type "int") = some b1 ∧ PySem.W.kitOne K t (.type "bool") = some b2 ∧ b = (b1 && !b2)
theorem intQ_int {K : PySem.W.Frag} {n : Int} : IntQ K (.int n) true := ⟨_, true, false, .int n, kit_ty (by decide +kernel), kit_ty (by decide +kernel), rfl⟩
theorem intQ_bl {K : PySem.W.Frag} {n : Bool} : IntQ K (.bl n) false := ⟨_, true, true, .bl n, kit_ty (by decide +kernel), kit_ty (by decide +kernel), rfl⟩
theorem intQ_non {K : PySem.W.Frag} : IntQ K .non false := ⟨_, false, false, .non, kit_ty (by decide +kernel), kit_ty (by decide +kernel), rfl⟩
theorem intQ_str {K : PySem.W.Frag} {n : Str} : IntQ K (.str n) false := ⟨_, false, false, .str n, kit_ty (by decide +kernel), kit_ty (by decide +kernel), rfl⟩
theorem intQ_lst {K : PySem.W.Frag} {n : List D} : IntQ K (.lst n) false := ⟨_, false, false, .lst n, kit_ty (by decide +kernel), kit_ty (by decide +kernel), rfl⟩
theorem intQ_tup {K : PySem.W.Frag} {n : List D} : IntQ K (.tup n) false := ⟨_, false, false, .tup n, kit_ty (by decide +kernel), kit_ty (by decide +kernel), rfl⟩
theorem intQ_dic {K : PySem.W.Frag} {n : List (Key × D)} : IntQ K (.dic n) false := ⟨_, false, false, .dic n, kit_ty (by decide +kernel), kit_ty (by decide +kernel), rfl⟩
end G

set_option Elab.async false
set_option linter.all false
set_option maxRecDepth 100000
set_option maxHeartbeats 4000000
namespace G
open PySem PySem.Spec PyProof.Rows L2

def nums (ns : List Int) : List D := ns.map D.int
/-- a pen: its cells, where it is, what is left of a great cell; n: how often it has drawn at most -/
def Pen (n : Nat) (p : List D) : Prop := ∃ (cs : List Int) (at_ g : Int), p = [.lst (nums cs), .int at_, .int g] ∧ 0 ≤ at_ ∧ at_ ≤ n ∧ 0 ≤ g
theorem Pen.mono {n m : Nat} {p : List D} (h : Pen n p) (k : n ≤ m) : Pen m p := by
  obtain ⟨cs, a, g, e, h1, h2, h3⟩ := h
  exact ⟨cs, a, g, e, h1, by omega, h3⟩
/-- what making a pen does: the script's cut, its copy, the pen -/
def penSp (K : PySem.W.Frag) (n : Int) : Sp := fun vs H Q _ => ∃ (a : Addr) (cs : List Int), vs = [.ref a] ∧ SqL K H a (cs.map V.int) ∧
  ∀ s l p, H s = none → upd H s (.lst (cutV (cs.map V.int) none (some n))) l = none → upd (upd H s (.lst (cutV (cs.map V.int) none (some n)))) l (.lst (cutV (cs.map V.int) none (some n))) p = none →
    Q (.ref p) (upd (upd (upd H s (.lst (cutV (cs.map V.int) none (some n)))) l (.lst (cutV (cs.map V.int) none (some n)))) p (.lst [.ref l, .int 0, .int 0]))
theorem penSp_len {K : PySem.W.Frag} {n : Int} {vs H Q E} (h : penSp K n vs H Q E) : vs.length = 1 := by
  obtain ⟨a, cs, rfl, _⟩ := h
  rfl
theorem cut_ints {cs : List Int} {n : Int} : ∃ ds : List Int, cutV (cs.map V.int) none (some n) = List.map V.int ds := ⟨(cs.drop (HT.sIx (cs.map V.int).length 0 none)).take (HT.sIx (cs.map V.int).length (cs.map V.int).length (some n) - HT.sIx (cs.map V.int).length 0 none), by
  unfold cutV
  rw [List.map_take, List.map_drop]⟩
/-- a def by its promise as it is -/
def FnRaw (P : Program) (w : World) (K : PySem.W.Frag) (mg : Str → Option Value) (base : Heap) (k : Nat) (f : Addr) (ps : List Str) (sp : Sp) : Prop :=
  ∃ fd, FnOk P w K mg base (L2.CX P w) k f fd ps sp ∧ Binds K fd ps [] ∧ PySem.W.keepIn K (.ref f) = true ∧ LkF K f fd
section
variable {K : PySem.W.Frag} {W : WX} {O : List OD} {ts : List T} {P : PT'} {X : XX} {te ta : TE} {tr : TA} {E : XK}
theorem repL_ints {F : Hp} : ∀ {ns : List Int}, RepL K F (nums ns) (ns.map V.int)
  | [] => rfl
  | n :: ns => ⟨_, _, rfl, rfl, repL_ints (ns := ns)⟩
theorem w_pen {n : Int} (h : WA K W tr O ts (fun xs O1 => ∃ cs, xs = [.v (.scr cs)] ∧ ∀ p, Pen 0 p → P (.own O1.length) (O1 ++ [.lst p])) X) : WE K W (tCall (penSp K n) [] E tr) O ts P X := fun b A σ H Q s rs kv kx =>
  h b A σ H _ s rs (fun xs vs A1 O1 H1 p1 s1 n1 r1 => by
    obtain ⟨cs, rfl, p⟩ := p1
    rw [List.append_nil]
    obtain ⟨v, _, rfl, ⟨_, e, a, rfl, h1⟩, rfl⟩ := r1
    cases e
    refine ⟨a, cs, rfl, hid_ex.l h1, fun s0 l q hs hl hq => ?_⟩
    obtain ⟨ds, ed⟩ := cut_ints (cs := cs) (n := n)
    rw [ed] at hl hq ⊢
    obtain ⟨s2, n2, _⟩ := s1.lay hs (.lst (List.map V.int ds))
    obtain ⟨s3, n3, f3⟩ := s2.lay hl (.lst (List.map V.int ds))
    obtain ⟨s4, n4⟩ := s3.own (u := .lst [.ref l, .int 0, .int 0]) (o := .lst [.lst (nums ds), .int 0, .int 0]) hq ⟨_, upd_same, _, _, rfl, ⟨l, _, rfl, f3, repL_ints⟩, _, _, rfl, rfl, _, _, rfl, rfl, rfl⟩
    refine kv _ _ _ _ _ (p _ ⟨ds, 0, 0, rfl, by omega, by omega, by omega⟩) s4 (((n1.trans n2).trans n3).trans n4) ⟨q, ?_, rfl⟩
    rw [← s3.len, List.getElem?_append_right (Nat.le_refl _), Nat.sub_self]
    exact rfl) kx
end
def sp_draw (K : PySem.W.Frag) : SpD := fun ts O P _ => ∃ (n : Nat) (p : List D) (m : Int), ts = [.own 0, .v (.int m)] ∧ O = [.lst p] ∧ Pen n p ∧ n < 1000000 ∧ 1 ≤ m ∧ m < 2 ^ 200 ∧ ∀ p' r, Pen (n + 1) p' → 0 ≤ r → r < m → P (.v (.int r)) [.lst p']
theorem sp_draw_len {K : PySem.W.Frag} {ts O P X} (h : sp_draw K ts O P X) : ts.length = 2 := by
  obtain ⟨n, p, m, rfl, _⟩ := h
  rfl
theorem u_draw {K : PySem.W.Frag} {P : PT'} {X : XX} {n : Nat} {p : List D} {m : Int} (hp : Pen n p) (hn : n < 1000000) (h1 : 1 ≤ m) (h2 : m < 2 ^ 200) (k : ∀ p' r, Pen (n + 1) p' → 0 ≤ r → r < m → P (.v (.int r)) [.lst p']) :
    sp_draw K [.own 0, .v (.int m)] [.lst p] P X := ⟨n, p, m, rfl, rfl, hp, hn, h1, h2, k⟩
/-- one of some values, by a draw; d: the i-th of them -/
def sp_pick (K : PySem.W.Frag) : SpD := fun ts O P _ => ∃ (n : Nat) (p : List D) (ds : List D), ts = [.own 0, .v (.lst ds)] ∧ O = [.lst p] ∧ Pen n p ∧ n < 1000000 ∧ 1 ≤ ds.length ∧ ds.length ≤ 1000000 ∧ ∀ p' (i : Nat) d, Pen (n + 1) p' → ds[i]? = some d → P (.v d) [.lst p']
theorem sp_pick_len {K : PySem.W.Frag} {ts O P X} (h : sp_pick K ts O P X) : ts.length = 2 := by
  obtain ⟨n, p, m, rfl, _⟩ := h
  rfl
theorem u_pick {K : PySem.W.Frag} {P : PT'} {X : XX} {n : Nat} {p : List D} {ds : List D} (hp : Pen n p) (hn : n < 1000000) (h1 : 1 ≤ ds.length) (h2 : ds.length ≤ 1000000) (k : ∀ p' (j : Nat) d, Pen (n + 1) p' → ds[j]? = some d → P (.v d) [.lst p']) :
    sp_pick K [.own 0, .v (.lst ds)] [.lst p] P X := ⟨n, p, ds, rfl, rfl, hp, hn, h1, h2, k⟩
theorem nno {d : D} : okR (T.v d) = true := rfl
end G

set_option Elab.async false
set_option linter.all false
set_option maxRecDepth 100000
set_option maxHeartbeats 4000000
namespace G
open PySem PySem.Spec PyProof.Rows L2
mutual
theorem pl_refl : ∀ (n : Nat) (d : D), pl n d = true → eqD d d = true
  | _, .non, _ => by unfold eqD; simp only [toP, PyData.eqv]
  | _, .bl b, _ => by unfold eqD; simp only [toP, PyData.eqv]; exact beq_self_eq_true b
  | _, .int b, _ => by unfold eqD; simp only [toP, PyData.eqv]; exact beq_self_eq_true b
  | _, .str b, h => by
    unfold eqD
    simp only [toP, PyData.eqv]
    first | exact beq_self_eq_true b | simp
  | n + 1, .lst ds, h => by
    unfold eqD
    simp only [toP, PyData.eqv]
    exact pls_refl n ds h
  | n + 1, .tup ds, h => by
    unfold eqD
    simp only [toP, PyData.eqv]
    exact pls_refl n ds h
  | 0, .lst ds, h => by cases h
  | 0, .tup ds, h => by cases h
  | 0, .ins _ _, h => by cases h
  | _ + 1, .ins _ _, h => by cases h
  | 0, .ref _, h => by cases h
  | _ + 1, .ref _, h => by cases h
  | 0, .ty _, h => by cases h
  | _ + 1, .ty _, h => by cases h
  | 0, .scr _, h => by cases h
  | _ + 1, .scr _, h => by cases h
  | 0, .exc _ _, h => by cases h
  | _ + 1, .exc _ _, h => by cases h
  | 0, .dic _, h => by cases h
  | _ + 1, .dic _, h => by cases h
theorem pls_refl : ∀ (n : Nat) (ds : List D), pls n ds = true → PyData.eqvAll (toPs ds) (toPs ds) = true
  | n, [], _ => by simp only [toPs, PyData.eqvAll]
  | n, d :: ds, h => by
    have h' : (pl n d && pls n ds) = true := h
    obtain ⟨h1, h2⟩ := Bool.and_eq_true_iff.mp h'
    have a := pl_refl n d h1
    unfold eqD at a
    simp only [toPs, PyData.eqvAll, a, pls_refl n ds h2, Bool.and_self]
end
theorem eqD_refl {d : D} (h : pl 60 d = true) : eqD d d = true := pl_refl 60 d h
section
variable {K : PySem.W.Frag} {W : WX} {O : List OD} {ts : List T} {P : PT'} {X : XX} {te : TE} {tr : TA}
end
theorem pls_map {α : Type} {n : Nat} {f : α → D} (h : ∀ x, pl n (f x) = true) : ∀ xs : List α, pls n (xs.map f) = true
  | [] => by cases n <;> rfl
  | x :: xs => by
    have e : pls n ((x :: xs).map f) = (pl n (f x) && pls n (xs.map f)) := by cases n <;> rfl
    rw [e, h x, pls_map h xs] <;> rfl
theorem pl_int {n : Nat} {i : Int} : pl n (.int i) = true := by cases n <;> rfl
theorem pls_nums {n : Nat} {ns : List Int} : pls n (nums ns) = true := pls_map (fun _ => pl_int) ns
theorem pl_numsL {n : Nat} {ns : List Int} : pl (n + 1) (.lst (nums ns)) = true := pls_nums
theorem pl_nilL {n : Nat} : pl (n + 1) (.lst []) = true := by cases n <;> rfl
/-- lists and tuples of integers -/
theorem toPs_nums : ∀ {ns ms : List Int}, PyData.eqvAll (toPs (nums ns)) (toPs (nums ms)) = decide (ns = ms)
  | [], [] => by simp [nums, toPs, PyData.eqvAll]
  | [], m :: ms => by simp [nums, toPs, PyData.eqvAll]
  | n :: ns, [] => by simp [nums, toPs, PyData.eqvAll]
  | n :: ns, m :: ms => by
    have ih := toPs_nums (ns := ns) (ms := ms)
    have e : PyData.eqvAll (toPs (nums (n :: ns))) (toPs (nums (m :: ms))) = (n == m && PyData.eqvAll (toPs (nums ns)) (toPs (nums ms))) := by
      simp only [nums, List.map_cons, toPs, toP, PyData.eqvAll, PyData.eqv]
    rw [e, ih]
    by_cases h1 : n = m
    · subst h1
      simp
    · simp [h1]
theorem eqD_numsL {ns ms : List Int} : eqD (.lst (nums ns)) (.lst (nums ms)) = decide (ns = ms) := by
  unfold eqD
  simp only [toP, PyData.eqv]
  exact toPs_nums
theorem eqD_nilL {ns : List Int} : eqD (.lst (nums ns)) (.lst []) = decide (ns = []) := eqD_numsL (ms := [])
theorem nums_len {ns : List Int} : (nums ns).length = ns.length := List.length_map _
theorem mulB {x y a b : Int} (h0 : 0 ≤ x) (h1 : x ≤ a) (h2 : 0 ≤ y) (h3 : y ≤ b) : 0 ≤ x * y ∧ x * y ≤ a * b :=
  ⟨Int.mul_nonneg h0 h2, Int.mul_le_mul h1 h3 h2 (Int.le_trans h0 h1)⟩
theorem atI_pos {α : Type} {xs : List α} {i : Int} (h0 : 0 ≤ i) (h1 : i < xs.length) : ∃ x, atI xs i = some x ∧ xs[i.toNat]? = some x := by
  obtain ⟨j, rfl⟩ := Int.eq_ofNat_of_zero_le h0
  have hj : j < xs.length := by omega
  exact ⟨xs[j], atI_nat (List.getElem?_eq_getElem hj), List.getElem?_eq_getElem hj⟩
theorem atI_nums {ns : List Int} {i : Int} (h0 : 0 ≤ i) (h1 : i < ns.length) : ∃ x, atI (nums ns) i = some (.int x) ∧ ns[i.toNat]? = some x := by
  obtain ⟨j, rfl⟩ := Int.eq_ofNat_of_zero_le h0
  have hj : j < ns.length := by omega
  refine ⟨ns[j], atI_nat ?_, List.getElem?_eq_getElem hj⟩
  show (ns.map D.int)[j]? = _
  rw [List.getElem?_map, List.getElem?_eq_getElem hj] <;> rfl
end G

set_option Elab.async false
set_option linter.all false
set_option maxRecDepth 100000
set_option maxHeartbeats 4000000
namespace G
open PySem PySem.Spec PyProof.Rows L2
def odD : OD → Option D
  | .lst ds => some (.lst ds)
  | .ins C fs => some (.ins C fs)
  | .dic kvs => some (.dic kvs)
  | .gone => none
def thaw (i : Nat) (d : D) : T → T
  | .own j => if j = i then .v d else .own j
  | t => t
section
variable {K : PySem.W.Frag} {W : WX} {b : Bs} {A : List Addr} {O : List OD} {H : Hp} {ts : List T} {t : TS} {te : TE} {E : DE} {P : PT'} {X : XX}
theorem live_sub {i : Nat} {a : Addr} (h : a ∈ live A (O.set i .gone)) : a ∈ live A O := by
  obtain ⟨j, o, h1, h2, h3⟩ := live_mem h
  rw [List.getElem?_set] at h2
  by_cases hij : i = j
  · rw [if_pos hij] at h2
    by_cases hl : i < O.length
    · rw [if_pos hl] at h2
      exact absurd (Option.some.inj h2).symm h3
    · rw [if_neg hl] at h2
      cases h2
  · rw [if_neg hij] at h2
    exact live_at h1 h2 h3
theorem StO.freeze (s : StO K b A O H) {i : Nat} {o : OD} {d : D} (ho : O[i]? = some o) (hd : odD o = some d) : StO K b A (O.set i .gone) H ∧ Nxt b A O H A (O.set i .gone) H ∧ ∃ a, A[i]? = some a ∧ Rep K (Fz b A (O.set i .gone) H) d (.ref a) := by
  have ng : o ≠ .gone := fun z => by
    subst z
    cases hd
  have hi : i < A.length := by
    rw [s.len]
    exact (List.getElem?_eq_some_iff.mp ho).1
  obtain ⟨a, ha⟩ : ∃ a, A[i]? = some a := ⟨A[i], List.getElem?_eq_getElem hi⟩
  have hl : a ∈ live A O := live_at ha ho ng
  have x3 : Ex (Fz b A O H) (Fz b A (O.set i .gone) H) := hid_mono (fun _ _ _ h => h) fun c o h1 h2 h3 => by
    rcases List.mem_append.mp h3 with h3 | h3
    · exact h1 (List.mem_append_left _ (live_sub h3))
    · exact h1 (List.mem_append_right _ h3)
  have fz : ∀ u, H a = some u → Fz b A (O.set i .gone) H a = some u := fun u hu => hid_some.mpr ⟨fun h3 => by
    rcases List.mem_append.mp h3 with h3 | h3
    · obtain ⟨j, o', h1, h2, h4⟩ := live_mem h3
      have e : i = j := nd_ix s.nd ha h1
      subst e
      rw [List.getElem?_set_self (List.getElem?_eq_some_iff.mp ho).1] at h2
      exact h4 (Option.some.inj h2).symm
    · exact (s.z_at h3).1 hl, hu⟩
  have c := s.cell i a o ha ho
  refine ⟨⟨by rw [List.length_set]; exact s.len, s.pre, s.ext.trans (hid_mono (fun _ _ _ h => h) fun c o h1 h2 h3 => h1 (live_sub h3)), s.zs, s.nd, s.inh, fun j c' u h1 h2 => ?_, s.tb⟩, ⟨⟨[], (List.append_nil A).symm⟩, x3⟩, a, ha, ?_⟩
  · rw [List.getElem?_set] at h2
    by_cases hij : i = j
    · rw [if_pos hij] at h2
      by_cases hl : i < O.length
      · rw [if_pos hl] at h2
        have e : OD.gone = u := Option.some.inj h2
        subst e
        trivial
      · rw [if_neg hl] at h2
        cases h2
    · rw [if_neg hij] at h2
      exact (s.cell j c' u h1 h2).ex x3 fun _ h => h
  · cases o with
    | gone => cases hd
    | lst ds =>
      have e := Option.some.inj hd
      subst e
      obtain ⟨vs, c1, c2⟩ := c
      exact ⟨a, vs, rfl, fz _ c1, c2.ex x3⟩
    | ins C fs =>
      have e := Option.some.inj hd
      subst e
      obtain ⟨dx, vs, c1, c2⟩ := c
      exact ⟨a, dx, vs, rfl, fz _ c1, c2.ex x3⟩
    | dic kvs =>
      have e := Option.some.inj hd
      subst e
      obtain ⟨vs, c1, c2⟩ := c
      exact ⟨a, vs, rfl, fz _ c1, c2.ex x3⟩
theorem RepT.thaw {F : Hp} {i : Nat} {d : D} {a : Addr} {x : T} {o : Option V} (h : RepT K F A x o) (ha : A[i]? = some a) (r : Rep K F d (.ref a)) : RepT K F A (thaw i d x) o := by
  cases x with
  | v d => exact h
  | no => trivial
  | clo R f => exact h
  | own j =>
    show RepT K F A (if j = i then .v d else .own j) o
    by_cases e : j = i
    · subst e
      rw [if_pos rfl]
      obtain ⟨c, h1, h2⟩ := h
      rw [ha] at h1
      have e2 := Option.some.inj h1
      subst e2
      exact ⟨_, h2, r⟩
    · rw [if_neg e]
      exact h
theorem RepS.thaw {F : Hp} {i : Nat} {d : D} {a : Addr} {σ : L2.St} (h : RepS K F A ts σ) (ha : A[i]? = some a) (r : Rep K F d (.ref a)) : RepS K F A (ts.map (G.thaw i d)) σ := by
  refine ⟨by rw [List.length_map]; exact h.1, fun j t e => ?_⟩
  rw [List.getElem?_map] at e
  cases q : ts[j]? with
  | none =>
    rw [q] at e
    cases e
  | some u =>
    rw [q] at e
    have e2 : G.thaw i d u = t := Option.some.inj e
    subst e2
    obtain ⟨o, h1, h2⟩ := h.2 j u q
    exact ⟨o, h1, h2.thaw ha r⟩
theorem s_frz (i : Nat) {o : OD} {d : D} (ho : O[i]? = some o) (hd : odD o = some d) (h : WS K W t (O.set i .gone) (ts.map (G.thaw i d)) E) : WS K W t O ts E := fun b A σ H D s rs ks => by
  obtain ⟨s2, n2, a, ha, r⟩ := s.freeze ho hd
  exact h b A σ H D s2 ((rs.nxt n2).thaw ha r) (ks.nxt n2)
end
end G

set_option Elab.async false
set_option linter.all false
set_option maxRecDepth 100000
set_option maxHeartbeats 4000000
namespace G
open PySem PySem.Spec PyProof.Rows L2
section
variable {K : PySem.W.Frag} {W : WX} {O : List OD} {ts : List T} {E : DE} {g : TG} {tb : TS}
def ForEx (K : PySem.W.Frag) (W : WX) (g : TG) (tb : TS) (E : DE) (ts : List T) (f : Nat → Option T) (O1 : List OD) : Prop :=
  ∃ (n : Nat) (I : Nat → List T → List OD → Prop), (∀ i, i < n → f i ≠ none) ∧ f n = none ∧ I 0 ts O1 ∧
      (∀ i t ts' O', i < n → f i = some t → I i ts' O' → WG K W g t O' ts' (fun ts2 O2 => WS K W tb O2 ts2 { E with nx := I (i + 1), ct := I (i + 1), bk := E.nx })) ∧ (∀ ts' O', I n ts' O' → E.nx ts' O')
theorem itD_ne {ds : List D} {i : Nat} (h : i < ds.length) : itD ds i ≠ none := fun z => by
  have := itD_none z
  omega
theorem for_D {ds : List D} (I : Nat → List T → List OD → Prop) (h0 : I 0 ts O)
    (hs : ∀ i d ts' O', i < ds.length → ds[i]? = some d → I i ts' O' → WG K W g (.v d) O' ts' (fun ts2 O2 => WS K W tb O2 ts2 { E with nx := I (i + 1), ct := I (i + 1), bk := E.nx }))
    (hd : ∀ ts' O', I ds.length ts' O' → E.nx ts' O') : ForEx K W g tb E ts (itD ds) O :=
  ⟨ds.length, I, fun i h => itD_ne h, by unfold itD; rw [List.getElem?_eq_none (Nat.le_refl _)]; rfl, h0, fun i t ts' O' hi ht hI => by
    obtain ⟨d, e, rfl⟩ := itD_some ht
    exact hs i d ts' O' hi e hI, hd⟩
theorem for_N {ns : List Int} (I : Nat → List T → List OD → Prop) (h0 : I 0 ts O)
    (hs : ∀ i r ts' O', i < ns.length → ns[i]? = some r → I i ts' O' → WG K W g (.v (.int r)) O' ts' (fun ts2 O2 => WS K W tb O2 ts2 { E with nx := I (i + 1), ct := I (i + 1), bk := E.nx }))
    (hd : ∀ ts' O', I ns.length ts' O' → E.nx ts' O') : ForEx K W g tb E ts (itD (nums ns)) O :=
  for_D I h0 (fun i d ts' O' hi e hI => by
    have e' : (ns.map D.int)[i]? = some d := e
    rw [List.getElem?_map] at e'
    cases q : ns[i]? with
    | none =>
      rw [q] at e'
      cases e'
    | some r =>
      rw [q] at e'
      have e2 : D.int r = d := Option.some.inj e'
      subst e2
      exact hs i r ts' O' (by rw [nums_len] at hi; exact hi) q hI) (by rw [nums_len]; exact hd)
theorem for_R {lo c : Int} {n : Nat} (I : Nat → List T → List OD → Prop) (h0 : I 0 ts O)
    (hs : ∀ i ts' O', i < n → I i ts' O' → WG K W g (.v (.int (lo + (i : Int) * c))) O' ts' (fun ts2 O2 => WS K W tb O2 ts2 { E with nx := I (i + 1), ct := I (i + 1), bk := E.nx }))
    (hd : ∀ ts' O', I n ts' O' → E.nx ts' O') : ForEx K W g tb E ts (itR lo c n) O :=
  ⟨n, I, fun i h z => by
    have := itR_none z
    omega, by unfold itR; rw [if_neg (Nat.lt_irrefl n)], h0, fun i t ts' O' hi ht hI => by
    obtain ⟨_, rfl⟩ := itR_some ht
    exact hs i ts' O' hi hI, hd⟩
/-- range(n), range(lo, hi): the items as they are -/
theorem for_R1 {n : Nat} (I : Nat → List T → List OD → Prop) (h0 : I 0 ts O)
    (hs : ∀ i ts' O', i < n → I i ts' O' → WG K W g (.v (.int (i : Nat))) O' ts' (fun ts2 O2 => WS K W tb O2 ts2 { E with nx := I (i + 1), ct := I (i + 1), bk := E.nx }))
    (hd : ∀ ts' O', I n ts' O' → E.nx ts' O') : ForEx K W g tb E ts (itR 0 1 n) O :=
  for_R I h0 (fun i ts' O' hi hI => by
    rw [Int.zero_add, Int.mul_one]
    exact hs i ts' O' hi hI) hd
theorem for_Z {ds es : List D} (hl : ds.length = es.length) (I : Nat → List T → List OD → Prop) (h0 : I 0 ts O)
    (hs : ∀ i d e ts' O', i < ds.length → ds[i]? = some d → es[i]? = some e → I i ts' O' → WG K W g (.v (.tup [d, e])) O' ts' (fun ts2 O2 => WS K W tb O2 ts2 { E with nx := I (i + 1), ct := I (i + 1), bk := E.nx }))
    (hd : ∀ ts' O', I ds.length ts' O' → E.nx ts' O') : ForEx K W g tb E ts (itZ ds es) O :=
  ⟨ds.length, I, fun i h z => by
    rcases itZ_none z with z | z <;> omega, by unfold itZ; rw [List.getElem?_eq_none (Nat.le_refl ds.length)], h0, fun i t ts' O' hi ht hI => by
    obtain ⟨d, e, e1, e2, rfl⟩ := itZ_some ht
    exact hs i d e ts' O' hi e1 e2 hI, hd⟩
theorem s_forE {wi : TI} (h : WI K W wi O ts (fun f O1 => ForEx K W g tb E ts f O1) (fun C fs O' => E.xe C fs ts O')) : WS K W (tFor wi g tb) O ts E := s_for h
/-- a, b = a pair -/
theorem g_pair {n : Nat} {i j : Nat} {a b : D} {N : List T → List OD → Prop} (hn : n = 2) (k : N ((ts.set i (.v a)).set j (.v b)) O) : WG K W (gTup K n (gCons (gName i) (gCons (gName j) gNil))) (.v (.tup [a, b])) O ts N :=
  g_tup (by rw [hn] <;> rfl) (g_cons (g_name (g_cons (g_name (g_nil k)))))
theorem g_trip {n : Nat} {i j l : Nat} {a b c : D} {N : List T → List OD → Prop} (hn : n = 3) (k : N (((ts.set i (.v a)).set j (.v b)).set l (.v c)) O) : WG K W (gTup K n (gCons (gName i) (gCons (gName j) (gCons (gName l) gNil)))) (.v (.tup [a, b, c])) O ts N :=
  g_tup (by rw [hn] <;> rfl) (g_cons (g_name (g_cons (g_name (g_cons (g_name (g_nil k)))))))
theorem g_quad {n : Nat} {i j l m : Nat} {a b c d : D} {N : List T → List OD → Prop} (hn : n = 4) (k : N ((((ts.set i (.v a)).set j (.v b)).set l (.v c)).set m (.v d)) O) : WG K W (gTup K n (gCons (gName i) (gCons (gName j) (gCons (gName l) (gCons (gName m) gNil))))) (.v (.tup [a, b, c, d])) O ts N :=
  g_tup (by rw [hn] <;> rfl) (g_cons (g_name (g_cons (g_name (g_cons (g_name (g_cons (g_name (g_nil k)))))))))
variable {P : PT'} {X : XX} {te ta tv : TE} {DE' : DE} {C : Addr} {f : Str}
theorem w_fldN (n : NoAttr K C f) (c : Cls K C) (h : WE K W ta O ts (fun x O1 => ∃ fs d, InsD x O1 C fs ∧ fs.lookup f = some d ∧ P (.v d) O1) X) : WE K W (tFld K ta f) O ts P X := w_fld c n h
theorem s_fldN (n : NoAttr K C f) (c : Cls K C) (h : WE K W tv O ts (fun y O1 => WE K W ta O1 ts (fun x O2 => ∃ i fs d, x = .own i ∧ y = .v d ∧ O2[i]? = some (.ins C fs) ∧ fs.length < 1000 ∧ DE'.nx ts (O2.set i (.ins C (putD f d fs)))) (fun C fs O' => DE'.xe C fs ts O')) (fun C fs O' => DE'.xe C fs ts O')) :
    WS K W (sFld K ta tv f) O ts DE' := s_fld c n h
theorem unv_vs : ∀ {ds : List D} {ys : List T} {es : List D}, unv ys = some es → unv (ds.map T.v ++ ys) = some (ds ++ es)
  | [], _, _, h => h
  | d :: ds, _, _, h => by
    show (unv (ds.map T.v ++ _)).map (d :: ·) = _
    rw [unv_vs h] <;> rfl
theorem atI_m1 {α : Type} {xs : List α} {x : α} : atI (xs ++ [x]) (-1) = some x := by
  have e : ixN (xs ++ [x]).length (-1) = some xs.length := by
    unfold ixN
    rw [List.length_append]
    simp
    omega
  unfold atI
  rw [e]
  simp
theorem unv_nums {fs : List Int} {x : Int} : unv ((nums fs).map T.v ++ [.v (.int x)]) = some (nums (fs ++ [x])) := by
  rw [unv_vs (ys := [.v (.int x)]) (es := [.int x]) rfl]
  unfold nums
  rw [List.map_append] <;> rfl
theorem lt_sz {fs : List Int} (h : fs.length < 1000000) : (nums fs).length < sizeLine := Nat.lt_of_lt_of_le (by rw [nums_len]; exact h) (Nat.le_of_ble_eq_true rfl)
theorem lt_szD {fs : List D} (h : fs.length < 1000000) : fs.length < sizeLine := Nat.lt_of_lt_of_le h (Nat.le_of_ble_eq_true rfl)
theorem nums_app {fs : List Int} {x : Int} : nums fs ++ [.int x] = nums (fs ++ [x]) := by
  unfold nums
  rw [List.map_append] <;> rfl
theorem atI_m1n {fs : List Int} {x : Int} : atI (nums (fs ++ [x])) (-1) = some (.int x) := by
  rw [← nums_app]
  exact atI_m1
end
end G

set_option Elab.async false
set_option linter.all false
set_option maxRecDepth 100000
set_option maxHeartbeats 4000000
namespace G
open PySem PySem.Spec PyProof.Rows L2
section
variable {K : PySem.W.Frag} {W : WX} {O : List OD} {ts : List T} {g : TG} {te : TE} {vs : List Nat} {P : PT'}
def LcEx (K : PySem.W.Frag) (W : WX) (g : TG) (te : TE) (vs : List Nat) (P : PT') (ts : List T) (f : Nat → Option T) (O1 : List OD) : Prop :=
  ∃ (n : Nat) (I : Nat → List D → List OD → Prop), (∀ i, i < n → f i ≠ none) ∧ f n = none ∧ I 0 [] O1 ∧ (∀ i acc O', I i acc O' → O'.length = O1.length) ∧
      (∀ i t acc O', i < n → f i = some t → I i acc O' → WG K W g t (O' ++ [.lst acc]) (wipeT ts vs) (fun ts2 O2 => WT K W tYes O2 ts2 (fun c O3 =>
        (c = true → WE K W te O3 ts2 (fun y O4 => ∃ d O5, y = .v d ∧ O4 = O5 ++ [.lst acc] ∧ acc.length < sizeLine ∧ I (i + 1) (acc ++ [d]) O5) X0) ∧ (c = false → ∃ O5, O3 = O5 ++ [.lst acc] ∧ I (i + 1) acc O5)) X0)) ∧
      (∀ acc O', I n acc O' → P (.v (.lst acc)) O')
theorem WG.imp {t : T} {N N' : List T → List OD → Prop} (h : WG K W g t O ts N) (q : ∀ ts O, N ts O → N' ts O) : WG K W g t O ts N' := fun b A σ H Q v s rs r kn => h b A σ H Q v s rs r fun ts σ A' O' H' x s m r => kn ts σ A' O' H' (q ts O' x) s m r
/-- with effects -/
theorem lc_I {f : Nat → Option T} {n : Nat} {item : Nat → T} (hf : ∀ i, i < n → f i = some (item i)) (hn : f n = none) (hz : n ≤ 1000000) (I : Nat → List D → List OD → Prop) (h0 : I 0 [] O)
    (hlen : ∀ i acc O', I i acc O' → O'.length = O.length ∧ acc.length = i)
    (hs : ∀ i acc O', i < n → I i acc O' → WG K W g (item i) (O' ++ [.lst acc]) (wipeT ts vs) (fun ts2 O2 => WE K W te O2 ts2 (fun y O4 => ∃ d O5, y = .v d ∧ O4 = O5 ++ [.lst acc] ∧ I (i + 1) (acc ++ [d]) O5) X0))
    (hd : ∀ acc O', I n acc O' → P (.v (.lst acc)) O') : LcEx K W g te vs P ts f O := by
  refine ⟨n, I, fun i h z => ?_, hn, h0, fun i acc O' h => (hlen i acc O' h).1, fun i t acc O' hi ht hI => ?_, hd⟩
  · rw [hf i h] at z
    cases z
  · have e : item i = t := by
      rw [hf i hi] at ht
      exact Option.some.inj ht
    subst e
    refine (hs i acc O' hi hI).imp fun ts2 O2 q => w_yes ⟨fun _ => q.imp fun y O4 p => ?_, fun z => by cases z⟩
    obtain ⟨d, O5, e1, e2, p⟩ := p
    exact ⟨d, O5, e1, e2, Nat.lt_of_lt_of_le (show acc.length < 1000000 by rw [(hlen i acc O' hI).2]; omega) (Nat.le_of_ble_eq_true rfl), p⟩
theorem range_get {α : Type} {n : Nat} {r : Nat → α} {i : Nat} : ((List.range n).map r) ++ [r n] = (List.range (n + 1)).map r := by
  rw [List.range_succ, List.map_append] <;> rfl
/-- without -/
theorem lc_P {f : Nat → Option T} {n : Nat} {item : Nat → T} (r : Nat → D) (hf : ∀ i, i < n → f i = some (item i)) (hn : f n = none) (hz : n ≤ 1000000)
    (hs : ∀ i acc, i < n → WG K W g (item i) (O ++ [.lst acc]) (wipeT ts vs) (fun ts2 O2 => WE K W te O2 ts2 (fun y O4 => y = .v (r i) ∧ O4 = O ++ [.lst acc]) X0))
    (hd : P (.v (.lst ((List.range n).map r))) O) : LcEx K W g te vs P ts f O := by
  refine lc_I hf hn hz (fun i acc O' => O' = O ∧ acc = (List.range i).map r) ⟨rfl, rfl⟩ (fun i acc O' h => ?_) (fun i acc O' hi h => ?_) fun acc O' h => ?_
  · obtain ⟨rfl, rfl⟩ := h
    exact ⟨rfl, by rw [List.length_map, List.length_range]⟩
  · obtain ⟨rfl, rfl⟩ := h
    refine (hs i _ hi).imp fun ts2 O2 q => q.imp fun y O4 p => ?_
    obtain ⟨rfl, rfl⟩ := p
    exact ⟨_, _, rfl, rfl, rfl, range_get (i := i)⟩
  · obtain ⟨rfl, rfl⟩ := h
    exact hd
theorem lc_R {n : Nat} (r : Nat → D) (hz : n ≤ 1000000)
    (hs : ∀ i acc, i < n → WG K W g (.v (.int (i : Nat))) (O ++ [.lst acc]) (wipeT ts vs) (fun ts2 O2 => WE K W te O2 ts2 (fun y O4 => y = .v (r i) ∧ O4 = O ++ [.lst acc]) X0))
    (hd : P (.v (.lst ((List.range n).map r))) O) : LcEx K W g te vs P ts (itR 0 1 n) O :=
  lc_P (item := fun i => .v (.int (i : Nat))) r (fun i hi => by
    unfold itR
    rw [if_pos hi, Int.zero_add, Int.mul_one]) (by unfold itR; rw [if_neg (Nat.lt_irrefl n)]) hz hs hd
theorem map_range {α β : Type} {f : α → β} : ∀ {xs : List α} {r : Nat → β}, (∀ i x, xs[i]? = some x → r i = f x) → (List.range xs.length).map r = xs.map f := fun {xs r} h => by
  refine List.ext_getElem (by rw [List.length_map, List.length_range, List.length_map]) fun i h1 h2 => ?_
  rw [List.getElem_map, List.getElem_map, List.getElem_range]
  rw [List.length_map] at h2
  exact h i _ (List.getElem?_eq_getElem h2)
theorem lc_A {α : Type} (xs : List α) (e : α → D) (f : α → D) (hz : xs.length ≤ 1000000)
    (hs : ∀ x acc, x ∈ xs → WG K W g (.v (e x)) (O ++ [.lst acc]) (wipeT ts vs) (fun ts2 O2 => WE K W te O2 ts2 (fun y O4 => y = .v (f x) ∧ O4 = O ++ [.lst acc]) X0))
    (hd : P (.v (.lst (xs.map f))) O) : LcEx K W g te vs P ts (itD (xs.map e)) O := by
  refine lc_P (n := xs.length) (item := fun i => .v ((xs.map e).getD i .non)) (fun i => (xs.map f).getD i .non) (fun i hi => ?_) ?_ hz (fun i acc hi => ?_) ?_
  · unfold itD
    have h2 : i < (xs.map e).length := by rw [List.length_map]; exact hi
    rw [List.getElem?_eq_getElem h2, List.getD_eq_getElem?_getD, List.getElem?_eq_getElem h2] <;> rfl
  · unfold itD
    rw [List.getElem?_eq_none (by rw [List.length_map]; exact Nat.le_refl _)] <;> rfl
  · have h2 := hs xs[i] acc (List.getElem_mem hi)
    have e1 : (xs.map e).getD i .non = e xs[i] := by
      rw [List.getD_eq_getElem?_getD, List.getElem?_map, List.getElem?_eq_getElem hi] <;> rfl
    have e2 : (xs.map f).getD i .non = f xs[i] := by
      rw [List.getD_eq_getElem?_getD, List.getElem?_map, List.getElem?_eq_getElem hi] <;> rfl
    rw [e1, e2]
    exact h2
  · rw [map_range (f := f) (xs := xs) fun i x hx => by rw [List.getD_eq_getElem?_getD, List.getElem?_map, hx] <;> rfl]
    exact hd
/-- the target is one name -/
theorem w_lc1 {wi : TI} {i : Nat} {vs : List Nat} {X : XX} (h : WI K W wi O ts (fun f O1 => LcEx K W (gName i) te vs P ts f O1) X) (hm : i ∈ vs) : WE K W (tLc wi (gName i) tYes te vs) O ts P X := w_lc (tgt_name hm) h
theorem w_lcT {wi : TI} {vs : List Nat} {X : XX} (h : WI K W wi O ts (fun f O1 => LcEx K W g te vs P ts f O1) X) (hg : Tgt g vs) : WE K W (tLc wi g tYes te vs) O ts P X := w_lc hg h
end
theorem getD_some {α : Type} {xs : List α} {i : Nat} {d : α} (h : i < xs.length) : xs[i]? = some (xs.getD i d) := by
  rw [List.getD_eq_getElem?_getD, List.getElem?_eq_getElem h] <;> rfl
theorem cutD_take {xs : List D} {n : Nat} (h : n ≤ xs.length) : cutD xs none (some (n : Int)) = xs.take n := by
  unfold cutD
  rw [HT.sIx_none, HT.sIx_nat, Nat.min_eq_left h, List.drop_zero, Nat.sub_zero]
end G

set_option Elab.async false
set_option linter.all false
set_option maxRecDepth 100000
set_option maxHeartbeats 4000000
namespace G
open PySem PySem.Spec PyProof.Rows L2
section
variable {X : Cx}
theorem ix_listK (K : PySem.W.Frag) (h : X.K = K := by rfl) : IxR X (rIxL K) := h ▸ ix_list
theorem ix_tupK (K : PySem.W.Frag) (h : X.K = K := by rfl) : IxR X (rIxT K) := h ▸ ix_tup
theorem sl_listK (K : PySem.W.Frag) (h : X.K = K := by rfl) : SlR X (rSlL K) := h ▸ sl_list
theorem sl_tupAK (K : PySem.W.Frag) (h : X.K = K := by rfl) : SlR X (rSlA K) := h ▸ sl_tupA
theorem op_neDK (K : PySem.W.Frag) (hu : X.A.units + 64 < cLine) (h : X.K = K := by rfl) : OpR X (compareOp .NotEq) (rNeD K) := h ▸ op_neD hu
theorem op_catAK (K : PySem.W.Frag) (h : X.K = K := by rfl) : OpR X (binaryOp .Add) (rCatA K) := h ▸ op_catA
theorem call_isiK (K : PySem.W.Frag) (h : X.K = K := by rfl) : CallR X (.builtin "isinstance") (rIsi K) := h ▸ call_isi
theorem cr_lenK (K : PySem.W.Frag) (h : X.K = K := by rfl) : CallR X (.builtin "len") (rLen K) := h ▸ cr_len
theorem cr_listK (K : PySem.W.Frag) (h : X.K = K := by rfl) : CallR X (.type "list") (rListOf K) := h ▸ cr_list
theorem cr_tupK (K : PySem.W.Frag) (h : X.K = K := by rfl) : CallR X (.type "tuple") (rTupOf K) := h ▸ cr_tup
theorem cr_sumK (K : PySem.W.Frag) (hc : X.calm = true) (h : X.K = K := by rfl) : CallR X (.builtin "sum") (rSum K) := h ▸ cr_sum hc
theorem cr_allK (K : PySem.W.Frag) (hc : X.calm = true) (h : X.K = K := by rfl) : CallR X (.builtin "all") (rAll K) := h ▸ cr_all hc
theorem cr_anyK (K : PySem.W.Frag) (hc : X.calm = true) (h : X.K = K := by rfl) : CallR X (.builtin "any") (rAny K) := h ▸ cr_any hc
variable {e : Expr} {f : Str} {pos : Pos} {ta : TE}
theorem pe_fldK (K : PySem.W.Frag) (he : PE X e ta) (hb : attributeBase e f X.env (eval e X.env) = eval e X.env := by rfl) (h : X.K = K := by rfl) : PE X (.Attribute e f pos) (tFld K ta f) := h ▸ pe_fld he hb
theorem pg_tupK (K : PySem.W.Frag) {es : List Expr} {k : Nat} {t : TGs} {n : Nat} (hc : X.calm = true) (h : PGs X es t)
    (hn : (assignEach es X.env).length = n := by rfl) (hst : (assignEach es X.env).findIdx? (·.1) = none := by rfl) (hK : X.K = K := by rfl) : PG X (.Tuple es k pos) (gTup K n t) := hK ▸ pg_tup hc h hn hst
theorem pi_listK (K : PySem.W.Frag) {tg : Expr} (he : PE X e ta) (h : X.K = K := by rfl) : PI X tg e (iList K ta) := h ▸ pi_list he
theorem pi_tupK (K : PySem.W.Frag) {tg : Expr} (he : PE X e ta) (h : X.K = K := by rfl) : PI X tg e (iTup K ta) := h ▸ pi_tup he
end
end G

set_option Elab.async false
set_option linter.all false
set_option maxRecDepth 100000
set_option maxHeartbeats 4000000
namespace G
open PySem PySem.Spec PyProof.Rows L2
def CXa (P : Program) : CXT := fun outer H s E u s' => ∃ w, L2.CX P w outer H s E u s'
theorem cxa_nil {P : Program} {H : Hp} {s : Shared} {e : Value} {s' : Shared} (h : CXa P [] H s (fun _ _ _ => False) e s') : False := by
  obtain ⟨w, a, B, H', cls, d, _, _, _, _, _, _, _, z⟩ := h
  exact z
/-- the law's own call -/
def sp_law (_K : PySem.W.Frag) : SpD := fun ts O P _ => ∃ (cs : List Int), ts = [.v (.scr cs)] ∧ O = [] ∧ cs.length ≤ 1000000 ∧ P (.v (.bl true)) []
theorem sp_law_len {K : PySem.W.Frag} {ts O P X} (h : sp_law K ts O P X) : ts.length = 1 := by
  obtain ⟨cs, rfl, _⟩ := h
  rfl
theorem law_lift {K : PySem.W.Frag} {H : Hp} {a : Addr} {ns : List Int} (hz : ns.length ≤ 1000000) (h : SqL K H a (ns.map V.int)) (ht : TabsK K H) : lift K (sp_law K) [.ref a] H (fun v _ => v = .bl true) fun _ _ _ => False := by
  have eh : ∀ L : List Addr, L = [] → hid L H = H := fun L e => by
    subst e
    funext a
    unfold hid
    rw [if_neg (by simp)]
  refine ⟨[], [], [], [.v (.scr ns)], fun t O => t = .v (.bl true), fun _ _ _ => False, ⟨rfl, ⟨[], rfl⟩, Ex.refl _, fun z hz => (by cases hz), List.nodup_nil, fun a h => (by cases h), fun i a o h _ => (by simp at h), ht⟩, rfl, ?_, ⟨ns, rfl, rfl, hz, rfl⟩, fun t v O' H' q _ _ r => ?_, fun _ _ _ _ _ q => q.elim⟩
  · refine ⟨.ref a, [], rfl, ⟨_, rfl, a, rfl, ?_⟩, rfl⟩
    show SqL K (hid _ H) a _
    rw [eh _ rfl]
    exact h
  · subst q
    obtain ⟨_, e, rfl⟩ := r
    exact (Option.some.inj e)
end G

set_option Elab.async false
set_option linter.all false
set_option maxRecDepth 100000
set_option maxHeartbeats 4000000
namespace G
open PySem PySem.Spec PyProof.Rows L2
/-- a def with a star parameter, by its promise over data: behind n values the rest comes as a tuple -/
def liftS (K : PySem.W.Frag) (n : Nat) (sp : SpD) : Sp := fun vs H Q E => ∃ ws rest, vs = ws ++ rest ∧ ws.length = n ∧ rest.length ≤ sizeLine ∧ ∀ p, H p = none → lift K sp (ws ++ [V.ref p]) (upd H p (.tup rest)) Q E
def FnS (P : Program) (w : World) (K : PySem.W.Frag) (mg : Str → Option Value) (base : Heap) (k : Nat) (f : Addr) (n : Nat) (sp : SpD) : Prop :=
  L2.FnR P w K mg base (L2.CX P w) k f (liftS K n sp) ∧ PySem.W.keepIn K (.ref f) = true
section
variable {P : Program} {w : World} {K : PySem.W.Frag} {mg : Str → Option Value} {base : Heap} {k : Nat} {x qual : Str} {params : Arguments} {body : List Stmt} {scope : Scope} {f : Addr} {fd : FuncData} {N ps : List Str} {pv : Str} {sp : SpD}
theorem fnS (F : FunD K x qual params body scope [] [] f fd) (S : FnScope N (ps ++ [pv]) scope)
    (hb : ∀ (kV doc pm : Value) (an : Option Addr) (cdv ct : Value) (us rest : List Value), us.length = ps.length →
      bindArgs (PySem.W.fnOf x qual params body scope .none kV doc pm an cdv ct) ⟨us ++ rest, []⟩ = (newTuple rest >>= fun t => pure (ps.zip us ++ [(pv, t)])))
    (h : ∀ (cdv : Value) (A : Around) (outer : List Env) (s : Shared) (H : Hp) (vs : List V) (Q : VK) (E : XK), Room k (A.deeper (envOfC qual scope s.heap.objs.size f cdv)) → lift K sp vs H Q E →
      ∃ t, PSs (cxOf (L2.CX P w) P w K mg base N qual scope f cdv A outer s H E) body t ∧ t { nx := fun _ H' => Q .non H', rt := Q } (L2.start N vs) H) :
    FnS P w K mg base (k + 1) f ps.length sp := by
  obtain ⟨⟨oc, od, dV, kV, doc, pm, an, cdv, ct, osl, rfl, lk, hcd, hD, _⟩, kp⟩ := F
  refine ⟨?_, kp⟩
  rcases hD with ⟨_, rfl⟩ | ⟨z, _⟩
  · exact StX.fn_star lk hcd S StX.cxUp (hb kV doc pm an cdv ct) fun A outer s H vs Q E hr hs => h cdv A outer s H vs Q E hr hs
  · exact absurd rfl z
end
section
variable {X : Cx} {CX : CXT} {k : Nat} {f : Addr} {sp : Sp} {E : XK} {x : Str} {e : Expr} {es : List Expr} {t : TA} {p pos : Pos}
def tCallR (sp : Sp) (E : XK) (t : TA) : TE := fun σ H Q => t σ H fun vs H1 => sp vs H1 Q E
end
section
variable {K : PySem.W.Frag} {W : WX} {O : List OD} {ts : List T} {P : PT'} {X : XX} {sp : SpD} {tr : TA} {E : XK}
theorem repL_split {F : Hp} {ds : List D} {vs : List V} (h : RepL K F ds vs) (n : Nat) : RepL K F (ds.take n) (vs.take n) ∧ RepL K F (ds.drop n) (vs.drop n) := ⟨h.take n, h.drop n⟩
theorem unv_app {ds : List D} {d : D} : unv (ds.map T.v ++ [.v d]) = some (ds ++ [d]) := unv_vs (ys := [.v d]) (es := [d]) rfl
theorem w_fnS0 {n : Nat} (h : WA K W tr O ts (fun xs O1 => ∃ ds, unv xs = some ds ∧ n ≤ ds.length ∧ ds.length ≤ 1000000 ∧ sp ((ds.take n).map T.v ++ [.v (.tup (ds.drop n))]) [] (fun t _ => (∃ d, t = .v d) ∧ P t O1) (fun _ _ _ => False)) X) :
    WE K W (tCallR (liftS K n sp) E0 tr) O ts P X := fun b A σ H Q s rs kv kx =>
  h b A σ H _ s rs (fun xs vs A1 O1 H1 p1 s1 n1 r1 => by
    obtain ⟨ds, e, hn, hz, q⟩ := p1
    have r2 := r1.plain e
    have hl : vs.length = ds.length := r2.length
    obtain ⟨ra, rb⟩ := repL_split r2 n
    refine ⟨vs.take n, vs.drop n, (List.take_append_drop n vs).symm, by rw [List.length_take]; omega, Nat.le_trans (show (vs.drop n).length ≤ 1000000 by rw [List.length_drop]; omega) (Nat.le_of_ble_eq_true rfl), fun p hp => ?_⟩
    obtain ⟨s2, n2, f2⟩ := s1.lay hp (.tup (vs.drop n))
    refine lift_p (W := fun _ _ _ _ => False) (X := fun _ _ _ => False) (σ := σ) s2 (repTs_app (ys := [.v (.tup (ds.drop n))]) ⟨.ref p, [], rfl, ⟨_, rfl, p, vs.drop n, rfl, SqT.of f2, rb.ex n2.ext⟩, rfl⟩ (ra.ex n2.ext)) unv_app (fun C d H z => z) q (kv.nxt (n1.trans n2)) (fun C fs A' O' H' d z => z.elim)) kx
end
end G

set_option Elab.async false
set_option linter.all false
set_option maxRecDepth 100000
set_option maxHeartbeats 4000000
namespace G
open PySem PySem.Spec PyProof.Rows L2
def TupC (K : PySem.W.Frag) (a : Addr) (ns : List Int) : Prop := ∃ (o : Obj) (its : Array Value) (n : Nat), K.lookup a = some o ∧ o.cls = .type "tuple" ∧ o.data = .seq its n ∧ its.size ≤ sizeLine ∧ Vals (ns.map V.int) its.toList
def tupB (K : PySem.W.Frag) (a : Addr) (ns : List Int) : Bool := match K.lookup a with
  | some ⟨.type "tuple", _, .seq its _, _⟩ => Nat.ble its.size 1000 && decide (its.toList.map (fun v => match v with | .int i _ => some i | _ => none) = ns.map some)
  | _ => false
theorem vals_of : ∀ {vs : List Value} {ns : List Int}, vs.map (fun v => match v with | .int i _ => some i | _ => none) = ns.map some → Vals (ns.map V.int) vs
  | [], [], _ => .nil
  | [], _ :: _, h => by cases h
  | _ :: _, [], h => by cases h
  | v :: vs, n :: ns, h => by
    rw [List.map_cons, List.map_cons] at h
    injection h with h1 h2
    refine .cons ?_ (vals_of h2)
    cases v <;> first | cases h1 | skip
    exact ⟨_, rfl⟩
theorem tupB_ok {K : PySem.W.Frag} {a : Addr} {ns : List Int} (h : tupB K a ns = true) : TupC K a ns := by
  unfold tupB at h
  split at h
  · rename_i e
    obtain ⟨h1, h2⟩ := Bool.and_eq_true_iff.mp h
    exact ⟨_, _, _, e, rfl, rfl, Nat.le_trans (Nat.le_of_ble_eq_true h1) (Nat.le_of_ble_eq_true rfl), vals_of (of_decide_eq_true h2)⟩
  · cases h
section
variable {K : PySem.W.Frag} {W : WX} {O : List OD} {ts : List T} {P : PT'} {X : XX} {g : TG} {te : TE} {vs : List Nat}
theorem w_ctup {a : Addr} {ns : List Int} (h : TupC K a ns) (k : P (.v (.tup (nums ns))) O) : WE K W (tC (.ref a)) O ts P X := by
  obtain ⟨o, its, n, h1, h2, h3, h4, h5⟩ := h
  exact w_c (d := .tup (nums ns)) (fun H => ⟨a, ns.map V.int, rfl, .inr ⟨o, its, n, h1, h2, h3, h4, h5⟩, repL_ints⟩) k
theorem for_A {α : Type} {E : DE} {tb : TS} {xs : List α} {e : α → D} (I : Nat → List T → List OD → Prop) (h0 : I 0 ts O)
    (hs : ∀ i x ts' O', i < xs.length → xs[i]? = some x → I i ts' O' → WG K W g (.v (e x)) O' ts' (fun ts2 O2 => WS K W tb O2 ts2 { E with nx := I (i + 1), ct := I (i + 1), bk := E.nx }))
    (hd : ∀ ts' O', I xs.length ts' O' → E.nx ts' O') : ForEx K W g tb E ts (itD (xs.map e)) O :=
  for_D I h0 (fun i d ts' O' hi eq hI => by
    rw [List.getElem?_map] at eq
    cases q : xs[i]? with
    | none =>
      rw [q] at eq
      cases eq
    | some r =>
      rw [q] at eq
      have e2 : e r = d := Option.some.inj eq
      subst e2
      exact hs i r ts' O' (by rw [List.length_map] at hi; exact hi) q hI) (by rw [List.length_map]; exact hd)
def LcExT (K : PySem.W.Frag) (W : WX) (g : TG) (tt : TT) (te : TE) (vs : List Nat) (P : PT') (ts : List T) (f : Nat → Option T) (O1 : List OD) : Prop :=
  ∃ (n : Nat) (I : Nat → List D → List OD → Prop), (∀ i, i < n → f i ≠ none) ∧ f n = none ∧ I 0 [] O1 ∧ (∀ i acc O', I i acc O' → O'.length = O1.length) ∧
      (∀ i t acc O', i < n → f i = some t → I i acc O' → WG K W g t (O' ++ [.lst acc]) (wipeT ts vs) (fun ts2 O2 => WT K W tt O2 ts2 (fun c O3 =>
        (c = true → WE K W te O3 ts2 (fun y O4 => ∃ d O5, y = .v d ∧ O4 = O5 ++ [.lst acc] ∧ acc.length < sizeLine ∧ I (i + 1) (acc ++ [d]) O5) X0) ∧ (c = false → ∃ O5, O3 = O5 ++ [.lst acc] ∧ I (i + 1) acc O5)) X0)) ∧
      (∀ acc O', I n acc O' → P (.v (.lst acc)) O')
theorem w_lcF1 {wi : TI} {tt : TT} {i : Nat} (h : WI K W wi O ts (fun f O1 => LcExT K W (gName i) tt te vs P ts f O1) X) (hm : i ∈ vs) : WE K W (tLc wi (gName i) tt te vs) O ts P X := w_lc (tgt_name hm) h
/-- [f x for x in xs if p x], without effects -/
theorem lcF_A {α : Type} {tt : TT} (xs : List α) (e : α → D) (p : α → Bool) (f : α → D) (hz : xs.length ≤ 1000000)
    (hs : ∀ x acc, x ∈ xs → WG K W g (.v (e x)) (O ++ [.lst acc]) (wipeT ts vs) (fun ts2 O2 => WT K W tt O2 ts2 (fun c O3 => c = p x ∧ O3 = O ++ [.lst acc] ∧ (p x = true → WE K W te (O ++ [.lst acc]) ts2 (fun y O4 => y = .v (f x) ∧ O4 = O ++ [.lst acc]) X0)) X0))
    (hd : P (.v (.lst ((xs.filter p).map f))) O) : LcExT K W g tt te vs P ts (itD (xs.map e)) O := by
  refine ⟨xs.length, fun i acc O' => O' = O ∧ acc = ((xs.take i).filter p).map f, fun i hi => itD_ne (by rw [List.length_map]; exact hi), ?_, ⟨rfl, rfl⟩, fun i acc O' h => by rw [h.1], fun i t acc O' hi ht h => ?_, fun acc O' h => ?_⟩
  · unfold itD
    rw [List.getElem?_eq_none (by rw [List.length_map]; exact Nat.le_refl _)] <;> rfl
  · obtain ⟨rfl, rfl⟩ := h
    obtain ⟨d, hd', rfl⟩ := itD_some ht
    rw [List.getElem?_map, List.getElem?_eq_getElem hi] at hd'
    have e2 : e xs[i] = d := Option.some.inj hd'
    subst e2
    have hl : (((xs.take i).filter p).map f).length < sizeLine := by
      rw [List.length_map]
      exact Nat.lt_of_le_of_lt (List.length_filter_le _ _) (Nat.lt_of_lt_of_le (show (xs.take i).length < 1000000 by rw [List.length_take]; omega) (Nat.le_of_ble_eq_true rfl))
    have et : xs.take (i + 1) = xs.take i ++ [xs[i]] := by rw [List.take_succ, List.getElem?_eq_getElem hi] <;> rfl
    refine (hs xs[i] _ (List.getElem_mem hi)).imp fun ts2 O2 q b A σ H Q s rs kb kx => q b A σ H Q s rs (fun c A' O' H' q2 => kb c A' O' H' ?_) kx
    obtain ⟨rfl, rfl, q3⟩ := q2
    refine ⟨fun hp => (q3 hp).imp fun y O4 q4 => ?_, fun hp => ⟨_, rfl, rfl, ?_⟩⟩
    · obtain ⟨rfl, rfl⟩ := q4
      refine ⟨_, _, rfl, rfl, hl, rfl, ?_⟩
      rw [et, List.filter_append, List.map_append, List.filter_cons_of_pos hp] <;> rfl
    · rw [et, List.filter_append, List.filter_cons_of_neg (by rw [hp]; exact Bool.false_ne_true)]
      simp
  · obtain ⟨rfl, rfl⟩ := h
    rw [List.take_length]
    exact hd
end
section
variable {K : PySem.W.Frag} {W : WX} {O : List OD} {ts : List T} {P : PT'} {X : XX} {te : TE}
theorem w_catL {x y : T} {ds es : List D} (hx : LstD x O ds) (hy : LstD y O es) (hz : ds.length + es.length ≤ 1000000) (k : P (.v (.lst (ds ++ es))) O) : WR K rCat x y O P := fun b A H Q v u s r1 r2 kv => by
  obtain ⟨a, vs, rfl, h1, h2⟩ := lstD_atH hx s r1
  obtain ⟨c, us, rfl, h3, h4⟩ := lstD_atH hy s r2
  refine ⟨a, c, vs, us, rfl, rfl, h1, h3, Nat.le_trans (by rw [h2.length, h4.length]; exact hz) (Nat.le_of_ble_eq_true rfl), fun p hp => ?_⟩
  obtain ⟨s2, n2, q⟩ := s.lay hp (.lst (vs ++ us))
  exact kv _ _ A O _ k s2 n2 ⟨_, rfl, p, _, rfl, q, (h2.append h4).ex n2.ext⟩
theorem RepL.reverse {F : Hp} : ∀ {ds : List D} {vs : List V}, RepL K F ds vs → RepL K F ds.reverse vs.reverse
  | [], _, h => by
    rw [show _ = [] from h]
    exact rfl
  | d :: ds, _, h => by
    obtain ⟨v, r, e1, h1, h2⟩ := h
    subst e1
    rw [List.reverse_cons, List.reverse_cons]
    exact (RepL.reverse h2).append ⟨v, [], rfl, h1, rfl⟩
theorem w_revL (h : WE K W te O ts (fun x O1 => ∃ ds, LstD x O1 ds ∧ P (.v (.lst ds.reverse)) O1) X) : WE K W (tRevL K te) O ts P X := fun b A σ H Q s rs kv kx =>
  h b A σ H _ s rs (fun x v A1 O1 H1 p1 s1 n1 r1 => by
    obtain ⟨ds, hx, k⟩ := p1
    obtain ⟨a, vs, rfl, h1, h2⟩ := lstD_atH hx s1 r1
    refine ⟨a, vs, rfl, SqL.of h1, fun p hp => ?_⟩
    obtain ⟨s2, n2, q⟩ := s1.lay hp (.lst vs.reverse)
    exact kv _ _ A1 O1 _ k s2 (n1.trans n2) ⟨_, rfl, p, _, rfl, q, h2.reverse.ex n2.ext⟩) kx
/-- [f a b for a, b in zip(xs, ys)] -/
theorem lc_Z {g : TG} {te : TE} {vs : List Nat} {α β : Type} (xs : List α) (ys : List β) (e1 : α → D) (e2 : β → D) (f : α → β → D) (hl : xs.length = ys.length) (hz : xs.length ≤ 1000000)
    (hs : ∀ x y acc, x ∈ xs → y ∈ ys → WG K W g (.v (.tup [e1 x, e2 y])) (O ++ [.lst acc]) (wipeT ts vs) (fun ts2 O2 => WE K W te O2 ts2 (fun y' O4 => y' = .v (f x y) ∧ O4 = O ++ [.lst acc]) X0))
    (hd : P (.v (.lst (List.zipWith f xs ys))) O) : LcEx K W g te vs P ts (itZ (xs.map e1) (ys.map e2)) O := by
  refine lc_P (n := xs.length) (item := fun i => match xs[i]?, ys[i]? with | some x, some y => .v (.tup [e1 x, e2 y]) | _, _ => .no) (fun i => match xs[i]?, ys[i]? with | some x, some y => f x y | _, _ => .non) (fun i hi => ?_) ?_ hz (fun i acc hi => ?_) ?_
  · unfold itZ
    rw [List.getElem?_map, List.getElem?_map, List.getElem?_eq_getElem hi, List.getElem?_eq_getElem (show i < ys.length by omega)] <;> rfl
  · unfold itZ
    rw [List.getElem?_eq_none (by rw [List.length_map]; exact Nat.le_refl _)] <;> rfl
  · have h2 : i < ys.length := by omega
    have h := hs xs[i] ys[i] acc (List.getElem_mem hi) (List.getElem_mem h2)
    rw [List.getElem?_eq_getElem hi, List.getElem?_eq_getElem h2]
    exact h
  · have e : (List.range xs.length).map (fun i => match xs[i]?, ys[i]? with | some x, some y => f x y | _, _ => D.non) = List.zipWith f xs ys := by
      refine List.ext_getElem (by rw [List.length_map, List.length_range, List.length_zipWith]; omega) fun i h1 h2 => ?_
      rw [List.length_map, List.length_range] at h1
      rw [List.getElem_map, List.getElem_range, List.getElem_zipWith, List.getElem?_eq_getElem h1, List.getElem?_eq_getElem (show i < ys.length by omega)]
    rw [e]
    exact hd
/-- two names for a pair -/
theorem tgt_pair {n i j : Nat} {vs : List Nat} (hi : i ∈ vs) (hj : j ∈ vs) : Tgt (gTup K n (gCons (gName i) (gCons (gName j) gNil))) vs := tgt_tup (tgt_cons1 hi (tgt_cons1 hj tgt_nil))
end
theorem mul_okP {i j : Int} {a b : Nat} (ha : i.natAbs < 2 ^ a) (hb : j.natAbs < 2 ^ b) (h : a + b ≤ 999000) : CMulW i j := by
  refine wide_mul (a := a + 1) (b := b + 1) ?_ ?_ (by omega) (by omega) (by omega)
  · rw [Nat.pow_succ]; omega
  · rw [Nat.pow_succ]; omega
end G

set_option Elab.async false
set_option linter.all false
set_option maxRecDepth 100000
set_option maxHeartbeats 4000000
namespace GX
open PySem PySem.Spec PyProof.Rows L2 NdefX
section
open PySem.W PySem.Calls
variable {prog : Program} {w : World} {A : Around} {E : Value → Shared → Prop} {h : Heap} {g : Array GenState} {d : Drawn} {t : Nat} {os : OsState}
variable {nm q : Str} {C N : Addr} {bs bm : List Value} {hdct : Bool} {sn : List Str} {sub : List Value} {ab : Bool} {col : Option Bool} {dd : Option Addr} {k0 k1 k2 k3 k5 : Option Value}
end
/-- the function at f, its words by F, its class at C; ar: its first parameter -/
structure InitC (K : PySem.W.Frag) (C f cc : Addr) (F : NF) (ar : Str) : Prop where
  exc : OexC K C
  fn : ∃ oc od doc pm ctv osl, K.lookup f = some ⟨oc, od, .func (F.fd doc pm ctv), osl⟩
  code : PySem.W.codeIn K (.ref F.c) F.qual = true
  cl : F.cl = [(("__class__" : Str), cc)]
  cell : ∃ oc od osl, K.lookup cc = some ⟨oc, od, .cell (some (.ref C)), osl⟩
  file : ∃ oc od vs osl fl tf, K.lookup F.c = some ⟨oc, od, .fields vs, osl⟩ ∧ vs[2]? = some (.str fl tf)
  kp : PySem.W.keepIn K (.ref f) = true
  st : PySem.W.nsIn K cStatics "thirdparty.any" = some none
  su : PySem.W.nsIn K mainGlobals "super" = some none
  al : PySem.W.ks_superIn K C C "__init__" = some (some (.builtin "ValueError.__init__"))
  ve : PySem.W.subIn K (.ref C) (.type "ValueError") = some true
  me : PySem.W.mroIn K C (.ref C) = some true
  hp : ∃ x, (F.params.posonlyargs ++ F.params.args).head? = some x ∧ x.arg = ar
section
variable {CX : CXT} {P : Program} {w : World} {K : PySem.W.Frag} {mg : Str → Option Value} {base : Heap} {N ps : List Str} {F : NF} {f C cc : Addr} {k : Nat} {sp : Sp} {ar : Str} {tail : List Stmt} {z : Str} {kd : Nat} {p0 p1 p2 p3 p4 p5 : Pos}
end
end GX

set_option Elab.async false
set_option linter.all false
set_option maxRecDepth 100000
set_option maxHeartbeats 4000000
namespace G
open PySem PySem.Spec PyProof.Rows L2
/-- an own exception's __init__ that keeps one field, two -/
def spX1 (C : Addr) (f : Str) : Sp := fun vs H Q _ => ∃ a v, vs = [.ref a, v] ∧ H a = some (exo a C none) ∧ ∀ dx, H dx = none → dx ≠ a → Q .non (upd (upd H dx (exd dx [(f, v)])) a (exo a C (some dx)))
def spX2 (C : Addr) (f g : Str) : Sp := fun vs H Q _ => ∃ a v w, vs = [.ref a, v, w] ∧ H a = some (exo a C none) ∧ ∀ dx, H dx = none → dx ≠ a → Q .non (upd (upd (upd H dx (exd dx [(f, v)])) a (exo a C (some dx))) dx (exd dx [(g, w), (f, v)]))
section
variable {K : PySem.W.Frag} {W : WX} {O : List OD} {ts : List T} {E : DE} {te te2 : TE} {C : Addr} {f g : Str}
theorem s_raise1 (h : WE K W te O ts (fun x O' => ∃ d, x = .v d ∧ E.xe (.ref C) (some [(f, d)]) ts O') (fun C fs O' => E.xe C fs ts O')) :
    WS K W (fun _ σ H => tMkO C (spX1 C f) [] (tCons te tNil) σ H fun cls d H' => W cls d σ H') O ts E := fun b A σ H D s rs ks =>
  h b A σ H _ s rs (fun t v A' O' H' p s' n' r' => by
    obtain ⟨d, rfl, q⟩ := p
    obtain ⟨_, e, rd⟩ := r'
    cases e
    refine ⟨(show 1 ≤ 1000 by decide), fun a ha => ⟨a, v, rfl, upd_same, fun dx hdx hne => ⟨rfl, dx, [(f, v)], upd_same, ?_, ?_, ?_⟩⟩⟩
    · rw [upd_ne hne, upd_same]
    · rw [upd_ne hne] at hdx
      exact hdx
    · rw [upd_ne hne] at hdx
      have e : upd (del (upd (upd (upd H' a (exo a C none)) dx (exd dx [(f, v)])) a (exo a C (some dx))) a) dx (.xd [(f, v)]) = upd H' dx (.xd [(f, v)]) := by
        funext y
        by_cases h1 : y = dx
        · rw [h1, upd_same, upd_same]
        · rw [upd_ne h1, upd_ne h1]
          by_cases h2 : y = a
          · rw [h2, del_same, ha]
          · rw [del_ne h2, upd_ne h2, upd_ne h1, upd_ne h2]
      rw [e]
      obtain ⟨s2, n2, q2⟩ := s'.lay hdx (.xd [(f, v)])
      exact ks.xe _ _ ts σ A' O' _ (some dx) q s2 (n'.trans n2) (rs.nxt (n'.trans n2)) ⟨dx, _, rfl, q2, v, [], rfl, rd.ex n2.ext, rfl⟩) (ks.kx rs)
theorem s_raise2 (h : WE K W te O ts (fun x O1 => WE K W te2 O1 ts (fun y O' => ∃ d e, x = .v d ∧ y = .v e ∧ E.xe (.ref C) (some [(g, e), (f, d)]) ts O') (fun C fs O' => E.xe C fs ts O')) (fun C fs O' => E.xe C fs ts O')) :
    WS K W (fun _ σ H => tMkO C (spX2 C f g) [] (tCons te (tCons te2 tNil)) σ H fun cls d H' => W cls d σ H') O ts E := fun b A σ H D s rs ks =>
  h b A σ H _ s rs (fun t v A1 O1 H1 p1 s1 n1 r1 => p1 b A1 σ H1 _ s1 (rs.nxt n1) (fun t2 w A' O' H' p s' n2' r2' => by
    obtain ⟨d, e0, rfl, rfl, q⟩ := p
    have n' := n1.trans n2'
    obtain ⟨_, e, rd⟩ := r1.nxt n2'
    cases e
    obtain ⟨_, e, rw2⟩ := r2'
    cases e
    refine ⟨(show 2 ≤ 1000 by decide), fun a ha => ⟨a, v, w, rfl, upd_same, fun dx hdx hne => ⟨rfl, dx, [(g, w), (f, v)], ?_, upd_same, ?_, ?_⟩⟩⟩
    · rw [upd_ne (Ne.symm hne), upd_same]
    · rw [upd_ne hne] at hdx
      exact hdx
    · rw [upd_ne hne] at hdx
      have e : upd (del (upd (upd (upd (upd H' a (exo a C none)) dx (exd dx [(f, v)])) a (exo a C (some dx))) dx (exd dx [(g, w), (f, v)])) a) dx (.xd [(g, w), (f, v)]) = upd H' dx (.xd [(g, w), (f, v)]) := by
        funext y
        by_cases h1 : y = dx
        · rw [h1, upd_same, upd_same]
        · rw [upd_ne h1, upd_ne h1]
          by_cases h2 : y = a
          · rw [h2, del_same, ha]
          · rw [del_ne h2, upd_ne h1, upd_ne h2, upd_ne h1, upd_ne h2]
      rw [e]
      obtain ⟨s2, n2, q2⟩ := s'.lay hdx (.xd [(g, w), (f, v)])
      exact ks.xe _ _ ts σ A' O' _ (some dx) q s2 (n'.trans n2) (rs.nxt (n'.trans n2)) ⟨dx, _, rfl, q2, w, [(f, v)], rfl, rw2.ex n2.ext, v, [], rfl, rd.ex n2.ext, rfl⟩) ((ks.nxt n1).kx (rs.nxt n1))) (ks.kx rs)
end
section
variable {K : PySem.W.Frag} {W : WX} {O : List OD} {ts : List T} {P : PT'} {X : XX} {sp : SpD} {tr : TA}
/-- a call that may raise -/
theorem w_fnX (h : WA K W tr O ts (fun xs O1 => ∃ ds, unv xs = some ds ∧ sp xs [] (fun t _ => (∃ d, t = .v d) ∧ P t O1) (fun C fs _ => X C fs O1)) X) : WE K W (tCallS (lift K sp) (L2.WE W) tr) O ts P X := fun b A σ H Q s rs kv kx =>
  h b A σ H _ s rs (fun xs vs A1 O1 H1 p1 s1 n1 r1 => by
    obtain ⟨ds, e, p⟩ := p1
    exact lift_p (W := W) (σ := σ) s1 r1 e (fun C d H q => q) p (kv.nxt n1) (kx.nxt n1)) kx
def tCallRS (sp : Sp) (E : L2.St → XK) (t : TA) : TE := fun σ H Q => t σ H fun vs H1 => sp vs H1 Q (E σ)
end
section
variable {X : Cx} {CX : CXT} {k : Nat} {f : Addr} {sp : Sp} {E : L2.St → XK} {x : Str} {e : Expr} {es : List Expr} {t : TA} {p pos : Pos}
end
section
variable {K : PySem.W.Frag} {W : WX} {O : List OD} {ts : List T} {P : PT'} {X : XX} {sp : SpD} {tr : TA}
theorem w_fnSX {n : Nat} (h : WA K W tr O ts (fun xs O1 => ∃ ds, unv xs = some ds ∧ n ≤ ds.length ∧ ds.length ≤ 1000000 ∧ sp ((ds.take n).map T.v ++ [.v (.tup (ds.drop n))]) [] (fun t _ => (∃ d, t = .v d) ∧ P t O1) (fun C fs _ => X C fs O1)) X) :
    WE K W (tCallRS (liftS K n sp) (L2.WE W) tr) O ts P X := fun b A σ H Q s rs kv kx =>
  h b A σ H _ s rs (fun xs vs A1 O1 H1 p1 s1 n1 r1 => by
    obtain ⟨ds, e, hn, hz, q⟩ := p1
    have r2 := r1.plain e
    have hl : vs.length = ds.length := r2.length
    obtain ⟨ra, rb⟩ := repL_split r2 n
    refine ⟨vs.take n, vs.drop n, (List.take_append_drop n vs).symm, by rw [List.length_take]; omega, Nat.le_trans (show (vs.drop n).length ≤ 1000000 by rw [List.length_drop]; omega) (Nat.le_of_ble_eq_true rfl), fun p hp => ?_⟩
    obtain ⟨s2, n2, f2⟩ := s1.lay hp (.tup (vs.drop n))
    exact lift_p (W := W) (σ := σ) s2 (repTs_app (ys := [.v (.tup (ds.drop n))]) ⟨.ref p, [], rfl, ⟨_, rfl, p, vs.drop n, rfl, SqT.of f2, rb.ex n2.ext⟩, rfl⟩ (ra.ex n2.ext)) unv_app (fun C d H q => q) q (kv.nxt (n1.trans n2)) (kx.nxt (n1.trans n2))) kx
end
section
variable {X : Cx} {pins : List (Addr × Obj)} {σ : L2.St} {H : Hp} {s : Shared}
end
section
variable {X : Cx} {x n : Str} {c : Value} {i : Nat} {body suite : List Stmt} {b₀ : Stmt} {np pos pos' : Pos} {tb : WX → TS} {ts : Addr → Value → Option Addr → TS} {Wout : WX}
end
end G

set_option Elab.async false
set_option linter.all false
set_option maxRecDepth 100000
set_option maxHeartbeats 4000000
namespace GX
open PySem PySem.Spec PySem.Calls PyProof.Rows PySem.W
section
variable {prog : Program} {w : World} {A : Around} {E : Value → Shared → Prop} {s : Shared} {K : Frag} {x D : Addr} {ox : Obj} {od : Option Obj}
end
end GX
namespace G
open PySem PySem.Spec PyProof.Rows L2
section
variable {X : Cx} {e : Expr} {te : TE} {pos : Pos} {f : Str}
end
section
variable {K : PySem.W.Frag} {W : WX} {O : List OD} {ts : List T} {P : PT'} {X : XX} {te : TE} {E : DE}
end
end G

set_option Elab.async false
set_option linter.all false
set_option maxRecDepth 100000
set_option maxHeartbeats 4000000
namespace G
open PySem PySem.Spec PyProof.Rows L2
/-- a def's promise where no repr is under way -/
def FnRG (P : Program) (w : World) (K : PySem.W.Frag) (mg : Str → Option Value) (base : Heap) (CX : CXT) (k : Nat) (f : Addr) (sp : Sp) : Prop :=
  ∀ (A : Around) (outer : List Env) (s : Shared) (H : Hp) (us : List Value) (vs : List V) (Q : VK) (E : XK), A.guards = some [] → Room k A → Env0 P w K mg base A outer s H → Vals vs us → sp vs H Q E →
    codeAny (model P w) A (.call (.ref f) ⟨us, []⟩) (CR CX outer P w H s Q E) s
def FnG (P : Program) (w : World) (K : PySem.W.Frag) (mg : Str → Option Value) (base : Heap) (k : Nat) (f : Addr) (n : Nat) (sp : SpD) : Prop :=
  FnRG P w K mg base (L2.CX P w) k f (lift K sp) ∧ PySem.W.keepIn K (.ref f) = true
section
variable {P : Program} {w : World} {K : PySem.W.Frag} {mg : Str → Option Value} {base : Heap} {k : Nat} {x qual : Str} {params : Arguments} {body : List Stmt} {scope : Scope} {f : Addr} {fd : FuncData} {N ps : List Str} {sp : SpD}
theorem fnG (F : FunD K x qual params body scope [] [] f fd) (S : FnScope N ps scope) (len : ∀ vs H Q E, lift K sp vs H Q E → vs.length = ps.length) (hb : Binds K fd ps [])
    (h : ∀ (cdv : Value) (A : Around) (outer : List Env) (s : Shared) (H : Hp) (vs : List V) (Q : VK) (E : XK), A.guards = some [] → Room k (A.deeper (envOfC qual scope s.heap.objs.size f cdv)) → lift K sp vs H Q E →
      ∃ t, PSs (cxOf (L2.CX P w) P w K mg base N qual scope f cdv A outer s H E) body t ∧ t { nx := fun _ H' => Q .non H', rt := Q } (L2.start N vs) H) :
    FnG P w K mg base (k + 1) f ps.length sp := by
  obtain ⟨⟨oc, od, dV, kV, doc, pm, an, cdv, ct, osl, rfl, lk, hcd, hD, _⟩, kp⟩ := F
  refine ⟨fun A outer s H us vs Q E hgd hr e0 r hs => ?_, kp⟩
  have hl := len _ _ _ _ hs
  have hb' := hb s us (e0.mod.kin.keeps fun b o e => (e0.bs b o e).1) (by rw [List.append_nil, ← r.length]; exact hl)
  rw [List.append_nil] at hb'
  exact LamX.run_ofS lk hcd S hr e0 hb' r hl fun hr' => h cdv A outer s H vs Q E hgd hr' hs
end
section
variable {X : Cx} {CX : CXT} {k : Nat} {f : Addr} {sp : Sp} {E : L2.St → XK} {x : Str} {e : Expr} {es : List Expr} {t : TA} {p pos : Pos}
theorem run_fnG {pins : List (Addr × Obj)} {σ : L2.St} {H : Hp} {s : Shared} {Q : VK} {us : List Value} {vs : List V} (F : FnRG X.prog X.w X.K X.mg X.base CX k f sp) (hgd : X.A.guards = some []) (hr : Room k X.A) (hx : PassesAt CX X σ (E σ))
    (I : Inv X pins σ H s) (r : Vals vs us) (h : sp vs H Q (E σ)) : wpAny (model X.prog X.w) X.A (call (.ref f) us) (EP X pins σ Q) X.xe s := by
  have F2 : FnRG X.prog X.w X.K X.mg X.base CX k f (fun vs H Q E' => sp vs H Q E') := F
  refine wpAny_call (codeAny_mono (F2 X.A X.stack s H us vs Q (E σ) hgd hr I.env0 r h) fun r' s' hq => ?_)
  cases r' with
  | error e => exact hx pins H s e s' I hq
  | ok fl =>
    cases fl with
    | ret u => exact I.after hq
    | next => exact False.elim hq
    | brk => exact False.elim hq
    | cont => exact False.elim hq
end
section
variable {X : Cx} {CX : CXT} {k : Nat} {f : Addr} {sp : Sp} {E : XK} {x : Str} {e : Expr} {es : List Expr} {t : TA} {p pos : Pos}
/-- f(e, ..) where f does not raise -/
theorem pe_callG (F : FnRG X.prog X.w X.K X.mg X.base CX k f sp) (hgd : X.A.guards = some []) (hr : Room k X.A) (hg : Gl X x)
    (hm : X.mg x = some (.ref f)) (hk : PySem.W.keepIn X.K (.ref f) = true) (hx : Passes CX X E) (ha : PA X (e :: es) t)
    (hdb : (x == ("__debug__" : Str)) = false := by decide) (he : starEach (e :: es) X.env = (false, eval e X.env) :: starEach es X.env := by rfl)
    (hpl : (backTo pos (starEach es X.env)).any (·.1) = false := by rfl) : PE X (.Call (.Name x p) (e :: es) [] pos) (tCall sp [] E t) := by
  refine ⟨fun pins s σ H Q I h => ?_⟩
  refine wpAny_Call_Name_kw (ld_glob I hg hm ?_ hdb)
  exact PySem.W.callWith_K (h₀ := X.base) I.ok.mod.kin hk (thn (ha.run pos pins s σ H _ I h) fun us s1 ⟨vs, H1, I1, r, q⟩ => ⟨I1.kIn, run_fnG (E := fun _ => E) F hgd hr (fun pins H s e s' I c => hx pins σ H s e s' I c) I1 r (by
    have q' : sp (vs ++ []) H1 Q E := q
    rw [List.append_nil] at q'
    exact q')⟩) he hpl
end
/-- the script's list as it is first tracked, the tables empty -/
def hp0 (K : PySem.W.Frag) (a : Addr) (oa : Obj) (xs : List V) (Ts : List Addr) : Hp := fun b =>
  if b = a then (if K.lookup a = none then some (.frz oa (.lst xs)) else none) else if b ∈ Ts then some (.tbl #[]) else none
theorem law_callG {P : Program} {w : World} {K : PySem.W.Frag} {mg mb : Str → Option Value} {CX : CXT} {fa a : Addr} {cs : List (Addr × Addr)} {s₁ : Shared} {vs : List Value} {ns : List Int}
    (KX : K.In s₁.heap) (hns : s₁.heap.Ns mainGlobals mg) (hb : s₁.heap.Ns builtinsNs mb) (hbb : ∀ x : Str, x ≠ "__name__" → mb x = bootBuiltins x) (hlim : s₁.heap.NoLimit) (hg : s₁.gens = #[])
    (hT : ∀ p ∈ cs, s₁.heap.get? p.2 = some { cls := .none, data := .fields #[] }) (nT : ∀ p ∈ cs, K.lookup p.2 = none) (C : ∀ p ∈ cs, PySem.W.CodeHd s₁.heap p.1 p.2)
    (hbm : ∃ (bm : Addr) (ob : Obj), mg "__builtins__" = some (.ref bm) ∧ bm ≠ builtinsNs ∧ s₁.heap.get? bm = some ob ∧ ob.cls = .type "module" ∧ ob.dict = some builtinsNs ∧ ob.data = .plain)
    (ha : s₁.heap.get? a = some { cls := .type "list", data := .seq vs.toArray }) (hi : IntsAre vs ns) (hl : ns.length ≤ sizeLine)
    (F : ∀ (base : Heap) (H : Hp), Env0 P w K mg base callerA [] s₁ H → (∀ p ∈ cs, LamX.TabB base mg p.1 p.2) → (∀ p ∈ cs, H p.2 = some (.tbl #[])) → SqL K H a (ns.map V.int) →
      codeAny (model P w) callerA (.call (.ref fa) ⟨[.ref a], []⟩) (CR CX [] P w H s₁ (fun v _ => v = .bl true) fun _ _ _ => False) s₁)
    (hCX : ∀ H e s', CX [] H s₁ (fun _ _ _ => False) e s' → False) :
    codeAny (model P w) callerA (.call (.ref fa) ⟨[.ref a], []⟩) (fun r s' => r = .ok (.ret (.bool true)) ∧ OldK s₁.heap s'.heap ∧ s'.os = s₁.os ∧ AllBare s'.gens) s₁ := by
  have rv := vals_ints hi
  have zl : (ns.map V.int).length ≤ sizeLine := by rw [List.length_map]; exact hl
  generalize eo : ({ cls := .type "list", data := .seq vs.toArray } : Obj) = oa at ha
  have eoD : oa.data = .seq vs.toArray := by rw [← eo]
  generalize eT : cs.map (·.2) = Ts
  have inT : ∀ p ∈ cs, p.2 ∈ Ts := fun p hp => by rw [← eT]; exact List.mem_map.mpr ⟨p, hp, rfl⟩
  have ofT : ∀ b, b ∈ Ts → ∃ p ∈ cs, p.2 = b := fun b hb => by rw [← eT] at hb; exact List.mem_map.mp hb
  have isT : ∀ b, b ∈ Ts → s₁.heap.get? b = some { cls := .none, data := .fields #[] } := fun b hb => by
    obtain ⟨p, hp, e⟩ := ofT b hb
    rw [← e]
    exact hT p hp
  have aT : a ∉ Ts := fun z => by
    have q := isT a z
    rw [ha] at q
    have q2 : oa.data = Data.fields #[] := by rw [Option.some.inj q]
    rw [eoD] at q2
    cases q2
  generalize eH : hp0 K a oa (ns.map V.int) Ts = H
  have HT : ∀ b, b ∈ Ts → H b = some (.tbl #[]) := fun b hb => by
    rw [← eH]
    unfold hp0
    rw [if_neg (fun z => aT (by rw [← z]; exact hb)), if_pos hb]
  have HA : K.lookup a = none → H a = some (.frz oa (.lst (ns.map V.int))) := fun hk => by
    rw [← eH]
    unfold hp0
    rw [if_pos rfl, if_pos hk]
  have of : ∀ b u, H b = some u → (b = a ∧ K.lookup a = none ∧ u = .frz oa (.lst (ns.map V.int))) ∨ (b ∈ Ts ∧ u = .tbl #[]) := fun b u e => by
    rw [← eH] at e
    unfold hp0 at e
    by_cases h1 : b = a
    · rw [if_pos h1] at e
      by_cases h2 : K.lookup a = none
      · rw [if_pos h2] at e
        exact .inl ⟨h1, h2, (Option.some.inj e).symm⟩
      · rw [if_neg h2] at e
        cases e
    · rw [if_neg h1] at e
      by_cases h2 : b ∈ Ts
      · rw [if_pos h2] at e
        exact .inr ⟨h2, (Option.some.inj e).symm⟩
      · rw [if_neg h2] at e
        cases e
  -- an object that is neither a list nor a table is not tracked
  have off : ∀ {b : Addr} {o : Obj}, s₁.heap.get? b = some o → (∀ vs n, o.data ≠ .seq vs n) → o.data ≠ .fields #[] → H b = none := fun {b o} e h1 h2 => by
    cases q : H b with
    | none => rfl
    | some u =>
      rcases of b u q with ⟨e', _, _⟩ | ⟨e', _⟩
      · rw [e', ha] at e
        rw [← Option.some.inj e, eoD] at h1
        exact (h1 _ _ rfl).elim
      · rw [isT b e'] at e
        rw [← Option.some.inj e] at h2
        exact (h2 rfl).elim
  have kp : ∀ {b : Addr} {o : Obj}, s₁.heap.get? b = some o → (∀ vs n, o.data ≠ .seq vs n) → o.data ≠ .fields #[] → (hidT s₁.heap H).get? b = some o := fun e h1 h2 => hidT_get e (off e h1 h2)
  have nsK : ∀ {b : Addr} {m : Str → Option Value}, s₁.heap.Ns b m → (hidT s₁.heap H).Ns b m := fun {b m} ⟨o, es, ep, e, d, r⟩ =>
    ⟨o, es, ep, kp e (fun vs n z => by rw [d] at z; cases z) (fun z => by rw [d] at z; cases z), d, r⟩
  have hKb : K.In (hidT s₁.heap H) := fun b o e => hidT_get (KX b o e) (by
    cases q : H b with
    | none => rfl
    | some u =>
      rcases of b u q with ⟨e', hk, _⟩ | ⟨e', _⟩
      · rw [e', hk] at e
        cases e
      · obtain ⟨p, hp, ep⟩ := ofT b e'
        rw [← ep, nT p hp] at e
        cases e)
  have hM : L2.Mod K mg (hidT s₁.heap H) := ⟨hKb, nsK hns, ⟨mb, nsK hb, hbb⟩, let ⟨mc, h1, h2⟩ := hlim; ⟨mc, nsK h1, h2⟩⟩
  have TB : ∀ p ∈ cs, LamX.TabB (hidT s₁.heap H) mg p.1 p.2 := fun p hp => by
    have hTp := hT p hp
    refine ⟨?_, ?_, fun z => ?_⟩
    · obtain ⟨o, us, file, tf, flags, tg, inF, text, tt, e1, r1, r2, r⟩ := C p hp
      refine ⟨o, us, file, tf, flags, tg, inF, text, tt, kp e1 (fun vs n z => by rw [r2] at z; cases z) (fun z => ?_), r1, r2, r⟩
      rw [r2] at z
      have z' : us = #[] := by injection z
      rw [z'] at r
      exact absurd r.1 (by simp)
    · obtain ⟨bm, ob, b1, b2, b3, b4, b5, b6⟩ := hbm
      refine ⟨bm, ob, b1, b2, fun q => ?_, fun q => ?_, kp b3 (fun vs n z => by rw [b6] at z; cases z) (fun z => by rw [b6] at z; cases z), b4, b5, b6⟩
      · obtain ⟨o, es, ep, e, hd, _⟩ := hns
        rw [q, e] at b3
        rw [Option.some.inj b3, b6] at hd
        cases hd
      · rw [q, hTp] at b3
        rw [← Option.some.inj b3] at b6
        cases b6
    · obtain ⟨o, es, ep, e, hd, _⟩ := hns
      rw [z, hTp] at e
      rw [← Option.some.inj e] at hd
      cases hd
  have hok : HOk P w H s₁.heap := fun b u e => by
    rcases of b u e with ⟨rfl, _, rfl⟩ | ⟨hb', rfl⟩
    · exact ⟨ha, zl, vs, 0, rv, by rw [eo]; exact ha⟩
    · exact isT b hb'
  have hS : SqL K H a (ns.map V.int) := by
    cases hk : K.lookup a with
    | none => exact .inl (.inr ⟨oa, HA hk⟩)
    | some o =>
      have e := KX a o hk
      rw [ha] at e
      have e := Option.some.inj e
      rw [← e, ← eo] at hk
      exact .inr ⟨_, vs.toArray, 0, hk, rfl, rfl, rfl, by rw [List.size_toArray, hi.length]; exact hl, by simpa using rv⟩
  have e0 : Env0 P w K mg (hidT s₁.heap H) callerA [] s₁ H := ⟨rfl, hM, fun b o e => of_hidT e, Nat.le_of_eq (hidT_size _ _), trivial, fun b hb => absurd (show b ∈ ([] : List Addr) from hb) (by simp), hok, .of_eq hg⟩
  refine codeAny_mono (F _ H e0 TB (fun p hp => HT _ (inT p hp)) hS) fun r s' h => ?_
  cases r with
  | error e => exact (hCX H e s' h).elim
  | ok fl =>
    cases fl with
    | next => exact False.elim h
    | brk => exact False.elim h
    | cont => exact False.elim h
    | ret u =>
      obtain ⟨v, H', os, bare, un, hok', r', q⟩ := h
      have q' : v = .bl true := q
      subst q'
      obtain rfl : u = Value.bool true := r'
      have key : ∀ b o, b ∉ Ts → s₁.heap.get? b = some o → s'.heap.get? b = some o := fun b o nb e => by
        cases q : H b with
        | none => exact un.keep b o e q (by intro z; exact absurd (show b ∈ ([] : List Addr) from z) (by simp)) (by simp)
        | some u =>
          rcases of b u q with ⟨_, _, e2⟩ | ⟨hb', _⟩
          · rw [e2] at q
            have e3 := (hok b _ q).1
            rw [e] at e3
            have e4 := (hok' b _ (un.frzs b oa _ q)).1
            rw [Option.some.inj e3]
            exact e4
          · exact absurd hb' nb
      have grown : ∀ b, b ∈ Ts → ∃ more : Array Value, s'.heap.get? b = some { cls := .none, data := .fields more } := fun b hb' => by
        obtain ⟨more, z⟩ := un.tbls b #[] (HT b hb')
        exact ⟨_, hok' b _ z⟩
      refine ⟨rfl, ⟨fun b o e => ?_, fun b o e => ?_⟩, os, bare⟩
      · by_cases hb' : b ∈ Ts
        · obtain ⟨more, hm⟩ := grown b hb'
          obtain ⟨p, hp, ep⟩ := ofT b hb'
          rw [← ep] at e hm ⊢
          rw [hT p hp] at e
          have e := Option.some.inj e
          rw [← e]
          exact .inr (.inl ⟨((C p hp).tab (hT p hp)).isCodeTable, rfl, #[], more, rfl, by rw [Array.empty_append]; exact hm⟩)
        · exact .inl (key b o hb' e)
      · by_cases hb' : b ∈ Ts
        · obtain ⟨more, hm⟩ := grown b hb'
          exact ⟨_, hm⟩
        · exact ⟨o, key b o hb' e⟩
/-- what is known of the tables at the head's heap -/
structure TabH (K : PySem.W.Frag) (h : Heap) : Prop where
  emp : ∀ p ∈ csT K, h.get? p.1.2 = some { cls := .none, data := .fields #[] }
  out : ∀ p ∈ csT K, K.lookup p.1.2 = none
  hd : ∀ p ∈ csT K, PySem.W.CodeHd h p.1.1 p.1.2
def TabsB (K : PySem.W.Frag) (mg : Str → Option Value) (base : Heap) : Prop := ∀ p ∈ csT K, LamX.TabB base mg p.1.1 p.1.2
theorem walk_ofG {l : PySem.W.OpenLaw} {n k : Nat} {q : Program} {loose : List Str} {XP : (Str → Option Value) → Heap → Prop} {YP : World → Heap → Prop} {d : DefRec} {CX : CXT}
    (hn : l.most = some n) (hn2 : n ≤ 1000000) (hdf : d.params.defaults = []) (hr : Room k callerA)
    (F : ∀ (w : World) (mg : Str → Option Value) (fa : Addr) (h : Heap), YP w h → h.Ns mainGlobals mg → mg d.name = some (.ref fa) →
      ∃ K : PySem.W.Frag, K.In h ∧ TabH K h ∧ ∀ base : Heap, K.In base → base.Ns mainGlobals mg → TabsB K mg base → FnRG l.prog w K mg base CX k fa (lift K (sp_law K)))
    (hCX : ∀ (H : Hp) (s : Shared) (e : Value) (s' : Shared), CX [] H s (fun _ _ _ => False) e s' → False) :
    PySem.W.WalkO q loose XP YP l.row.toRowW d [] (fun f vs => PySem.call f vs) := by
  refine Att.attach_call hn hdf fun w s₀ s₁ mg mb fa o pm cd doc a vs ns G Y ho hd hcd hmg hobj hints hlen hg => ?_
  obtain ⟨K, KX, TH, hF⟩ := F w mg fa _ Y G.T.g hmg
  have hl : ns.length ≤ 1000000 := Nat.le_trans hlen hn2
  have of : ∀ p ∈ (csT K).map (·.1), ∃ q ∈ csT K, q.1 = p := fun p hp => List.mem_map.mp hp
  refine law_callG (cs := (csT K).map (·.1)) KX G.T.g G.T.b G.T.builtins G.T.nolimit hg (fun p hp => ?_) (fun p hp => ?_) (fun p hp => ?_) G.T.bmain hobj hints (Nat.le_trans hl (by decide)) (fun base H e0 TB hH hS => ?_) fun H e s' => hCX H s₁ e s'
  · obtain ⟨q, hq, rfl⟩ := of p hp
    exact TH.emp q hq
  · obtain ⟨q, hq, rfl⟩ := of p hp
    exact TH.out q hq
  · obtain ⟨q, hq, rfl⟩ := of p hp
    exact TH.hd q hq
  · refine hF base e0.mod.kin e0.mod.glob (fun q hq => TB q.1 (List.mem_map.mpr ⟨q, hq, rfl⟩)) callerA [] s₁ H [.ref a] [.ref a] _ _ rfl hr e0 (.cons rfl .nil) (law_lift hl hS fun p hp => ?_)
    obtain ⟨q, hq, rfl⟩ := List.mem_map.mp hp
    exact LamX.TabS.nil (hH q.1 (List.mem_map.mpr ⟨q, hq, rfl⟩))
/-- a plain promise is one where the guards are known, too -/
theorem fn_endG {P : Program} {w : World} {K : PySem.W.Frag} {mg : Str → Option Value} {base : Heap} {k l n : Nat} {f : Addr} {sp : SpD} (h : FnG P w K mg base k f n sp) (hk : k ≤ l) : FnRG P w K mg base (CXa P) l f (lift K sp) := fun A outer s H us vs Q E hgd hr e0 r hs =>
  codeAny_mono (h.1 A outer s H us vs Q E hgd (hr.mono hk) e0 r hs) fun r s' c => by
    cases r with
    | ok x => cases x <;> exact c
    | error e => exact ⟨w, c⟩
/-- what repr is asked of: data, or an empty dict -/
def RpV (K : PySem.W.Frag) (H : Hp) (v : V) (d : PyData) : Prop := Dp K H v d ∨ (d = .dict [] ∧ ∃ a, v = .ref a ∧ H a = some (.dK []))
def rRepr (K : PySem.W.Frag) : List V → Hp → VK → Prop := fun xs H Q => ∃ v d, xs = [v] ∧ RpV K H v d ∧ d.showable = true ∧ d.depth ≤ 100 ∧ d.shown.length ≤ sizeLine ∧ Q (.str d.shown) H
mutual
theorem dp_noDict {K : PySem.W.Frag} {H : Hp} : ∀ (d : PyData) {v : V}, Dp K H v d → d.hasDict = false
  | .none, _, _ => by simp [PyData.hasDict]
  | .bool _, _, _ => by simp [PyData.hasDict]
  | .int _, _, _ => by simp [PyData.hasDict]
  | .str _, _, _ => by simp [PyData.hasDict]
  | .list ds, _, h => by
    cases h with
    | lst _ h2 => simpa [PyData.hasDict] using dpAll_noDict ds h2
  | .tuple ds, _, h => by
    cases h with
    | tup _ h2 => simpa [PyData.hasDict] using dpAll_noDict ds h2
  | .dict _, _, h => by cases h
theorem dpAll_noDict {K : PySem.W.Frag} {H : Hp} : ∀ (ds : List PyData) {vs : List V}, DpAll K H vs ds → PyData.hasDictAll ds = false
  | [], _, _ => by simp [PyData.hasDictAll]
  | d :: ds, _, h => by
    cases h with
    | cons h1 h2 => simp [PyData.hasDictAll, dp_noDict d h1, dpAll_noDict ds h2]
end
section
variable {X : Cx} {k : Nat}
theorem call_reprG (hgd : X.A.guards = some []) (hr : Room k X.A) (K : PySem.W.Frag) (hK : X.K = K := by rfl) : CallR X (.builtin "repr") (rRepr K) := by
  subst hK
  intro pins s σ H xs us Q I r h
  obtain ⟨v, d, rfl, hd, hs, hdp, hz, q⟩ := h
  obtain ⟨u, rfl, ru⟩ := vals1 r
  have hu : X.A.units + (d.depth + 1) < cLine := by
    have := hr.un
    omega
  have fin : ∀ (a : Addr) (as : List Addr), Reads s.heap (.ref a) d as → (d.hasDict = true → sysModules ∉ as) → wpAny (model X.prog X.w) X.A (call (.builtin "repr") [.ref a]) (EP X pins σ Q) X.xe s := fun a as rd hd' =>
    repr_of_reads' rd hs hd' hgd hu (fun _ _ e => e) (fun h' t tk kp => ⟨.str d.shown, H, (I.kept kp), ⟨t, rfl⟩, q⟩) hz
  rcases hd with hd | ⟨rfl, a, rfl, ha⟩
  · cases hd with
    | non =>
      cases ru
      exact PySem.P.repr_of_none ⟨.str _, H, I.tok _, ⟨_, rfl⟩, q⟩
    | bl b =>
      cases ru
      exact PySem.P.repr_of_bool ⟨.str _, H, I.tok _, ⟨_, rfl⟩, q⟩
    | int i =>
      obtain ⟨t, rfl⟩ := ru
      exact PySem.P.repr_of_int (by simpa [PyData.showable] using hs) ⟨.str _, H, I.tok _, ⟨_, rfl⟩, q⟩
    | str x =>
      obtain ⟨t, rfl⟩ := ru
      exact PySem.P.repr_of_str ⟨.str _, H, I.tok _, ⟨_, rfl⟩, q⟩ hz
    | lst h1 h2 =>
      have hd := Dp.lst h1 h2
      obtain ⟨as, rd⟩ := Dp.reads I _ _ _ hd ru
      cases ru
      exact fin _ as rd fun z => by
        rw [dp_noDict _ hd] at z
        cases z
    | tup h1 h2 =>
      have hd := Dp.tup h1 h2
      obtain ⟨as, rd⟩ := Dp.reads I _ _ _ hd ru
      cases ru
      exact fin _ as rd fun z => by
        rw [dp_noDict _ hd] at z
        cases z
  · cases ru
    obtain ⟨_, hne, vs, kv, o, es, ep, ho, hE, hdd, _, hes, _⟩ := I.hok a _ ha
    cases kv
    have e0 : es.toList = [] := by
      cases q : es.toList with
      | nil => rfl
      | cons e r =>
        rw [q] at hes
        cases hes
    refine fin a _ (Reads.dict (kvs := []) ho hE.1 hdd (by rw [e0]; exact ReadsAll.nil) (by rw [e0]; exact ReadsAll.nil)) fun _ z => ?_
    rcases List.mem_append.mp z with z | z
    · rcases List.mem_cons.mp z with z | z
      · rw [← z] at hne
        simp at hne
      · cases z
    · cases z
end
mutual
/-- what a reader sees of it -/
def pyD : D → Option PyData
  | .non => some .none
  | .bl b => some (.bool b)
  | .int i => some (.int i)
  | .str x => some (.str x)
  | .lst ds => (pyL ds).map .list
  | .tup ds => (pyL ds).map .tuple
  | _ => none
def pyL : List D → Option (List PyData)
  | [] => some []
  | d :: ds => match pyD d, pyL ds with
    | some x, some xs => some (x :: xs)
    | _, _ => none
end
def pyT : D → Option PyData
  | .dic [] => some (.dict [])
  | d => pyD d
mutual
theorem pyD_dp {K : PySem.W.Frag} {H : Hp} : ∀ (d : D) {p : PyData} {v : V}, pyD d = some p → Rep K H d v → Dp K H v p
  | .non, _, _, e, r => by cases e; cases r; exact .non
  | .bl b, _, _, e, r => by cases e; cases r; exact .bl b
  | .int b, _, _, e, r => by cases e; cases r; exact .int b
  | .str b, _, _, e, r => by cases e; cases r; exact .str b
  | .lst ds, _, _, e, r => by
    obtain ⟨a, vs, rfl, h1, h2⟩ := r
    have e' : (pyL ds).map PyData.list = some _ := e
    cases q : pyL ds with
    | none => rw [q] at e'; cases e'
    | some xs =>
      rw [q] at e'
      cases e'
      exact .lst (SqL.of h1) (pyL_dp ds q h2)
  | .tup ds, _, _, e, r => by
    obtain ⟨a, vs, rfl, h1, h2⟩ := r
    have e' : (pyL ds).map PyData.tuple = some _ := e
    cases q : pyL ds with
    | none => rw [q] at e'; cases e'
    | some xs =>
      rw [q] at e'
      cases e'
      exact .tup h1 (pyL_dp ds q h2)
  | .ty _, _, _, e, _ => nomatch e
  | .ref _, _, _, e, _ => nomatch e
  | .ins _ _, _, _, e, _ => nomatch e
  | .dic _, _, _, e, _ => nomatch e
  | .scr _, _, _, e, _ => nomatch e
  | .ext _, _, _, e, _ => nomatch e
  | .exc _ _, _, _, e, _ => nomatch e
theorem pyL_dp {K : PySem.W.Frag} {H : Hp} : ∀ (ds : List D) {ps : List PyData} {vs : List V}, pyL ds = some ps → RepL K H ds vs → DpAll K H vs ps
  | [], _, _, e, r => by cases e; cases r; exact .nil
  | d :: ds, _, _, e, r => by
    obtain ⟨v, w, rfl, h1, h2⟩ := r
    unfold pyL at e
    cases q1 : pyD d with
    | none => rw [q1] at e; cases e
    | some x =>
      cases q2 : pyL ds with
      | none => rw [q1, q2] at e; cases e
      | some xs =>
        rw [q1, q2] at e
        cases e
        exact .cons (pyD_dp d q1 h1) (pyL_dp ds q2 h2)
end
theorem pyT_rp {K : PySem.W.Frag} {H : Hp} {d : D} {p : PyData} {v : V} (e : pyT d = some p) (r : Rep K H d v) : RpV K H v p := by
  unfold pyT at e
  split at e
  · cases e
    obtain ⟨a, ws, rfl, h1, h2⟩ := r
    have h3 : ws = [] := h2
    subst h3
    exact .inr ⟨rfl, a, rfl, h1⟩
  · exact .inl (pyD_dp d e r)
/-- d may be shown -/
structure Shows (d : D) (p : PyData) : Prop where
  py : pyT d = some p
  ok : p.showable = true
  dp : p.depth ≤ 100
  len : p.shown.length ≤ sizeLine
theorem c_repr {K : PySem.W.Frag} {O : List OD} {P : PT'} {d : D} {p : PyData} (h : Shows d p) (k : P (.v (.str p.shown)) O) : WC K (rRepr K) [.v d] O P := fun b' A H Q vs s r kv => by
  obtain ⟨v, _, rfl, ⟨_, e1, r1⟩, rfl⟩ := r
  cases e1
  exact ⟨v, p, rfl, pyT_rp h.py (Rep.ex hid_ex _ r1), h.ok, h.dp, h.len, kv _ _ A O H k s Nxt.refl ⟨_, rfl, rfl⟩⟩
end G

set_option Elab.async false
set_option linter.all false
set_option maxRecDepth 100000
set_option maxHeartbeats 4000000
namespace G
open PySem PySem.Spec PyProof.Rows L2 NdefX
/-- the only closure cell, the code object of the function at f -/
def closAt (K : PySem.W.Frag) (f : Addr) : Addr := match K.lookup f with
  | some ⟨_, _, .func fd, _⟩ => (match fd.closure with
    | [(_, c)] => c
    | _ => 0)
  | _ => 0
def codeAt (K : PySem.W.Frag) (f : Addr) : Addr := match K.lookup f with
  | some ⟨_, _, .func fd, _⟩ => (match fd.code with
    | .ref c => c
    | _ => 0)
  | _ => 0
structure ExD where
  cls : Str
  qual : Str
  params : Arguments
  body : List Stmt
  scope : Scope
  file : Str
  fs : List Str
def ExD.f (K : PySem.W.Frag) (d : ExD) : Addr := He.ma K (He.ga K d.cls) "__init__"
abbrev FnE : Type := Option (Str × Str × Arguments × FuncBody × Scope × Addr × List Str × Addr)
def fnE (K : PySem.W.Frag) (f : Addr) : FnE := match K.lookup f with
  | some ⟨_, _, .func fd, _⟩ => some (fd.name, fd.qualname, fd.params, fd.body, fd.scope, fd.globals, fd.closure.map (·.1), fd.builtins)
  | _ => none
def ExD.val (d : ExD) : FnE := some ("__init__", d.qual, d.params, .stmts d.body, d.scope, mainGlobals, ["__class__"], builtinsNs)
def ExD.nf (K : PySem.W.Frag) (d : ExD) : NF := ⟨"__init__", d.qual, d.params, d.body, d.scope, [("__class__", closAt K (d.f K))], codeAt K (d.f K)⟩
def noneB : Value → Bool
  | .none => true
  | _ => false
theorem noneB_ok {v : Value} (h : noneB v = true) : v = .none := by
  cases v with
  | none => rfl
  | _ => cases h
def refB : Value → Bool
  | .ref _ => true
  | _ => false
def funB (K : PySem.W.Frag) (f : Addr) : Bool := match K.lookup f with
  | some ⟨_, _, .func fd, _⟩ => noneB fd.defaults && (noneB fd.kwdefaults && (decide (fd.annotations = none) && refB fd.code))
  | _ => false
theorem fun_of {K : PySem.W.Frag} {d : ExD} (e : fnE K (d.f K) = d.val) (c : funB K (d.f K) = true) : ∃ oc od doc pm ctv osl, K.lookup (d.f K) = some ⟨oc, od, .func ((d.nf K).fd doc pm ctv), osl⟩ := by
  unfold fnE at e
  unfold funB at c
  unfold ExD.nf closAt codeAt
  cases q : K.lookup (d.f K) with
  | none =>
    rw [q] at c
    cases c
  | some o =>
    obtain ⟨oc, od, dt, osl⟩ := o
    rw [q] at c e
    cases dt with
    | func fd =>
      obtain ⟨n1, n2, n3, n4, n5, n6, n7, n8, n9, n10, n11, n12, n13, n14, n15⟩ := fd
      have e2 : (some (n1, n2, n3, n4, n5, n6, n7.map (·.1), n15) : FnE) = (some (("__init__" : Str), d.qual, d.params, FuncBody.stmts d.body, d.scope, mainGlobals, [("__class__" : Str)], builtinsNs) : FnE) := e
      simp only [Option.some.injEq, Prod.mk.injEq] at e2
      obtain ⟨h1, h2, h3, h4, h5, h6, h7, h8⟩ := e2
      have c2 : (noneB n8 && (noneB n9 && (decide (n12 = none) && refB n13))) = true := c
      obtain ⟨k1, c2⟩ := He.ba c2
      obtain ⟨k2, c2⟩ := He.ba c2
      obtain ⟨k3, k4⟩ := He.ba c2
      have k1 := noneB_ok k1
      have k2 := noneB_ok k2
      have k3 := of_decide_eq_true k3
      obtain ⟨c0, k4⟩ : ∃ c0, n13 = .ref c0 := by
        cases n13 with
        | ref c0 => exact ⟨c0, rfl⟩
        | _ => cases k4
      obtain ⟨cc, k5⟩ : ∃ cc, n7 = [(("__class__" : Str), cc)] := by
        cases n7 with
        | nil => cases h7
        | cons p r =>
          cases r with
          | nil =>
            obtain ⟨p1, p2⟩ := p
            have z : p1 = ("__class__" : Str) := by simpa using h7
            exact ⟨p2, by rw [z]⟩
          | cons _ _ => simp at h7
      subst h1 h2 h3 h4 h5 h6 h8 k1 k2 k3 k4 k5
      exact ⟨oc, od, n10, n11, n14, osl, rfl⟩
    | _ => cases c
def oexB (K : PySem.W.Frag) (C : Addr) : Bool := match K.lookup C with
  | some ⟨.type "type", _, .cls cd, sl⟩ => (match cd.mro, sl.toList with
    | .ref C' :: bm, [_, _, _, _, some (.builtin n), _] => C' == C && n == "ValueError.__new__" && !cd.hasDel && cd.hasDict && PySem.HandSPX.refsVE bm
    | _, _ => false)
  | _ => false
theorem oex_of {K : PySem.W.Frag} {C : Addr} (q : oexB K C = true) : ∃ nm qn N bs bm sn sub ab col dd k0 k1 k2 k3 k5, K.lookup C = some (excClassObj nm qn C N bs bm true sn sub ab col dd k0 k1 k2 k3 k5 "ValueError.__new__") ∧ PySem.HandSPX.refsVE bm = true := by
  unfold oexB at q
  split at q
  · rename_i dd cd sl ho
    split at q
    · rename_i C' bm k0 k1 k2 k3 n k5 hm hs
      simp only [Bool.and_eq_true, beq_iff_eq, Bool.not_eq_true'] at q
      obtain ⟨⟨⟨⟨rfl, rfl⟩, hdel⟩, hd0⟩, ht⟩ := q
      obtain ⟨nm, bs, mro, ns, qn, hd, sn, sub, ab, col, del⟩ := cd
      dsimp only at hm hdel hd0
      subst hm hdel hd0
      have hsl : sl = #[k0, k1, k2, k3, some (.builtin "ValueError.__new__"), k5] := by
        obtain ⟨l⟩ := sl
        simp only at hs
        rw [hs]
      subst hsl
      exact ⟨nm, qn, ns, bs, bm, sn, sub, ab, col, dd, k0, k1, k2, k3, k5, ho, ht⟩
    · cases q
  · cases q
/-- the class of an own exception -/
structure ExK (K : PySem.W.Frag) (C : Addr) : Prop where
  oex : OexC K C
  exc : ExcC K C
  xf : XfC K C
def exkB (K : PySem.W.Frag) (C : Addr) : List Bool := [oexB K C, decide (PySem.W.findIn K (.ref C) "__setattr__" = some (some (.builtin "object.__setattr__"))), decide (PySem.W.subIn K (.ref C) (.type "BaseException") = some true), decide (PySem.W.typeIn K (.ref C) = some (.type "type")), PySem.W.keepIn K (.ref C),
  decide (PySem.W.findIn K (.ref C) "__getattribute__" = some (some (.builtin "BaseException.__getattribute__"))), decide (PySem.W.findIn K (.ref C) "__getattr__" = some none), PySem.W.hasDictIn K C, decide (PySem.W.findIn K (.ref C) "__class__" = some (some (.builtin "object.__class__"))),
  decide (PySem.W.specialIn K (.builtin "object.__class__") "__get__" = some (some (.builtin "getset_descriptor.__get__"))), decide (PySem.W.takesIn K (.builtin "object.__class__") = some true), decide (PySem.W.mroIn K C (.type "object") = some true)]
theorem exk_ok {K : PySem.W.Frag} {C : Addr} (h : (exkB K C).all id = true) : ExK K C := by
  have g : ∀ i b, (exkB K C)[i]? = some b → b = true := fun i b hb => List.all_eq_true.mp h b (List.mem_of_getElem? hb)
  exact ⟨⟨oex_of (g 0 _ rfl), of_decide_eq_true (g 1 _ rfl), of_decide_eq_true (g 2 _ rfl), of_decide_eq_true (g 3 _ rfl), g 4 _ rfl⟩,
    ⟨of_decide_eq_true (g 5 _ rfl), of_decide_eq_true (g 6 _ rfl), of_decide_eq_true (g 2 _ rfl), g 7 _ rfl, of_decide_eq_true (g 8 _ rfl), of_decide_eq_true (g 9 _ rfl), of_decide_eq_true (g 10 _ rfl), of_decide_eq_true (g 11 _ rfl)⟩,
    ⟨of_decide_eq_true (g 5 _ rfl), of_decide_eq_true (g 6 _ rfl), of_decide_eq_true (g 2 _ rfl), g 7 _ rfl⟩⟩
def cellB (K : PySem.W.Frag) (cc C : Addr) : Bool := match K.lookup cc with
  | some ⟨_, _, .cell (some (.ref a)), _⟩ => decide (a = C)
  | _ => false
theorem cell_of {K : PySem.W.Frag} {cc C : Addr} (h : cellB K cc C = true) : ∃ oc od osl, K.lookup cc = some ⟨oc, od, .cell (some (.ref C)), osl⟩ := by
  unfold cellB at h
  split at h
  · rename_i oc od a osl q
    exact ⟨oc, od, osl, by rw [← of_decide_eq_true h]; exact q⟩
  · cases h
def fileB (K : PySem.W.Frag) (c : Addr) (file : Str) : Bool := match K.lookup c with
  | some ⟨_, _, .fields vs, _⟩ => (match (vs[2]? : Option Value) with
    | some (.str fl _) => decide (fl = file)
    | _ => false)
  | _ => false
theorem file_of {K : PySem.W.Frag} {c : Addr} {file : Str} (h : fileB K c file = true) : ∃ oc od vs osl tf, K.lookup c = some ⟨oc, od, .fields vs, osl⟩ ∧ vs[2]? = some (.str file tf) := by
  unfold fileB at h
  split at h
  · rename_i oc od vs osl q
    split at h
    · rename_i fl tf hv
      exact ⟨oc, od, vs, osl, tf, q, by rw [← of_decide_eq_true h]; exact hv⟩
    · cases h
  · cases h
/-- all that is asked of an own exception with an __init__ of its own -/
def ExD.oks (K : PySem.W.Frag) (d : ExD) : List Bool := [(exkB K (He.ga K d.cls)).all id, funB K (d.f K), PySem.W.codeIn K (.ref (codeAt K (d.f K))) d.qual, cellB K (closAt K (d.f K)) (He.ga K d.cls), fileB K (codeAt K (d.f K)) d.file, PySem.W.keepIn K (.ref (d.f K)),
  decide (PySem.W.nsIn K cStatics "thirdparty.any" = some none), decide (PySem.W.nsIn K mainGlobals "super" = some none), decide (PySem.W.ks_superIn K (He.ga K d.cls) (He.ga K d.cls) "__init__" = some (some (.builtin "ValueError.__init__"))), decide (PySem.W.subIn K (.ref (He.ga K d.cls)) (.type "ValueError") = some true),
  decide (PySem.W.mroIn K (He.ga K d.cls) (.ref (He.ga K d.cls)) = some true), decide (PySem.W.findIn K (.ref (He.ga K d.cls)) "__init__" = some (some (.ref (d.f K)))), decide (PySem.W.typeIn K (.ref (d.f K)) = some (.type "function")), d.fs.all fun f => decide (PySem.W.findIn K (.ref (He.ga K d.cls)) f = some none)]
structure ExOk (K : PySem.W.Frag) (d : ExD) (ar : Str) : Prop where
  k : ExK K (He.ga K d.cls)
  init : GX.InitC K (He.ga K d.cls) (d.f K) (closAt K (d.f K)) (d.nf K) ar
  file : ∃ oc od vs osl tf, K.lookup (d.nf K).c = some ⟨oc, od, .fields vs, osl⟩ ∧ vs[2]? = some (.str d.file tf)
  iC : PySem.W.findIn K (.ref (He.ga K d.cls)) "__init__" = some (some (.ref (d.f K)))
  tI : PySem.W.typeIn K (.ref (d.f K)) = some (.type "function")
  no : ∀ f ∈ d.fs, PySem.W.findIn K (.ref (He.ga K d.cls)) f = some none
theorem ExOk.of {K : PySem.W.Frag} {d : ExD} {ar : Str} (h : (d.oks K).all id = true) (e : fnE K (d.f K) = d.val) (hp : ∃ x, (d.params.posonlyargs ++ d.params.args).head? = some x ∧ x.arg = ar) : ExOk K d ar := by
  have g : ∀ i b, (d.oks K)[i]? = some b → b = true := fun i b hb => List.all_eq_true.mp h b (List.mem_of_getElem? hb)
  have k := exk_ok (g 0 _ rfl)
  have hf := file_of (g 4 _ rfl)
  refine ⟨k, ⟨k.oex, fun_of e (g 1 _ rfl), g 2 _ rfl, rfl, cell_of (g 3 _ rfl), ?_, g 5 _ rfl, of_decide_eq_true (g 6 _ rfl), of_decide_eq_true (g 7 _ rfl), of_decide_eq_true (g 8 _ rfl), of_decide_eq_true (g 9 _ rfl), of_decide_eq_true (g 10 _ rfl), hp⟩, hf, of_decide_eq_true (g 11 _ rfl), of_decide_eq_true (g 12 _ rfl), fun f hm => ?_⟩
  · obtain ⟨oc, od, vs, osl, tf, h1, h2⟩ := hf
    exact ⟨oc, od, vs, osl, d.file, tf, h1, h2⟩
  · have z := List.all_eq_true.mp (g 13 _ rfl) f hm
    exact of_decide_eq_true z
/-- what is asked of the program itself -/
structure POk (P : Program) (file : Str) : Prop where
  file : P.main.file = file
  sup : (P.main.scope.names.lookup ("super" : Str)).isSome = false
/-- {} -/
theorem w_dic0 {K : PySem.W.Frag} {W : WX} {O : List OD} {ts : List T} {P : PT'} {X : XX} (k : P (.v (.dic [])) O) : WE K W tDNewK O ts P X := fun b A σ H Q s rs kv kx => fun a ha => by
  obtain ⟨s2, n2, q2⟩ := s.lay ha (.dK [])
  exact kv _ _ A O _ k s2 n2 ⟨_, rfl, a, [], rfl, q2, rfl⟩
section
variable {X : Cx}
def KwB (K : PySem.W.Frag) (fd : FuncData) (ps : List Str) : Prop := ∀ (s : Shared) (ws : List Value), K.In s.heap → ws.length = ps.length → BindsTo s fd ⟨[], ps.zip ws⟩ (ps.zip ws)
theorem kwB {K : PySem.W.Frag} {x qual : Str} {params : Arguments} {body : List Stmt} {scope : Scope} {f : Addr} {fd fd2 : FuncData} {ps : List Str} (F : FunD K x qual params body scope [] [] f fd) (lk : LkF K f fd2)
    (h : ∀ (kV doc pm : Value) (an : Option Addr) (cdv ct : Value) (ws : List Value), ws.length = ps.length → bindArgs (PySem.W.fnOf x qual params body scope .none kV doc pm an cdv ct) ⟨[], ps.zip ws⟩ = pure (ps.zip ws)) : KwB K fd2 ps := by
  obtain ⟨oc2, od2, osl2, e2⟩ := lk
  obtain ⟨oc, od, dV, kV, doc, pm, an, cdv, ct, osl, rfl, lk, hcd, hD, hK⟩ := F.ex
  rw [lk] at e2
  injection e2 with e2
  injection e2 with _ _ e2
  injection e2 with e2
  subst e2
  rcases hD with ⟨_, rfl⟩ | ⟨z, _⟩
  · exact fun s ws _ hl => BindsTo.of_eq (h kV doc pm an cdv ct ws hl)
  · exact absurd rfl z
variable {CX : CXT} {k : Nat} {f : Addr} {fd : FuncData} {ps : List Str} {sp : Sp} {E : XK} {x : Str} {kws : List Keyword} {tk : TA} {p pos : Pos}
end
end G

set_option Elab.async false
set_option linter.all false
set_option maxRecDepth 100000
set_option maxHeartbeats 4000000
namespace G
open PySem PySem.Spec PyProof.Rows L2 LamX
section
variable {X : Cx} {pins : List (Addr × Obj)} {σ : L2.St} {H HZ : Hp} {s s1 : Shared}
end
/-- the def that got the lambda: its body's reading, whatever the lambda's is -/
def GivesS (X : Cx) (Ng : List Str) (x : Str) (sg : Scope) (g : Addr) (cdg : Value) (bg : List Stmt) (a : Str) (th : (WX → TE) → TS) : Prop :=
  ∀ (s : Shared) (H : Hp) (ta : WX → TE),
    (∀ (W : WX) (pn : List (Addr × Obj)) (xe : Value → Shared → Prop) (p1 p2 : Pos), Takes ((cxOf C8.CX0 X.prog X.w X.K X.mg X.base Ng x sg g cdg X.A X.stack s H C8.E0).tr pn xe) W →
      PE ((cxOf C8.CX0 X.prog X.w X.K X.mg X.base Ng x sg g cdg X.A X.stack s H C8.E0).tr pn xe) (.Call (.Name a p1) [] [] p2) (ta W)) →
    PSs (cxOf C8.CX0 X.prog X.w X.K X.mg X.base Ng x sg g cdg X.A X.stack s H C8.E0).nox bg (th ta)
section
variable {X : Cx}
end
section
variable {K : PySem.W.Frag} {W : WX} {O : List OD} {ts ts0 : List T} {P : PT'} {X : XX} {t : XK → TE} {σ0 : L2.St} {f c' : Addr} {q : Str} {i : Nat}
end
/-- f's code object, its table, the name of its lambdas -/
structure LamF (K : PySem.W.Frag) (f : Addr) (q : Str) (P : Addr) : Prop where
  cs : ((codeAt K f, P), q) ∈ csT K
  un : ∀ p ∈ tabT K, p.1 = P → p.2 = q
theorem LamF.tab {K : PySem.W.Frag} {f : Addr} {q : Str} {P : Addr} (h : LamF K f q P) : (P, q) ∈ tabT K := List.mem_map.mpr ⟨_, h.cs, rfl⟩
/-- the tables at the head: in the part's words -/
def codeHdB (K : PySem.W.Frag) (c P : Addr) : Bool := match K.lookup c with
  | some ⟨cl, _, .fields vs, _⟩ => decide (cl = .type "code") && (decide ((vs[11]? : Option Value) = some (.ref P)) && ((match vs.getD 18 .none with
    | .str _ _ => true
    | _ => false) && ((match vs.getD 7 .none with
    | .int _ _ => true
    | _ => false) && ((match vs.getD 9 .none with
    | .bool _ => true
    | _ => false) && ((match vs.getD 10 .none with
    | .int _ _ => true
    | _ => false) && !decide (c = P))))))
  | _ => false
theorem codeHdB_ok {K : PySem.W.Frag} {h : Heap} {c P : Addr} (X : K.In h) (e : codeHdB K c P = true) : PySem.W.CodeHd h c P := by
  unfold codeHdB at e
  split at e
  · rename_i cl od vs osl ho
    obtain ⟨h1, e⟩ := He.ba e
    obtain ⟨h2, e⟩ := He.ba e
    obtain ⟨h3, e⟩ := He.ba e
    obtain ⟨h4, e⟩ := He.ba e
    obtain ⟨h5, e⟩ := He.ba e
    obtain ⟨h6, h7⟩ := He.ba e
    have h1 := of_decide_eq_true h1
    have h2 := of_decide_eq_true h2
    have g11 : vs.getD 11 .none = .ref P := by
      rw [Array.getD_eq_getD_getElem?, h2] <;> rfl
    obtain ⟨file, tf, h3⟩ : ∃ file tf, vs.getD 18 .none = .str file tf := by
      cases q : vs.getD 18 .none with
      | str a b => exact ⟨a, b, rfl⟩
      | _ => rw [q] at h3; cases h3
    obtain ⟨flags, tg, h4⟩ : ∃ file tf, vs.getD 7 .none = .int file tf := by
      cases q : vs.getD 7 .none with
      | int a b => exact ⟨a, b, rfl⟩
      | _ => rw [q] at h4; cases h4
    obtain ⟨inF, h5⟩ : ∃ inF, vs.getD 9 .none = .bool inF := by
      cases q : vs.getD 9 .none with
      | bool a => exact ⟨a, rfl⟩
      | _ => rw [q] at h5; cases h5
    obtain ⟨text, tt, h6⟩ : ∃ file tf, vs.getD 10 .none = .int file tf := by
      cases q : vs.getD 10 .none with
      | int a b => exact ⟨a, b, rfl⟩
      | _ => rw [q] at h6; cases h6
    refine ⟨_, vs, file, tf, flags, tg, inF, text, tt, X _ _ ho, h1, rfl, h2, g11, h3, h4, h5, h6, fun z => ?_⟩
    rw [decide_eq_true z] at h7
    cases h7
  · cases e
/-- looked at where the heap's objects are at hand -/
def tabsB (g : Addr → Option Obj) (K : PySem.W.Frag) : Bool := (csT K).all fun p => codeHdB K p.1.1 p.1.2 && ((K.lookup p.1.2).isNone && (match g p.1.2 with
  | some o => He.emptyTab o
  | none => false))
theorem tabsB_ok {K : PySem.W.Frag} {h : Heap} (X : K.In h) (e : tabsB h.get? K = true) : TabH K h := by
  have key : ∀ p ∈ csT K, codeHdB K p.1.1 p.1.2 = true ∧ K.lookup p.1.2 = none ∧ h.get? p.1.2 = some { cls := .none, data := .fields #[] } := fun p hp => by
    obtain ⟨h1, h2⟩ := He.ba (List.all_eq_true.mp e p hp)
    obtain ⟨h3, h4⟩ := He.ba h2
    refine ⟨h1, by simpa using h3, ?_⟩
    cases q : h.get? p.1.2 with
    | none => rw [q] at h4; cases h4
    | some o =>
      rw [q] at h4
      rw [He.emptyTab_eq h4]
  exact ⟨fun p hp => (key p hp).2.2, fun p hp => (key p hp).2.1, fun p hp => codeHdB_ok X (key p hp).1⟩
theorem TabH.keeps {K : PySem.W.Frag} {h h' : Heap} (t : TabH K h) (k : ∀ b o, h.get? b = some o → h'.get? b = some o) : TabH K h' := ⟨fun p hp => k _ _ (t.emp p hp), t.out, fun p hp => (t.hd p hp).keeps k⟩
def KwR (K : PySem.W.Frag) (fd : FuncData) (ps : List Str) : Prop := ∀ (s : Shared) (ws : List Value), K.In s.heap → ws.length = ps.length → BindsTo s fd ⟨[], ps.reverse.zip ws⟩ (ps.zip ws.reverse)
theorem kwR {K : PySem.W.Frag} {x qual : Str} {params : Arguments} {body : List Stmt} {scope : Scope} {f : Addr} {fd fd2 : FuncData} {ps : List Str} (F : FunD K x qual params body scope [] [] f fd) (lk : LkF K f fd2)
    (h : ∀ (kV doc pm : Value) (an : Option Addr) (cdv ct : Value) (ws : List Value), ws.length = ps.length → bindArgs (PySem.W.fnOf x qual params body scope .none kV doc pm an cdv ct) ⟨[], ps.reverse.zip ws⟩ = pure (ps.zip ws.reverse)) : KwR K fd2 ps := by
  obtain ⟨oc2, od2, osl2, e2⟩ := lk
  obtain ⟨oc, od, dV, kV, doc, pm, an, cdv, ct, osl, rfl, lk, hcd, hD, hK⟩ := F.ex
  rw [lk] at e2
  injection e2 with e2
  injection e2 with _ _ e2
  injection e2 with e2
  subst e2
  rcases hD with ⟨_, rfl⟩ | ⟨z, _⟩
  · exact fun s ws _ hl => BindsTo.of_eq (h kV doc pm an cdv ct ws hl)
  · exact absurd rfl z
def tCallV (sp : Sp) (E : XK) (t : TA) : TE := fun σ H Q => t σ H fun zs H1 => ∃ v u, zs = [v, u] ∧ sp [u, v] H1 Q E
section
variable {X : Cx} {CX : CXT} {k : Nat} {f : Addr} {fd : FuncData} {ps : List Str} {sp : Sp} {E : XK} {x : Str} {kws : List Keyword} {tk : TA} {p pos : Pos}
theorem pe_callKr (F : FnOk X.prog X.w X.K X.mg X.base CX k f fd ps sp) (hr : Room k X.A) (hg : Gl X x) (hm : X.mg x = some (.ref f)) (hk : PySem.W.keepIn X.K (.ref f) = true) (hb : KwR X.K fd ps) (hx : Passes CX X E)
    (hkw : PK X kws tk) (hall : (backToKw pos (keywordEach kws X.env)).all (·.1.isSome) = true := by rfl) (hks : (backToKw pos (keywordEach kws X.env)).filterMap (·.1) = ps.reverse := by rfl)
    (hdb : (x == ("__debug__" : Str)) = false := by decide)
    (hpl : ((backTo pos (starEach [] X.env)).any (·.1) || (backToKw pos (keywordEach kws X.env)).any (·.1.isNone)) = false := by rfl) :
    PE X (.Call (.Name x p) [] kws pos) (tCallV sp E tk) := by
  refine ⟨fun pins s σ H Q I h => ?_⟩
  refine wpAny_Call_Name_kw (ld_glob I hg hm ?_ hdb)
  refine PySem.W.callWith_KW0 (h₀ := X.base) I.ok.mod.kin hk hall (thn (hkw.run pos pins s σ H _ I h) fun ws s2 ⟨zs, H2, I2, rz, v, u, ez, q2⟩ => ⟨I2.kIn, ?_⟩) hpl
  subst ez
  rw [hks]
  have hl0 : ([u, v] : List V).length = ps.length := F.len _ _ _ _ q2
  have hl : ws.length = ps.length := by
    rw [← rz.length]
    exact hl0
  have rv : Vals [u, v] ws.reverse := by
    cases rz with
    | cons r1 r2 =>
      cases r2 with
      | cons r2 r3 =>
        cases r3
        exact .cons r2 (.cons r1 .nil)
  show wpAny _ _ (call (.ref f) [] (ps.reverse.zip ws)) _ _ _
  refine wpAny_call (codeAny_mono (F.run X.A X.stack s2 H2 ⟨[], ps.reverse.zip ws⟩ ws.reverse [u, v] Q E hr I2.env0 (hb s2 ws I2.kIn hl) rv q2) fun r s' hq => ?_)
  cases r with
  | error e => exact hx pins σ H2 s2 e s' I2 hq
  | ok fl =>
    cases fl with
    | ret u => exact I2.after hq
    | next => exact False.elim hq
    | brk => exact False.elim hq
    | cont => exact False.elim hq
end
section
variable {K : PySem.W.Frag} {W : WX} {O : List OD} {ts : List T} {P : PT'} {X : XX} {sp : SpD} {tr : TA}
theorem w_fnV (h : WA K W tr O ts (fun xs O1 => ∃ d e, xs = [.v d, .v e] ∧ sp [.v e, .v d] [] (fun t _ => (∃ d, t = .v d) ∧ P t O1) (fun _ _ _ => False)) X) : WE K W (tCallV (lift K sp) E0 tr) O ts P X := fun b A σ H Q s rs kv kx =>
  h b A σ H _ s rs (fun xs vs A1 O1 H1 p1 s1 n1 r1 => by
    obtain ⟨d, e, rfl, p⟩ := p1
    obtain ⟨v, _, rfl, r2, u, _, rfl, r3, rfl⟩ := r1
    exact ⟨v, u, rfl, lift_p (W := fun _ _ _ _ => False) (X := fun _ _ _ => False) (σ := σ) s1 (xs := [.v e, .v d]) ⟨u, _, rfl, r3, v, _, rfl, r2, rfl⟩ rfl (fun C d H z => z) p (kv.nxt n1) (fun C fs A' O' H' d z => z.elim)⟩) kx
end
end G

set_option Elab.async false
set_option linter.all false
set_option maxRecDepth 100000
set_option maxHeartbeats 4000000
namespace G
open PySem PySem.Spec PyProof.Rows L2
end G

set_option Elab.async false
set_option linter.all false
set_option maxRecDepth 100000
set_option maxHeartbeats 4000000
namespace G
open PySem PySem.Spec PyProof.Rows L2
section
variable {K : PySem.W.Frag} {W : WX} {O : List OD} {ts : List T} {P : PT'} {X : XX} {g : TG} {te : TE} {vs : List Nat}
/-- [f i for i in range(n) if p i], without effects -/
theorem lcF_R {tt : TT} {n : Nat} (p : Nat → Bool) (f : Nat → D) (hz : n ≤ 1000000)
    (hs : ∀ i acc, i < n → WG K W g (.v (.int (i : Nat))) (O ++ [.lst acc]) (wipeT ts vs) (fun ts2 O2 => WT K W tt O2 ts2 (fun c O3 => c = p i ∧ O3 = O ++ [.lst acc] ∧ (p i = true → WE K W te (O ++ [.lst acc]) ts2 (fun y O4 => y = .v (f i) ∧ O4 = O ++ [.lst acc]) X0)) X0))
    (hd : P (.v (.lst (((List.range n).filter p).map f))) O) : LcExT K W g tt te vs P ts (itR 0 1 n) O := by
  have hit : ∀ i, i < n → itR 0 1 n i = some (.v (.int (i : Nat))) := fun i hi => by
    unfold itR
    rw [if_pos hi, Int.zero_add, Int.mul_one]
  refine ⟨n, fun i acc O' => O' = O ∧ acc = ((List.range i).filter p).map f, fun i hi z => (by rw [hit i hi] at z; cases z), ?_, ⟨rfl, rfl⟩, fun i acc O' h => by rw [h.1], fun i t acc O' hi ht h => ?_, fun acc O' h => ?_⟩
  · unfold itR
    rw [if_neg (Nat.lt_irrefl n)]
  · obtain ⟨rfl, rfl⟩ := h
    rw [hit i hi] at ht
    cases ht
    have hl : (((List.range i).filter p).map f).length < sizeLine := by
      rw [List.length_map]
      exact Nat.lt_of_le_of_lt (List.length_filter_le _ _) (Nat.lt_of_lt_of_le (show (List.range i).length < 1000000 by rw [List.length_range]; omega) (Nat.le_of_ble_eq_true rfl))
    refine (hs i _ hi).imp fun ts2 O2 q b A σ H Q s rs kb kx => q b A σ H Q s rs (fun c A' O' H' q2 => kb c A' O' H' ?_) kx
    obtain ⟨rfl, rfl, q3⟩ := q2
    refine ⟨fun hp => (q3 hp).imp fun y O4 q4 => ?_, fun hp => ⟨_, rfl, rfl, ?_⟩⟩
    · obtain ⟨rfl, rfl⟩ := q4
      refine ⟨_, _, rfl, rfl, hl, rfl, ?_⟩
      rw [List.range_succ, List.filter_append, List.map_append, List.filter_cons_of_pos hp] <;> rfl
    · rw [List.range_succ, List.filter_append, List.filter_cons_of_neg (by rw [hp]; exact Bool.false_ne_true)]
      simp
  · obtain ⟨rfl, rfl⟩ := h
    exact hd
end
theorem cutD_drop {xs : List D} {n : Nat} (h : n ≤ xs.length) : cutD xs (some (n : Int)) none = xs.drop n := by
  unfold cutD
  rw [HT.sIx_none, HT.sIx_nat, Nat.min_eq_left h, List.take_of_length_le (by rw [List.length_drop]; exact Nat.le_refl _)]
end G

set_option Elab.async false
set_option linter.all false
set_option maxRecDepth 100000
set_option maxHeartbeats 4000000
namespace G
open PySem PySem.Spec PyProof.Rows L2
section
variable {K : PySem.W.Frag} {W : WX} {O : List OD} {ts : List T} {P : PT'} {X : XX} {sp : SpD} {tr : TA} {E : XK}
/-- C(..) of an __init__ with a star: m values behind self, the rest as a tuple -/
theorem w_makeS {C : Addr} {m : Nat} (h : WA K W tr O ts (fun xs O1 => ∃ ds, unv xs = some ds ∧ m ≤ ds.length ∧ ds.length ≤ 1000000 ∧ sp (.own 0 :: ((ds.take m).map T.v ++ [.v (.tup (ds.drop m))])) [.ins C []] (fun t O' => t = .v .non ∧ ∃ fs, O' = [.ins C fs] ∧ P (.v (.ins C fs)) O1) (fun _ _ _ => False)) X) :
    WE K W (StX.tMakeR C (liftS K (m + 1) sp) E0 tr) O ts P X := fun b A σ H Q s rs kv kx =>
  h b A σ H _ s rs (fun xs vs A1 O1 H1 p1 s1 n1 r1 x dx hx hdx hne => by
    obtain ⟨ds, e, hn, hz, p⟩ := p1
    have r2 := r1.plain e
    have hl : vs.length = ds.length := r2.length
    obtain ⟨ra, rb⟩ := repL_split r2 m
    refine ⟨V.ref x :: vs.take m, vs.drop m, (by rw [List.cons_append, List.take_append_drop]), (by rw [List.length_cons, List.length_take]; omega), Nat.le_trans (show (vs.drop m).length ≤ 1000000 by rw [List.length_drop]; omega) (Nat.le_of_ble_eq_true rfl), fun p' hp' => ?_⟩
    obtain ⟨s2, n2⟩ := s1.lay2 hdx (.own x)
    have hx2 : upd H1 dx (.own x) x = none := by
      rw [upd_ne hne.symm]
      exact hx
    obtain ⟨s3, n3⟩ := s2.own (u := .ins C dx []) (o := .ins C []) hx2 ⟨dx, [], upd_same, rfl⟩
    obtain ⟨s3, n3', f3⟩ := s3.lay hp' (.tup (vs.drop m))
    have n13 := (n2.trans n3).trans n3'
    have e := unv_app (ds := ds.take m) (d := .tup (ds.drop m))
    have hat : (A1 ++ [x])[A1.length]? = some x := by
      rw [List.getElem?_append_right (Nat.le_refl _), Nat.sub_self]
      exact rfl
    have hoat : (O1 ++ [OD.ins C []])[A1.length]? = some (.ins C []) := by
      rw [s1.len, List.getElem?_append_right (Nat.le_refl _), Nat.sub_self]
      exact rfl
    have tr : tr1 A1.length (.own A1.length :: ((ds.take m).map T.v ++ [.v (.tup (ds.drop m))])) = some (.own 0 :: ((ds.take m).map T.v ++ [.v (.tup (ds.drop m))])) := by
      have z : ∀ {xs : List T} {ds : List D}, unv xs = some ds → tr1 A1.length xs = some xs := fun {xs} => by
        induction xs with
        | nil => exact fun _ => rfl
        | cons t xs ih =>
          intro ds e
          cases t with
          | v d =>
            have e3 : (unv xs).map (d :: ·) = some ds := e
            cases q : unv xs with
            | none =>
              rw [q] at e3
              cases e3
            | some es =>
              show (tr1 A1.length xs).map (T.v d :: ·) = _
              rw [ih q]
              exact rfl
          | own j => cases e
          | no => cases e
          | clo R f => cases e
      show (if A1.length = A1.length then (tr1 A1.length ((ds.take m).map T.v ++ [.v (.tup (ds.drop m))])).map (T.own 0 :: ·) else none) = _
      rw [if_pos rfl, z e]
      exact rfl
    refine lift_1 (W := fun _ _ _ _ => False) (X := fun _ _ _ => False) (σ := σ) (P := fun t O' => t = .v .non ∧ ∃ fs, O' = O1 ++ [.ins C fs] ∧ P (.v (.ins C fs)) O1) s3 (xs := .own A1.length :: ((ds.take m).map T.v ++ [.v (.tup (ds.drop m))])) ⟨.ref x, vs.take m ++ [V.ref p'], rfl, ⟨x, hat, rfl⟩, repTs_app (ys := [.v (.tup (ds.drop m))]) ⟨.ref p', [], rfl, ⟨_, rfl, p', vs.drop m, rfl, SqT.of f3, rb.ex n13.ext⟩, rfl⟩ (ra.ex n13.ext)⟩ tr hoat rfl (fun C d H z => z) ?_
      (fun t v A' O' H' q s' n' rt => ?_) (fun C fs A' O' H' d z => z.elim)
    · have x0 : (fun (C' : Value) (fs : Option (List (Str × D))) (O' : List OD) => ∃ o', O' = [o'] ∧ (fun _ _ _ => False : XX) C' fs ((O1 ++ [OD.ins C []]).set A1.length o')) = fun _ _ _ => False := by
        funext C fs O'
        exact propext ⟨fun ⟨_, _, z⟩ => z, fun z => z.elim⟩
      rw [x0]
      have pq : (fun (t : T) (O' : List OD) => ∃ o', O' = [o'] ∧ okR t = true ∧ (un1 A1.length t = .v .non ∧ ∃ fs, (O1 ++ [OD.ins C []]).set A1.length o' = O1 ++ [.ins C fs] ∧ P (.v (.ins C fs)) O1)) = fun t O' => t = .v .non ∧ ∃ fs, O' = [.ins C fs] ∧ P (.v (.ins C fs)) O1 := by
        have es : ∀ o' : OD, (O1 ++ [OD.ins C []]).set A1.length o' = O1 ++ [o'] := fun o' => by
          rw [s1.len, List.set_append_right _ _ (Nat.le_refl _), Nat.sub_self]
          exact rfl
        funext t O'
        refine propext ⟨?_, ?_⟩
        · rintro ⟨o', rfl, hn, hu, fs, e1, q⟩
          rw [es] at e1
          have e2 : o' = .ins C fs := by
            have := List.append_cancel_left e1
            injection this
          subst e2
          refine ⟨?_, fs, rfl, q⟩
          cases t with
          | v d => exact hu
          | own j => cases hu
          | no => cases hn
          | clo R f => cases hn
        · rintro ⟨rfl, fs, rfl, q⟩
          exact ⟨_, rfl, rfl, rfl, fs, es _, q⟩
      rw [pq]
      exact p
    · obtain ⟨rfl, fs, rfl, q⟩ := q
      obtain ⟨_, e1, e2⟩ := rt
      cases e1
      obtain ⟨M, eM⟩ := n'.pre
      have l2 := s'.len
      have eM0 : M = [] := by
        have l3 : A'.length = (A1 ++ [x] ++ M).length := by rw [eM]
        rw [List.length_append, List.length_append] at l3
        rw [List.length_append] at l2
        have l4 := s1.len
        refine List.length_eq_zero_iff.mp ?_
        simp only [List.length_singleton] at l2 l3
        omega
      subst eM0
      rw [List.append_nil] at eM
      subst eM
      have c := s'.cell A1.length x (.ins C fs) hat (by rw [s1.len, List.getElem?_append_right (Nat.le_refl _), Nat.sub_self]; exact rfl)
      obtain ⟨s4, x4⟩ := s'.drop s1.len s1.pre
      obtain ⟨dx', us, c1, c2⟩ := c
      have nA : x ∉ A1 := fun hm => (List.nodup_append.mp s'.nd).2.2 x hm x (List.mem_singleton.mpr rfl) rfl
      have nz : x ∉ live A1 O1 ++ b.Z := fun z => by
        rcases List.mem_append.mp z with z | z
        · obtain ⟨j, o, z1, _, _⟩ := live_mem z
          exact nA (List.mem_of_getElem? z1)
        · have zz := s1.z_at (a := x) z
          obtain ⟨o, zz, _⟩ := zz.2
          rw [hx] at zz
          cases zz
      have fz : Fz b A1 O1 H' x = some (.ins C dx' us) := hid_some.mpr ⟨nz, c1⟩
      refine ⟨e2, kv _ _ A1 O1 H' q s4 (n1.trans ⟨⟨[], (List.append_nil A1).symm⟩, ?_⟩) ⟨_, rfl, x, dx', us, rfl, fz, c2.ex x4⟩⟩
      exact (n13.ext.trans n'.ext).trans x4) kx
end
end G
namespace My2
open PySem PySem.W PyProof.Rows
section
variable {pr : Program} {wo : World} {B : Around} {Er : Value → Shared → Prop} {st : Shared} {K : Frag} {a cl lo me : Addr} {base : Heap} {nsm : Str → Option Value} {oa : Obj} {da : Option Obj}
end
end My2

set_option Elab.async false
set_option linter.all false
set_option maxRecDepth 100000
set_option maxHeartbeats 4000000
namespace My2
open PySem PySem.W PyProof.Rows Builtin
section
variable {pr : Program} {wo : World} {B : Around} {Er : Value → Shared → Prop} {st : Shared} {K : Frag} {a cl lo me : Addr} {base : Heap} {nsm : Str → Option Value} {oa : Obj} {da : Option Obj}
end
end My2

set_option Elab.async false
set_option linter.all false
set_option maxRecDepth 100000
set_option maxHeartbeats 4000000
namespace G
open PySem PySem.Spec PyProof.Rows L2
def tCallI (C : Addr) (sp : Sp) (E : XK) (tf : TE) (t : TA) : TE := fun σ H Q => tf σ H fun y H1 => ∃ a, y = V.ref a ∧ t σ H1 fun vs H2 => (∃ dx fs, H2 a = some (.ins C dx fs)) ∧ sp (V.ref a :: vs) H2 Q E
section
variable {X : Cx} {CX : CXT} {k : Nat} {C g : Addr} {sp : Sp} {E : XK} {m : Str}
end
section
variable {K : PySem.W.Frag} {W : WX} {O : List OD} {ts : List T} {P : PT'} {X : XX} {sp : SpD} {tr : TA} {ta : TE} {C : Addr} {fs : List (Str × D)}
theorem rep_ins {b : Bs} {A : List Addr} {H : Hp} {v : V} (s : StO K b A O H) (r : RepT K (Fz b A O H) A (.v (.ins C fs)) (some v)) : ∃ a dx vs, v = .ref a ∧ H a = some (.ins C dx vs) := by
  obtain ⟨a, dx, vs, e, h, _⟩ := insD_at insD_v s r
  exact ⟨a, dx, vs, e, h⟩
theorem one_rep {F : Hp} {A : List Addr} {d : D} {v : V} (r1 : RepT K F A (.v d) (some v)) : RepTs K F A [.v d] [v] := ⟨v, [], rfl, r1, rfl⟩
/-- f(..), f an instance -/
theorem w_callI (h : WE K W ta O ts (fun x O1 => ∃ fs, x = .v (.ins C fs) ∧ WA K W tr O1 ts (fun xs O2 => ∃ ds, unv xs = some ds ∧ sp (.v (.ins C fs) :: xs) [] (fun t _ => (∃ d, t = .v d) ∧ P t O2) (fun _ _ _ => False)) X) X) :
    WE K W (tCallI C (lift K sp) E0 ta tr) O ts P X := fun b A σ H Q s rs kv kx =>
  h b A σ H _ s rs (fun x v A1 O1 H1 p1 s1 n1 r1 => by
    obtain ⟨fs, rfl, p⟩ := p1
    obtain ⟨a, dx, vs, rfl, h1⟩ := rep_ins s1 r1
    refine ⟨a, rfl, p b A1 σ H1 _ s1 (rs.nxt n1) (fun xs us A2 O2 H2 p2 s2 n2 r2 => ?_) (kx.nxt n1)⟩
    obtain ⟨ds, e, q⟩ := p2
    obtain ⟨a', dx', vs', e', h2⟩ := rep_ins s2 (r1.nxt n2)
    cases e'
    exact ⟨⟨dx', vs', h2⟩, lift_p (W := fun _ _ _ _ => False) (X := fun _ _ _ => False) (σ := σ) s2 (xs := .v (.ins C fs) :: xs) (ds := .ins C fs :: ds) ⟨.ref a, us, rfl, r1.nxt n2, r2⟩ (by show (unv xs).map _ = _; rw [e] <;> rfl) (fun _ _ _ z => z) q (kv.nxt (n1.trans n2)) fun _ _ _ _ _ _ z => z.elim⟩) kx
/-- e.f, a property -/
theorem w_prop (h : WE K W ta O ts (fun x O1 => ∃ fs, x = .v (.ins C fs) ∧ sp [.v (.ins C fs)] [] (fun t _ => (∃ d, t = .v d) ∧ P t O1) (fun _ _ _ => False)) X) :
    WE K W (tProp C (lift K sp) [] E0 ta) O ts P X := fun b A σ H Q s rs kv kx =>
  h b A σ H _ s rs (fun x v A1 O1 H1 p1 s1 n1 r1 => by
    obtain ⟨fs, rfl, p⟩ := p1
    obtain ⟨a, dx, vs, rfl, h1⟩ := rep_ins s1 r1
    exact ⟨a, dx, vs, rfl, h1, lift_p (W := fun _ _ _ _ => False) (X := fun _ _ _ => False) (σ := σ) s1 (one_rep r1) rfl (fun _ _ _ z => z) p (kv.nxt n1) fun _ _ _ _ _ _ z => z.elim⟩) kx
end
end G

set_option Elab.async false
set_option linter.all false
set_option maxRecDepth 100000
set_option maxHeartbeats 4000000
namespace G
open PySem PySem.Spec PyProof.Rows L2
structure PrD where
  cls : Str
  name : Str
  kind : String
  qual : Str
  params : Arguments
  body : List Stmt
  scope : Scope
/-- the property, the staticmethod -/
def PrD.p (K : PySem.W.Frag) (d : PrD) : Addr := He.ma K (He.ga K d.cls) d.name
/-- the def behind it -/
def PrD.g (K : PySem.W.Frag) (d : PrD) : Addr := match PySem.W.recIn K (d.p K) d.kind with
  | some (.ref g :: _) => g
  | _ => 0
def PrD.val (d : PrD) : FnE := some (d.name, d.qual, d.params, .stmts d.body, d.scope, mainGlobals, [], builtinsNs)
def prB (K : PySem.W.Frag) (d : PrD) : Bool := match K.lookup (d.g K) with
  | some ⟨_, _, .func fd, _⟩ => PySem.W.codeIn K fd.code d.qual && (noneB fd.defaults && noneB fd.kwdefaults)
  | _ => false
def recB (K : PySem.W.Frag) (d : PrD) : Bool := match PySem.W.recIn K (d.p K) d.kind with
  | some (.ref _ :: _) => true
  | _ => false
def PrD.oks (K : PySem.W.Frag) (d : PrD) : Bool := PySem.W.keepIn K (.ref (d.g K)) && (prB K d && (recB K d && He.eqO (PySem.W.findIn K (.ref (He.ga K d.cls)) d.name) (some (some (.ref (d.p K))))))
theorem nilL {α : Type} {l : List (Str × α)} (h : l.map (·.1) = []) : l = [] := by
  cases l with
  | nil => rfl
  | cons _ _ => cases h
theorem PrD.funD {K : PySem.W.Frag} {d : PrD} (h : d.oks K = true) (e : fnE K (d.g K) = d.val) : ∃ fd, FunD K d.name d.qual d.params d.body d.scope [] [] (d.g K) fd := by
  obtain ⟨kp, h⟩ := He.ba h
  obtain ⟨c, _⟩ := He.ba h
  unfold fnE at e
  unfold prB at c
  cases q : K.lookup (d.g K) with
  | none =>
    rw [q] at c
    cases c
  | some o =>
    obtain ⟨o1, o2, o3, o4⟩ := o
    rw [q] at c e
    cases o3 with
    | func fd =>
      obtain ⟨z1, z2, z3, z4, z5, z6, z7, z8, z9, z10, z11, z12, z13, z14, z15⟩ := fd
      have e2 : (some (z1, z2, z3, z4, z5, z6, z7.map (·.1), z15) : FnE) = (some (d.name, d.qual, d.params, FuncBody.stmts d.body, d.scope, mainGlobals, [], builtinsNs) : FnE) := e
      simp only [Option.some.injEq, Prod.mk.injEq] at e2
      obtain ⟨a1, a2, a3, a4, a5, a6, a7, a8⟩ := e2
      have a9 := nilL a7
      subst a1 a2 a3 a4 a5 a6 a8 a9
      obtain ⟨k1, k2⟩ := He.ba (show (PySem.W.codeIn K z13 d.qual && (noneB z8 && noneB z9)) = true from c)
      obtain ⟨k3, k4⟩ := He.ba k2
      have k3 := noneB_ok k3
      have k4 := noneB_ok k4
      subst k3 k4
      exact ⟨_, ⟨o1, o2, _, _, z10, z11, z12, z13, z14, o4, rfl, q, k1, He.dflB_ok rfl, He.kwdB_ok rfl⟩, kp⟩
    | _ => cases c
theorem PrD.rec_ {K : PySem.W.Frag} {d : PrD} (h : d.oks K = true) : ∃ rest, PySem.W.recIn K (d.p K) d.kind = some (.ref (d.g K) :: rest) := by
  obtain ⟨_, h⟩ := He.ba h
  obtain ⟨_, h⟩ := He.ba h
  obtain ⟨h, _⟩ := He.ba h
  unfold recB at h
  unfold PrD.g
  split at h
  · rename_i g l e
    rw [e]
    exact ⟨l, rfl⟩
  · cases h
theorem PrD.at_ {K : PySem.W.Frag} {d : PrD} (h : d.oks K = true) : PySem.W.findIn K (.ref (He.ga K d.cls)) d.name = some (some (.ref (d.p K))) := by
  obtain ⟨_, h⟩ := He.ba h
  obtain ⟨_, h⟩ := He.ba h
  obtain ⟨_, h⟩ := He.ba h
  exact He.eqO_ok h
/-- what is asked of a property besides -/
def propB (K : PySem.W.Frag) (d : PrD) : Bool := He.eqO (PySem.W.specialIn K (.ref (d.p K)) "__get__") (some (some (.builtin "property.__get__"))) && decide (PySem.W.takesIn K (.ref (d.p K)) = some true)
theorem prop_of {K : PySem.W.Frag} {d : PrD} (h : d.oks K = true) (hk : d.kind = "property") (p : propB K d = true) : PropOf K (He.ga K d.cls) d.name (d.p K) (d.g K) := by
  obtain ⟨h1, h2⟩ := He.ba p
  refine ⟨d.at_ h, He.eqO_ok h1, of_decide_eq_true h2, ?_⟩
  have := d.rec_ h
  rw [hk] at this
  exact this
theorem rOf {P : Program} {w : World} {K : PySem.W.Frag} {mg : Str → Option Value} {base : Heap} {CX : CXT} {k : Nat} {f : Addr} {sp : Sp} {fd : FuncData} {ps : List Str} (F : FnOk P w K mg base CX k f fd ps sp) (b : Binds K fd ps []) : FnR P w K mg base CX k f sp :=
  (F.raw b .nil).imp fun _ _ _ _ h => by
    rw [List.append_nil]
    exact h
end G

set_option Elab.async false
set_option linter.all false
set_option maxRecDepth 100000
set_option maxHeartbeats 4000000
namespace G
open PySem PySem.Spec PyProof.Rows L2
def tOr (t u : TE) : TE := fun σ H Q => t σ H Q ∨ u σ H Q
section
variable {X : Cx} {e tg : Expr} {t u : TE} {i j : TI}
theorem pe_or (h1 : PE X e t) (h2 : PE X e u) : PE X e (tOr t u) := ⟨fun pins s σ H Q I h => h.elim (h1.run pins s σ H Q I) (h2.run pins s σ H Q I)⟩
end
section
variable {K : PySem.W.Frag} {W : WX} {O : List OD} {ts : List T} {P : PT'} {X : XX} {t u : TE} {i j : TI} {S : (Nat → Option T) → List OD → Prop}
end
def tMethX (C : Addr) (m : Str) (sp : Sp) (E : L2.St → XK) (ta : TE) (t : TA) : TE := fun σ H Q => ta σ H fun x H1 => ∃ a dx fs, x = .ref a ∧ H1 a = some (.ins C dx fs) ∧ fs.lookup m = none ∧ t σ H1 fun vs H2 => sp (x :: vs) H2 Q (E σ)
def tCallX (C : Addr) (sp : Sp) (E : L2.St → XK) (tf : TE) (t : TA) : TE := fun σ H Q => tf σ H fun y H1 => ∃ a, y = V.ref a ∧ t σ H1 fun vs H2 => (∃ dx fs, H2 a = some (.ins C dx fs)) ∧ sp (V.ref a :: vs) H2 Q (E σ)
section
variable {X : Cx} {CX : CXT} {k : Nat} {C g : Addr} {sp : Sp} {m : Str} {E : L2.St → XK} {E1 : XK} {o e fe : Expr} {es : List Expr} {ta tf : TE} {t : TA} {pos apos : Pos} {pl : Sem Bool}
end
section
variable {K : PySem.W.Frag} {W : WX} {O : List OD} {ts : List T} {P : PT'} {X : XX} {sp : SpD} {tr : TA} {ta : TE} {C : Addr} {m : Str}
theorem w_methX (h : WE K W ta O ts (fun x O1 => ∃ fs, x = .v (.ins C fs) ∧ fs.lookup m = none ∧ WA K W tr O1 ts (fun xs O2 => ∃ ds, unv xs = some ds ∧ sp (.v (.ins C fs) :: xs) [] (fun t _ => (∃ d, t = .v d) ∧ P t O2) (fun C fs _ => X C fs O2)) X) X) :
    WE K W (tMethX C m (lift K sp) (L2.WE W) ta tr) O ts P X := fun b A σ H Q s rs kv kx =>
  h b A σ H _ s rs (fun x v A1 O1 H1 p1 s1 n1 r1 => by
    obtain ⟨fs, rfl, hm, p⟩ := p1
    obtain ⟨a, dx, vs, rfl, h1, h2⟩ := insD_at insD_v s1 r1
    refine ⟨a, dx, vs, rfl, h1, h2.none hm, p b A1 σ H1 _ s1 (rs.nxt n1) (fun xs us A2 O2 H2 p2 s2 n2 r2 => ?_) (kx.nxt n1)⟩
    obtain ⟨ds, e, q⟩ := p2
    exact lift_p (W := W) (σ := σ) s2 (xs := .v (.ins C fs) :: xs) (ds := .ins C fs :: ds) ⟨.ref a, us, rfl, r1.nxt n2, r2⟩ (by show (unv xs).map _ = _; rw [e] <;> rfl) (fun _ _ _ z => z) q (kv.nxt (n1.trans n2)) (kx.nxt (n1.trans n2))) kx
theorem w_callX (h : WE K W ta O ts (fun x O1 => ∃ fs, x = .v (.ins C fs) ∧ WA K W tr O1 ts (fun xs O2 => ∃ ds, unv xs = some ds ∧ sp (.v (.ins C fs) :: xs) [] (fun t _ => (∃ d, t = .v d) ∧ P t O2) (fun C fs _ => X C fs O2)) X) X) :
    WE K W (tCallX C (lift K sp) (L2.WE W) ta tr) O ts P X := fun b A σ H Q s rs kv kx =>
  h b A σ H _ s rs (fun x v A1 O1 H1 p1 s1 n1 r1 => by
    obtain ⟨fs, rfl, p⟩ := p1
    obtain ⟨a, dx, vs, rfl, h1⟩ := rep_ins s1 r1
    refine ⟨a, rfl, p b A1 σ H1 _ s1 (rs.nxt n1) (fun xs us A2 O2 H2 p2 s2 n2 r2 => ?_) (kx.nxt n1)⟩
    obtain ⟨ds, e, q⟩ := p2
    obtain ⟨a', dx', vs', e', h2⟩ := rep_ins s2 (r1.nxt n2)
    cases e'
    exact ⟨⟨dx', vs', h2⟩, lift_p (W := W) (σ := σ) s2 (xs := .v (.ins C fs) :: xs) (ds := .ins C fs :: ds) ⟨.ref a, us, rfl, r1.nxt n2, r2⟩ (by show (unv xs).map _ = _; rw [e] <;> rfl) (fun _ _ _ z => z) q (kv.nxt (n1.trans n2)) (kx.nxt (n1.trans n2))⟩) kx
end
def turnL {α : Type} (tw : Bool) (l : List α) : List α := if tw then l.reverse else l
def tMethK (C : Addr) (m : Str) (tw : Bool) (sp : Sp) (E : XK) (ta : TE) (tk : TA) : TE := fun σ H Q => ta σ H fun x H1 => ∃ a dx fs, x = .ref a ∧ H1 a = some (.ins C dx fs) ∧ fs.lookup m = none ∧ tk σ H1 fun zs H2 => sp (x :: turnL tw zs) H2 Q E
def tCallK2 (C : Addr) (tw : Bool) (sp : Sp) (E : XK) (tf : TE) (tk : TA) : TE := fun σ H Q => tf σ H fun y H1 => ∃ a, y = V.ref a ∧ tk σ H1 fun zs H2 => (∃ dx fs, H2 a = some (.ins C dx fs)) ∧ sp (V.ref a :: turnL tw zs) H2 Q E
section
variable {X : Cx} {CX : CXT} {k : Nat} {C g : Addr} {sp : Sp} {m : Str} {E : XK} {o fe : Expr} {kws : List Keyword} {ta tf : TE} {tk : TA} {pos apos : Pos} {pl : Sem Bool} {fd : FuncData} {ps ks : List Str} {tw : Bool}
end
section
variable {K : PySem.W.Frag} {W : WX} {O : List OD} {ts : List T} {P : PT'} {X : XX} {sp : SpD} {tk : TA} {ta : TE} {C : Addr} {m : Str} {tw : Bool}
theorem turn_rep {F : Hp} {A : List Addr} {xs : List T} {us : List V} {ds : List D} (r : RepTs K F A xs us) (e : unv xs = some ds) : RepTs K F A ((turnL tw ds).map T.v) (turnL tw us) := by
  have p := r.plain e
  cases tw
  · exact repTs_v p
  · exact repTs_v (p.reverse)
theorem unv_map : ∀ {ds : List D}, unv (ds.map T.v) = some ds
  | [] => rfl
  | d :: ds => by
    show (unv (ds.map T.v)).map _ = _
    rw [unv_map] <;> rfl
theorem w_methK (h : WE K W ta O ts (fun x O1 => ∃ fs, x = .v (.ins C fs) ∧ fs.lookup m = none ∧ WA K W tk O1 ts (fun xs O2 => ∃ ds, unv xs = some ds ∧ sp (.v (.ins C fs) :: (turnL tw ds).map T.v) [] (fun t _ => (∃ d, t = .v d) ∧ P t O2) (fun _ _ _ => False)) X) X) :
    WE K W (tMethK C m tw (lift K sp) E0 ta tk) O ts P X := fun b A σ H Q s rs kv kx =>
  h b A σ H _ s rs (fun x v A1 O1 H1 p1 s1 n1 r1 => by
    obtain ⟨fs, rfl, hm, p⟩ := p1
    obtain ⟨a, dx, vs, rfl, h1, h2⟩ := insD_at insD_v s1 r1
    refine ⟨a, dx, vs, rfl, h1, h2.none hm, p b A1 σ H1 _ s1 (rs.nxt n1) (fun xs us A2 O2 H2 p2 s2 n2 r2 => ?_) (kx.nxt n1)⟩
    obtain ⟨ds, e, q⟩ := p2
    exact lift_p (W := fun _ _ _ _ => False) (X := fun _ _ _ => False) (σ := σ) s2 (xs := .v (.ins C fs) :: (turnL tw ds).map T.v) (ds := .ins C fs :: turnL tw ds) ⟨.ref a, _, rfl, r1.nxt n2, turn_rep r2 e⟩ (by show (unv ((turnL tw ds).map T.v)).map _ = _; rw [unv_map] <;> rfl) (fun _ _ _ z => z) q (kv.nxt (n1.trans n2)) fun _ _ _ _ _ _ z => z.elim) kx
theorem w_callK2 (h : WE K W ta O ts (fun x O1 => ∃ fs, x = .v (.ins C fs) ∧ WA K W tk O1 ts (fun xs O2 => ∃ ds, unv xs = some ds ∧ sp (.v (.ins C fs) :: (turnL tw ds).map T.v) [] (fun t _ => (∃ d, t = .v d) ∧ P t O2) (fun _ _ _ => False)) X) X) :
    WE K W (tCallK2 C tw (lift K sp) E0 ta tk) O ts P X := fun b A σ H Q s rs kv kx =>
  h b A σ H _ s rs (fun x v A1 O1 H1 p1 s1 n1 r1 => by
    obtain ⟨fs, rfl, p⟩ := p1
    obtain ⟨a, dx, vs, rfl, h1⟩ := rep_ins s1 r1
    refine ⟨a, rfl, p b A1 σ H1 _ s1 (rs.nxt n1) (fun xs us A2 O2 H2 p2 s2 n2 r2 => ?_) (kx.nxt n1)⟩
    obtain ⟨ds, e, q⟩ := p2
    obtain ⟨a', dx', vs', e', h2⟩ := rep_ins s2 (r1.nxt n2)
    cases e'
    exact ⟨⟨dx', vs', h2⟩, lift_p (W := fun _ _ _ _ => False) (X := fun _ _ _ => False) (σ := σ) s2 (xs := .v (.ins C fs) :: (turnL tw ds).map T.v) (ds := .ins C fs :: turnL tw ds) ⟨.ref a, _, rfl, r1.nxt n2, turn_rep r2 e⟩ (by show (unv ((turnL tw ds).map T.v)).map _ = _; rw [unv_map] <;> rfl) (fun _ _ _ z => z) q (kv.nxt (n1.trans n2)) fun _ _ _ _ _ _ z => z.elim⟩) kx
end
end G

set_option Elab.async false
set_option linter.all false
set_option maxRecDepth 100000
set_option maxHeartbeats 4000000
namespace G
open PySem PySem.Spec PyProof.Rows L2
section
variable {X : Cx}
end
section
variable {K : PySem.W.Frag} {O : List OD} {P : PT'}
end
section
variable {X : Cx} {T' name : Str} {id : String} {r : V → List V → Hp → VK → Prop} {o e : Expr} {es : List Expr} {to : TE} {t : TA} {cpos apos : Pos}
end
end G

set_option Elab.async false
set_option linter.all false
set_option maxRecDepth 100000
set_option maxHeartbeats 4000000
namespace G
open PySem PySem.Spec PyProof.Rows L2
def Sm (n : Int) : Prop := n.natAbs < 2 ^ 200
theorem sm_log {n : Int} (h : Sm n) : n.natAbs.log2 < 200 := by
  by_cases z : n.natAbs = 0
  · rw [z]
    decide
  · exact (Nat.log2_lt z).mpr h
theorem strOk_of (s : String) : PyData.strOk (Str.ofString s) = true := by
  unfold PyData.strOk
  rw [Str.ofString_eq_toList, List.all_toArray, List.all_eq_true]
  intro c hc
  obtain ⟨ch, _, rfl⟩ := List.mem_map.mp hc
  have h := ch.valid
  have e : ch.toNat = ch.val.toNat := rfl
  unfold UInt32.isValidChar Nat.isValidChar at h
  rw [e]
  exact decide_eq_true (by omega)
theorem pl_int_shown (k : Nat) (n : Int) : pl k (.str (PyData.int n).shown) = true := by
  have e : (PyData.int n).shown = Str.ofString (toString n) := rfl
  rw [e]
  cases k <;> (simp only [pl, PyData.canLay0]; exact strOk_of _)
theorem shows_int {n : Int} (h : Sm n) : Shows (.int n) (.int n) := by
  have h2 : n.natAbs.log2 < 1920 := Nat.lt_trans (sm_log h) (by decide)
  exact ⟨rfl, decide_eq_true h2, Nat.le_of_ble_eq_true rfl, int_text_fits h2⟩
end G

set_option Elab.async false
set_option linter.all false
set_option maxRecDepth 100000
set_option maxHeartbeats 4000000
namespace G
open PySem PySem.Spec PyProof.Rows L2
section
variable {K : PySem.W.Frag} {W : WX} {O : List OD} {ts : List T} {P : PT'} {X : XX} {ta : TE} {C : Addr} {f : Str}
end
end G

set_option Elab.async false
set_option linter.all false
set_option maxRecDepth 100000
namespace G
def InR (m : Int) (rs : List Int) : Prop := ∀ r ∈ rs, 0 ≤ r ∧ r < m
theorem InR.tail {m r : Int} {rs : List Int} (h : InR m (r :: rs)) : InR m rs := fun x hx => h x (List.mem_cons_of_mem _ hx)
theorem InR.take {m : Int} {rs : List Int} (h : InR m rs) (n : Nat) : InR m (rs.take n) := fun x hx => h x (List.mem_of_mem_take hx)
theorem InR.at {m : Int} {rs : List Int} (h : InR m rs) {i : Nat} {r : Int} (e : rs[i]? = some r) : 0 ≤ r ∧ r < m := h r (List.mem_of_getElem? e)
theorem InR.mul {m k : Int} {rs : List Int} (h : InR m rs) (hk : 0 < k) : InR (m * k) (rs.map (· * k)) := fun x hx => by
  obtain ⟨r, hr, rfl⟩ := List.mem_map.mp hx
  obtain ⟨h1, h2⟩ := h r hr
  exact ⟨Int.mul_nonneg h1 (Int.le_of_lt hk), Int.mul_lt_mul_of_pos_right h2 hk⟩
theorem InR.nil {m : Int} : InR m [] := fun x hx => by cases hx
theorem InR.snoc {m x : Int} {rs : List Int} (h : InR m rs) (h0 : 0 ≤ x) (h1 : x < m) : InR m (rs ++ [x]) := fun y hy => by
  rcases List.mem_append.mp hy with hy | hy
  · exact h y hy
  · rw [List.mem_singleton.mp hy]
    exact ⟨h0, h1⟩
end G

set_option linter.all false
set_option maxRecDepth 100000
namespace My
def vlf (p : Nat) : Nat → Nat → Nat
  | 0, _ => 0
  | f + 1, n => if n % p = 0 then vlf p f (n / p) + 1 else 0
def vl (p n : Nat) : Nat := vlf p n n
theorem vlf_spec {p : Nat} (hp : 2 ≤ p) : ∀ (f n : Nat), 1 ≤ n → n ≤ f → ∃ q, n = p ^ vlf p f n * q ∧ q % p ≠ 0
  | 0, n, h1, h2 => by omega
  | f + 1, n, h1, h2 => by
    unfold vlf
    by_cases h : n % p = 0
    · rw [if_pos h]
      obtain ⟨k, rfl⟩ := Nat.dvd_of_mod_eq_zero h
      have hk : 1 ≤ k := by
        rcases Nat.eq_zero_or_pos k with rfl | hk
        · rw [Nat.mul_zero] at h1; omega
        · exact hk
      rw [Nat.mul_div_cancel_left k (by omega)]
      have : k < p * k := by
        have := Nat.mul_le_mul_right k hp
        omega
      obtain ⟨q, e, hq⟩ := vlf_spec hp f k hk (by omega)
      refine ⟨q, ?_, hq⟩
      rw [Nat.pow_succ, Nat.mul_comm _ p, Nat.mul_assoc, ← e]
    · rw [if_neg h]
      exact ⟨n, by rw [Nat.pow_zero, Nat.one_mul], h⟩
theorem vl_spec {p n : Nat} (hp : 2 ≤ p) (hn : 1 ≤ n) : ∃ q, n = p ^ vl p n * q ∧ q % p ≠ 0 := vlf_spec hp n n hn (Nat.le_refl n)
theorem vl_uniq {p : Nat} (hp : 2 ≤ p) : ∀ {s t q r : Nat}, p ^ s * q = p ^ t * r → q % p ≠ 0 → r % p ≠ 0 → s = t ∧ q = r
  | 0, 0, q, r, h, _, _ => by
    rw [Nat.pow_zero, Nat.one_mul, Nat.one_mul] at h
    exact ⟨rfl, h⟩
  | 0, t + 1, q, r, h, hq, _ => by
    rw [Nat.pow_zero, Nat.one_mul, Nat.pow_succ, Nat.mul_comm _ p, Nat.mul_assoc] at h
    rw [h, Nat.mul_mod_right] at hq
    exact absurd rfl hq
  | s + 1, 0, q, r, h, _, hr => by
    rw [Nat.pow_zero, Nat.one_mul, Nat.pow_succ, Nat.mul_comm _ p, Nat.mul_assoc] at h
    rw [← h, Nat.mul_mod_right] at hr
    exact absurd rfl hr
  | s + 1, t + 1, q, r, h, hq, hr => by
    rw [Nat.pow_succ, Nat.mul_comm _ p, Nat.mul_assoc, Nat.pow_succ, Nat.mul_comm _ p, Nat.mul_assoc] at h
    obtain ⟨a, b⟩ := vl_uniq hp (Nat.eq_of_mul_eq_mul_left (by omega) h) hq hr
    exact ⟨by rw [a], b⟩
theorem vl_eq {p n t q : Nat} (hp : 2 ≤ p) (hn : 1 ≤ n) (h : n = p ^ t * q) (hq : q % p ≠ 0) : vl p n = t := by
  obtain ⟨r, e, hr⟩ := vl_spec hp hn
  exact (vl_uniq hp (e.symm.trans h) hr hq).1
def PR : List Nat := [2, 3, 5, 7, 11]
def small (n most : Nat) : List (Nat × Nat) := (PR.filter fun p => decide (p ≤ most) && decide (n % p = 0)).map fun p => (p, vl p n)
def cutP (n : Nat) (x : Nat × Nat) : Nat := n / x.1 ^ x.2
def great (n most : Nat) : Nat := (small n most).foldl cutP n
theorem foldl_mul (l : List Nat) : ∀ a, l.foldl (· * ·) a = a * l.foldl (· * ·) 1 := by
  induction l with
  | nil => intro a; simp
  | cons x l ih =>
    intro a
    rw [List.foldl_cons, List.foldl_cons, ih, ih (1 * x), Nat.one_mul, Nat.mul_assoc]
def prodN (l : List Nat) : Nat := l.foldl (· * ·) 1
theorem prodN_cons (x : Nat) (l : List Nat) : prodN (x :: l) = x * prodN l := by
  unfold prodN
  rw [List.foldl_cons, foldl_mul, Nat.one_mul]
theorem prodN_nil : prodN [] = 1 := rfl
theorem prodN_app (l m : List Nat) : prodN (l ++ m) = prodN l * prodN m := by
  unfold prodN
  rw [List.foldl_append, foldl_mul]
/-- each one has no common divisor with the ones behind it -/
def Cop : List Nat → Prop
  | [] => True
  | x :: l => (∀ y ∈ l, Nat.Coprime x y) ∧ Cop l
theorem cop_prod {x : Nat} : ∀ {l : List Nat}, (∀ y ∈ l, Nat.Coprime x y) → Nat.Coprime x (prodN l)
  | [], _ => by rw [prodN_nil]; exact Nat.coprime_one_right x
  | y :: l, h => by
    rw [prodN_cons]
    exact Nat.Coprime.mul_right (h y List.mem_cons_self) (cop_prod fun z hz => h z (List.mem_cons_of_mem _ hz))
theorem foldl_cut : ∀ (l : List (Nat × Nat)) (n : Nat), Cop (l.map fun x => x.1 ^ x.2) → (∀ x ∈ l, 1 ≤ x.1 ^ x.2 ∧ x.1 ^ x.2 ∣ n) → n = l.foldl cutP n * prodN (l.map fun x => x.1 ^ x.2)
  | [], n, _, _ => by simp [prodN_nil]
  | x :: l, n, hc, hd => by
    obtain ⟨h1, h2⟩ := hd x List.mem_cons_self
    obtain ⟨k, hk⟩ := h2
    have hcut : cutP n x = k := by
      unfold cutP
      rw [hk, Nat.mul_div_cancel_left k h1]
    rw [List.foldl_cons, hcut, List.map_cons, prodN_cons]
    have ih := foldl_cut l k hc.2 fun y hy => by
      obtain ⟨a, b⟩ := hd y (List.mem_cons_of_mem _ hy)
      refine ⟨a, ?_⟩
      rw [hk] at b
      exact Nat.Coprime.dvd_of_dvd_mul_left (Nat.Coprime.symm (hc.1 _ (List.mem_map.mpr ⟨y, hy, rfl⟩))) b
    rw [hk, Nat.mul_left_comm, ← ih]
theorem pr_cop {p q : Nat} (hp : p ∈ PR) (hq : q ∈ PR) (h : p ≠ q) : Nat.Coprime p q := by
  simp only [PR, List.mem_cons, List.not_mem_nil, or_false] at hp hq
  rcases hp with rfl | rfl | rfl | rfl | rfl <;> rcases hq with rfl | rfl | rfl | rfl | rfl <;> first | exact absurd rfl h | (unfold Nat.Coprime; decide)
theorem pr_two {p : Nat} (hp : p ∈ PR) : 2 ≤ p ∧ p ≤ 11 := by
  simp only [PR, List.mem_cons, List.not_mem_nil, or_false] at hp
  omega
theorem pr_prime {p d : Nat} (hp : p ∈ PR) (h : d ∣ p) : d = 1 ∨ d = p := by
  have hl : d ≤ 11 := Nat.le_trans (Nat.le_of_dvd (by have := pr_two hp; omega) h) (pr_two hp).2
  simp only [PR, List.mem_cons, List.not_mem_nil, or_false] at hp
  have key : ∀ d : Nat, d ≤ 11 → ∀ p ∈ [2, 3, 5, 7, 11], d ∣ p → d = 1 ∨ d = p := by decide
  exact key d hl p (by simp only [List.mem_cons, List.not_mem_nil, or_false]; exact hp) h
theorem pr_no {p n : Nat} (hp : p ∈ PR) (h : n % p ≠ 0) : Nat.Coprime n p := by
  rcases pr_prime hp (Nat.gcd_dvd_right n p) with e | e
  · exact e
  · have hd := Nat.gcd_dvd_left n p
    rw [e] at hd
    exact absurd (Nat.mod_eq_zero_of_dvd hd) h
theorem cop_small (n : Nat) (most : Nat) : ∀ l : List Nat, l.Nodup → (∀ p ∈ l, p ∈ PR) → Cop ((l.map fun p => (p, vl p n)).map fun x => x.1 ^ x.2)
  | [], _, _ => trivial
  | p :: l, hn, hm => by
    refine ⟨fun y hy => ?_, cop_small n most l (List.nodup_cons.mp hn).2 fun q hq => hm q (List.mem_cons_of_mem _ hq)⟩
    obtain ⟨x, hx, rfl⟩ := List.mem_map.mp hy
    obtain ⟨q, hq, rfl⟩ := List.mem_map.mp hx
    exact Nat.Coprime.pow _ _ (pr_cop (hm p List.mem_cons_self) (hm q (List.mem_cons_of_mem _ hq)) fun z => (List.nodup_cons.mp hn).1 (by rw [show p = q from z]; exact hq))
theorem pr_nodup : PR.Nodup := by decide
theorem small_cop (n most : Nat) : Cop ((small n most).map fun x => x.1 ^ x.2) :=
  cop_small n most _ (List.Sublist.nodup List.filter_sublist pr_nodup) fun p hp => (List.mem_filter.mp hp).1
theorem small_mem {n most : Nat} {x : Nat × Nat} (h : x ∈ small n most) : x.1 ∈ PR ∧ x.1 ≤ most ∧ n % x.1 = 0 ∧ x.2 = vl x.1 n := by
  unfold small at h
  obtain ⟨p, hp, rfl⟩ := List.mem_map.mp h
  obtain ⟨h1, h2⟩ := List.mem_filter.mp hp
  obtain ⟨h3, h4⟩ := Bool.and_eq_true_iff.mp h2
  exact ⟨h1, of_decide_eq_true h3, of_decide_eq_true h4, rfl⟩
theorem small_dvd {n most : Nat} (hn : 1 ≤ n) {x : Nat × Nat} (h : x ∈ small n most) : 1 ≤ x.1 ^ x.2 ∧ x.1 ^ x.2 ∣ n := by
  obtain ⟨h1, _, _, h4⟩ := small_mem h
  have h2 := (pr_two h1).1
  obtain ⟨q, e, _⟩ := vl_spec (p := x.1) h2 hn
  refine ⟨Nat.pow_pos (by omega), ?_⟩
  rw [h4]
  exact ⟨q, e⟩
theorem great_mul {n : Nat} (most : Nat) (hn : 1 ≤ n) : n = great n most * prodN ((small n most).map fun x => x.1 ^ x.2) := foldl_cut _ n (small_cop n most) fun _ h => small_dvd hn h
theorem great_pos {n : Nat} (most : Nat) (hn : 1 ≤ n) : 1 ≤ great n most := by
  have e := great_mul most hn
  rcases Nat.eq_zero_or_pos (great n most) with h | h
  · rw [h, Nat.zero_mul] at e; omega
  · exact h
theorem prod_dvd {x : Nat} : ∀ {l : List Nat}, x ∈ l → x ∣ prodN l
  | [], h => by cases h
  | y :: l, h => by
    rw [prodN_cons]
    rcases List.mem_cons.mp h with rfl | h
    · exact Nat.dvd_mul_right _ _
    · exact Nat.dvd_trans (prod_dvd h) (Nat.dvd_mul_left _ _)
theorem great_no {n most : Nat} (hn : 1 ≤ n) {x : Nat × Nat} (h : x ∈ small n most) : great n most % x.1 ≠ 0 := fun z => by
  obtain ⟨h1, _, _, h4⟩ := small_mem h
  have h2 := (pr_two h1).1
  obtain ⟨q, e, hq⟩ := vl_spec (p := x.1) h2 hn
  obtain ⟨a, ha⟩ := Nat.dvd_of_mod_eq_zero z
  obtain ⟨c, hc⟩ := prod_dvd (x := x.1 ^ x.2) (l := (small n most).map fun x => x.1 ^ x.2) (List.mem_map.mpr ⟨x, h, rfl⟩)
  have em := great_mul most hn
  rw [hc, ha, h4] at em
  have : x.1 ^ vl x.1 n * q = x.1 ^ vl x.1 n * (x.1 * (a * c)) := by
    rw [← e]
    refine em.trans ?_
    ac_rfl
  have hp : 0 < x.1 ^ vl x.1 n := Nat.pow_pos (by omega)
  have := Nat.eq_of_mul_eq_mul_left hp this
  rw [this, Nat.mul_mod_right] at hq
  exact hq rfl
/-- the pieces of a number -/
def pieces (n most : Nat) : List Nat := great n most :: (small n most).map fun x => x.1 ^ x.2
theorem pieces_cop {n : Nat} (most : Nat) (hn : 1 ≤ n) : Cop (pieces n most) := by
  refine ⟨fun y hy => ?_, small_cop n most⟩
  obtain ⟨x, hx, rfl⟩ := List.mem_map.mp hy
  exact Nat.Coprime.pow_right _ (pr_no (small_mem hx).1 (great_no hn hx))
theorem pieces_prod {n : Nat} (most : Nat) (hn : 1 ≤ n) : prodN (pieces n most) = n := by
  unfold pieces
  rw [prodN_cons]
  exact (great_mul most hn).symm
theorem small_len (n most : Nat) : (small n most).length ≤ 5 := by
  unfold small
  rw [List.length_map]
  exact Nat.le_trans (List.length_filter_le _ _) (Nat.le_refl 5)

def gcdL (m : Nat) (ns : List Int) : Nat := ns.foldl (fun d n => Nat.gcd d n.natAbs) m
theorem gcdL_nil (m : Nat) : gcdL m [] = m := rfl
theorem gcdL_cons (m : Nat) (n : Int) (ns : List Int) : gcdL m (n :: ns) = gcdL (Nat.gcd m n.natAbs) ns := rfl
theorem gcdL_app (m : Nat) (ns ks : List Int) : gcdL m (ns ++ ks) = gcdL (gcdL m ns) ks := List.foldl_append
theorem gcdL_dvd : ∀ (ns : List Int) (m : Nat), gcdL m ns ∣ m
  | [], m => Nat.dvd_refl m
  | n :: ns, m => Nat.dvd_trans (gcdL_dvd ns _) (Nat.gcd_dvd_left m n.natAbs)
theorem gcdL_pos {m : Nat} (h : 1 ≤ m) (ns : List Int) : 1 ≤ gcdL m ns := Nat.pos_of_dvd_of_pos (gcdL_dvd ns m) h
theorem gcdL_le {m : Nat} (h : 1 ≤ m) (ns : List Int) : gcdL m ns ≤ m := Nat.le_of_dvd h (gcdL_dvd ns m)
structure Bz (a0 b0 a b : Nat) (s t u v : Int) : Prop where
  e1 : (a : Int) = s * a0 + t * b0
  e2 : (b : Int) = u * a0 + v * b0
  g : Nat.gcd a b = Nat.gcd a0 b0
  k1 : s.natAbs * b + u.natAbs * a = b0
  k2 : t.natAbs * b + v.natAbs * a = a0
  s1 : 0 ≤ s ∧ u ≤ 0 ∧ t ≤ 0 ∧ 0 ≤ v ∨ s ≤ 0 ∧ 0 ≤ u ∧ 0 ≤ t ∧ v ≤ 0
  m1 : s.natAbs ≤ b0 + 1 ∧ t.natAbs ≤ a0 + 1 ∧ u.natAbs ≤ b0 + 1 ∧ v.natAbs ≤ a0 + 1
theorem Bz.start (a0 b0 : Nat) : Bz a0 b0 a0 b0 1 0 0 1 :=
  ⟨by omega, by omega, rfl, by simp, by simp, .inl ⟨by omega, by omega, by omega, by omega⟩, ⟨by simp, by simp, by simp, by simp⟩⟩
theorem mul_le_of {x b n : Nat} (h : x * b ≤ n) (hb : 1 ≤ b) : x ≤ n := Nat.le_trans (Nat.le_mul_of_pos_right x hb) h
theorem Bz.step {a0 b0 a b : Nat} {s t u v : Int} (z : Bz a0 b0 a b s t u v) (hb : 1 ≤ b) : Bz a0 b0 b (a % b) u v (s - (a / b : Nat) * u) (t - (a / b : Nat) * v) := by
  obtain ⟨e1, e2, g, k1, k2, s1, m1⟩ := z
  have hd := Nat.div_add_mod a b
  have hdI : (b : Int) * (a / b : Nat) + (a % b : Nat) = a := by
    rw [← hd]
    simp [hd]
    exact_mod_cast hd
  have neg : ∀ {x y : Int} {q : Nat}, (0 ≤ x ∧ y ≤ 0 ∨ x ≤ 0 ∧ 0 ≤ y) → (x - q * y).natAbs = x.natAbs + q * y.natAbs := fun {x y q} h => by
    rcases h with ⟨h1, h2⟩ | ⟨h1, h2⟩
    · have : (q : Int) * y ≤ 0 := Int.mul_nonpos_of_nonneg_of_nonpos (by omega) h2
      have e : ((q * y.natAbs : Nat) : Int) = -(q * y) := by
        rw [Int.natCast_mul, show ((y.natAbs : Nat) : Int) = -y by omega, Int.mul_neg]
      omega
    · have : 0 ≤ (q : Int) * y := Int.mul_nonneg (by omega) h2
      have e : ((q * y.natAbs : Nat) : Int) = q * y := by
        rw [Int.natCast_mul, show ((y.natAbs : Nat) : Int) = y by omega]
      omega
  have n1 : (s - (a / b : Nat) * u).natAbs = s.natAbs + (a / b) * u.natAbs := neg (s1.imp (fun h => ⟨h.1, h.2.1⟩) (fun h => ⟨h.1, h.2.1⟩))
  have n2 : (t - (a / b : Nat) * v).natAbs = t.natAbs + (a / b) * v.natAbs := neg (s1.symm.imp (fun h => ⟨h.2.2.1, h.2.2.2⟩) (fun h => ⟨h.2.2.1, h.2.2.2⟩))
  have kk : ∀ x y c : Nat, x * b + y * a = c → y * (a % b) + (x + a / b * y) * b = c := fun x y c h => by
    rw [← h, Nat.add_mul]
    have : y * a = y * (b * (a / b) + a % b) := by rw [hd]
    rw [this, Nat.mul_add]
    have : a / b * y * b = y * (b * (a / b)) := by ac_rfl
    omega
  have l1 := kk _ _ _ k1
  have l2 := kk _ _ _ k2
  refine ⟨e2, ?_, ?_, ?_, ?_, ?_, ⟨m1.2.2.1, m1.2.2.2, ?_, ?_⟩⟩
  · have : ((a % b : Nat) : Int) = a - b * (a / b : Nat) := by omega
    rw [this, e1, e2]
    simp only [Int.sub_mul, Int.add_mul]
    have x1 : (a / b : Nat) * u * (a0 : Int) = u * a0 * (a / b : Nat) := by ac_rfl
    have x2 : (a / b : Nat) * v * (b0 : Int) = v * b0 * (a / b : Nat) := by ac_rfl
    rw [x1, x2]
    omega
  · rw [← g, Nat.gcd_comm b, ← Nat.gcd_rec, Nat.gcd_comm]
  · rw [n1]; exact l1
  · rw [n2]; exact l2
  · have q0 : (0 : Int) ≤ (a / b : Nat) := Int.natCast_nonneg _
    rcases s1 with ⟨h1, h2, h3, h4⟩ | ⟨h1, h2, h3, h4⟩
    · have : ((a / b : Nat) : Int) * u ≤ 0 := Int.mul_nonpos_of_nonneg_of_nonpos q0 h2
      have : 0 ≤ ((a / b : Nat) : Int) * v := Int.mul_nonneg q0 h4
      exact .inr ⟨h2, by omega, h4, by omega⟩
    · have : 0 ≤ ((a / b : Nat) : Int) * u := Int.mul_nonneg q0 h2
      have : ((a / b : Nat) : Int) * v ≤ 0 := Int.mul_nonpos_of_nonneg_of_nonpos q0 h4
      exact .inl ⟨h2, by omega, h4, by omega⟩
  · rw [n1]
    have := mul_le_of (x := s.natAbs + a / b * u.natAbs) (b := b) (n := b0) (by omega) hb
    omega
  · rw [n2]
    have := mul_le_of (x := t.natAbs + a / b * v.natAbs) (b := b) (n := a0) (by omega) hb
    omega
theorem Bz.end_ {a0 b0 a b : Nat} {s t u v : Int} (z : Bz a0 b0 a b s t u v) (hb : b = 0) : a = Nat.gcd a0 b0 := by
  rw [← z.g, hb, Nat.gcd_zero_right]

theorem dvd_prod {y : Int} : ∀ {l : List Nat}, Cop l → (∀ d ∈ l, ((d : Nat) : Int) ∣ y) → ((prodN l : Nat) : Int) ∣ y
  | [], _, _ => by rw [prodN_nil]; exact Int.one_dvd y
  | d :: l, h, q => by
    rw [prodN_cons]
    have h1 := Int.natAbs_dvd_natAbs.mpr (q d List.mem_cons_self)
    have h2 := Int.natAbs_dvd_natAbs.mpr (dvd_prod h.2 fun z hz => q z (List.mem_cons_of_mem _ hz))
    rw [Int.natAbs_natCast] at h1 h2
    refine Int.natAbs_dvd_natAbs.mp ?_
    rw [Int.natAbs_natCast]
    exact Nat.Coprime.mul_dvd_of_dvd_of_dvd (cop_prod h.1) h1 h2
def bin (n : Int) : Nat → Int
  | 0 => 1
  | k + 1 => bin n k * (n - k) / (k + 1)
theorem ediv_natAbs_le (x : Int) {c : Int} (hc : 1 ≤ c) : (x / c).natAbs ≤ x.natAbs := by
  have h := Int.emod_add_mul_ediv x c
  have h0 := Int.emod_nonneg x (show c ≠ 0 by omega)
  have h1 := Int.emod_lt_of_pos x (show 0 < c by omega)
  rcases Int.lt_or_le (x / c) 0 with hq | hq
  · have : c * (x / c) ≤ c * (-1) := Int.mul_le_mul_of_nonneg_left (by omega) (by omega)
    have h2 : 1 * -(x / c + 1) ≤ c * -(x / c + 1) := Int.mul_le_mul_of_nonneg_right hc (by omega)
    have h3 : c * -(x / c + 1) = -(c * (x / c)) - c := by rw [Int.mul_neg, Int.mul_add, Int.mul_one]; omega
    omega
  · have : 1 * (x / c) ≤ c * (x / c) := Int.mul_le_mul_of_nonneg_right hc hq
    omega
theorem bin_bd {n : Int} {a : Nat} (h : n.natAbs + 12 < 2 ^ a) : ∀ k : Nat, k ≤ 12 → (bin n k).natAbs < 2 ^ (a * k + 1)
  | 0, _ => by
    show (1 : Int).natAbs < _
    rw [Nat.mul_zero, Nat.zero_add]
    decide
  | k + 1, hk => by
    have ih := bin_bd h k (by omega)
    show (bin n k * (n - k) / (k + 1)).natAbs < _
    refine Nat.lt_of_le_of_lt (ediv_natAbs_le _ (by omega)) ?_
    rw [Int.natAbs_mul, show a * (k + 1) + 1 = (a * k + 1) + a by rw [Nat.mul_add, Nat.mul_one]; omega, Nat.pow_add]
    exact Nat.mul_lt_mul'' ih (by omega)

end My
namespace My
theorem pow_lt2 {b a : Nat} (h : b < 2 ^ a) (i : Nat) : b ^ i < 2 ^ (a * i + 1) := by
  have h1 : b ^ i ≤ (2 ^ a) ^ i := Nat.pow_le_pow_left (by omega) i
  rw [← Nat.pow_mul] at h1
  rw [Nat.pow_succ]
  have : 0 < 2 ^ (a * i) := Nat.pow_pos (by omega)
  omega
theorem gcd_mod {g m k : Nat} {r : Int} (h : g ∣ m) (hk : r % (m : Int) = k) : Nat.gcd g k = Nat.gcd g r.natAbs := by
  have e : (k : Int) = r - m * (r / m) := by rw [← hk, Int.emod_def]
  have h1 : (g : Int) ∣ (m : Int) * (r / m) := Int.dvd_mul_of_dvd_left (Int.natCast_dvd_natCast.mpr h)
  refine Nat.dvd_antisymm ?_ ?_
  · refine Nat.dvd_gcd (Nat.gcd_dvd_left g k) ?_
    have a1 : ((Nat.gcd g k : Nat) : Int) ∣ (k : Int) := Int.natCast_dvd_natCast.mpr (Nat.gcd_dvd_right g k)
    have a2 : ((Nat.gcd g k : Nat) : Int) ∣ (m : Int) * (r / m) := Int.dvd_trans (Int.natCast_dvd_natCast.mpr (Nat.gcd_dvd_left g k)) h1
    have a3 := Int.dvd_add a1 a2
    rw [e, Int.sub_add_cancel] at a3
    have a4 := Int.natAbs_dvd_natAbs.mpr a3
    rwa [Int.natAbs_natCast] at a4
  · refine Nat.dvd_gcd (Nat.gcd_dvd_left g _) ?_
    have a1 : ((Nat.gcd g r.natAbs : Nat) : Int) ∣ r := by
      refine Int.natAbs_dvd_natAbs.mp ?_
      rw [Int.natAbs_natCast]
      exact Nat.gcd_dvd_right g _
    have a2 : ((Nat.gcd g r.natAbs : Nat) : Int) ∣ (m : Int) * (r / m) := Int.dvd_trans (Int.natCast_dvd_natCast.mpr (Nat.gcd_dvd_left g _)) h1
    have a3 := Int.dvd_sub a1 a2
    rw [← e] at a3
    exact Int.natCast_dvd_natCast.mp a3
end My

namespace My
open G (InR)
/-- multipliers for some numbers, below m -/
def sumM (ms ns : List Int) : Int := (List.zipWith (· * ·) ms ns).sum
def MulOk (m : Nat) (ns ms : List Int) (g : Nat) : Prop := ms.length = ns.length ∧ InR m ms ∧ (m : Int) ∣ sumM ms ns - g
theorem sumM_app : ∀ {ms ns : List Int} {a b : Int}, ms.length = ns.length → sumM (ms ++ [a]) (ns ++ [b]) = sumM ms ns + a * b
  | [], [], a, b, _ => by simp [sumM]
  | [], _ :: _, _, _, h => by simp at h
  | _ :: _, [], _, _, h => by simp at h
  | x :: ms, y :: ns, a, b, h => by
    have ih := sumM_app (ms := ms) (ns := ns) (a := a) (b := b) (by simpa using h)
    unfold sumM at ih ⊢
    rw [List.cons_append, List.cons_append, List.zipWith_cons_cons, List.zipWith_cons_cons, List.sum_cons, List.sum_cons, ih]
    omega
theorem sumM_mul {m : Nat} {s : Int} : ∀ {ms ns : List Int}, (m : Int) ∣ sumM (ms.map fun x => x * s % m) ns - s * sumM ms ns
  | [], _ => by simp [sumM]
  | _ :: _, [] => by simp [sumM]
  | x :: ms, y :: ns => by
    have ih := sumM_mul (m := m) (s := s) (ms := ms) (ns := ns)
    unfold sumM at ih ⊢
    rw [List.map_cons, List.zipWith_cons_cons, List.zipWith_cons_cons, List.sum_cons, List.sum_cons]
    have e : x * s % (m : Int) = x * s - m * (x * s / m) := Int.emod_def _ _
    have h1 : (m : Int) ∣ (x * s % m) * y - s * (x * y) := by
      refine ⟨-(x * s / m * y), ?_⟩
      rw [e, Int.sub_mul]
      have e1 : x * s * y = s * (x * y) := by ac_rfl
      have e2 : (m : Int) * (x * s / m) * y = m * (x * s / m * y) := by ac_rfl
      rw [e1, e2, Int.mul_neg]
      omega
    have h2 := Int.dvd_add h1 ih
    rw [Int.mul_add]
    refine (show ∀ a b : Int, a = b → (m : Int) ∣ a → (m : Int) ∣ b from fun a b e h => e ▸ h) _ _ ?_ h2
    omega
theorem mulOk_step {m : Nat} {ns ms : List Int} {g k : Nat} {r s t : Int} (hm : 1 ≤ m) (h1 : ms.length = ns.length) (h2 : InR m ms) (h3 : (m : Int) ∣ sumM ms ns - g) (hst : ((Nat.gcd g k : Nat) : Int) = s * g + t * k) (hk : r % (m : Int) = k) :
    MulOk m (ns ++ [r]) (ms.map (fun x => x * s % m) ++ [t % m]) (Nat.gcd g k) := by
  have hm0 : (m : Int) ≠ 0 := by omega
  have hm1 : (0 : Int) < m := by omega
  refine ⟨by rw [List.length_append, List.length_append, List.length_map, h1] <;> rfl, fun x hx => ?_, ?_⟩
  · rcases List.mem_append.mp hx with hx | hx
    · obtain ⟨y, _, rfl⟩ := List.mem_map.mp hx
      exact ⟨Int.emod_nonneg _ hm0, Int.emod_lt_of_pos _ hm1⟩
    · rw [List.mem_singleton.mp hx]
      exact ⟨Int.emod_nonneg _ hm0, Int.emod_lt_of_pos _ hm1⟩
  · rw [sumM_app (by rw [List.length_map]; exact h1)]
    have a1 := sumM_mul (m := m) (s := s) (ms := ms) (ns := ns)
    have a2 : (m : Int) ∣ s * (sumM ms ns - g) := Int.dvd_mul_of_dvd_right h3
    have a3 : (m : Int) ∣ t % m * r - t * k := by
      have e1 : t % (m : Int) = t - m * (t / m) := Int.emod_def _ _
      have e2 : (k : Int) = r - m * (r / m) := by rw [← hk, Int.emod_def]
      refine ⟨t * (r / m) - t / m * r, ?_⟩
      rw [e1, e2, Int.sub_mul, Int.mul_sub, Int.mul_sub]
      have x1 : (m : Int) * (t / m) * r = m * (t / m * r) := by ac_rfl
      have x2 : t * ((m : Int) * (r / m)) = m * (t * (r / m)) := by ac_rfl
      rw [x1, x2]
      omega
    have a4 := Int.dvd_add (Int.dvd_add a1 a2) a3
    refine (show ∀ a b : Int, a = b → (m : Int) ∣ a → (m : Int) ∣ b from fun a b e h => e ▸ h) _ _ ?_ a4
    rw [hst, Int.mul_sub]
    omega
end My

namespace My
end My

set_option Elab.async false
set_option linter.all false
set_option maxRecDepth 100000
set_option maxHeartbeats 4000000
namespace My
open G (InR)
/-- what holds at one integer and from each to its neighbours holds at all -/
theorem int_ind {P : Int → Prop} (k : Int) (h0 : P k) (up : ∀ n, P n → P (n + 1)) (dn : ∀ n, P (n + 1) → P n) (n : Int) : P n := by
  have a : ∀ d : Nat, P (k + d) := fun d => by
    induction d with
    | zero => rw [Int.natCast_zero, Int.add_zero]; exact h0
    | succ d ih => rw [show k + ((d + 1 : Nat) : Int) = k + d + 1 by omega]; exact up _ ih
  have b : ∀ d : Nat, P (k - d) := fun d => by
    induction d with
    | zero => rw [Int.natCast_zero, Int.sub_zero]; exact h0
    | succ d ih => exact dn _ (by rw [show k - ((d + 1 : Nat) : Int) + 1 = k - d by omega]; exact ih)
  rcases Int.le_total k n with h | h
  · have := a (n - k).toNat
    rwa [show k + ((n - k).toNat : Int) = n by omega] at this
  · have := b (k - n).toNat
    rwa [show k - ((k - n).toNat : Int) = n by omega] at this
theorem bin_both : ∀ k : Nat, (∀ n : Int, ((k : Int) + 1) * bin n (k + 1) = bin n k * (n - k)) ∧ ∀ n : Int, bin (n + 1) (k + 1) = bin n (k + 1) + bin n k
  | 0 => by
    have e : ∀ n : Int, bin n 1 = n := fun n => by
      show 1 * (n - ((0 : Nat) : Int)) / (((0 : Nat) : Int) + 1) = n
      rw [Int.natCast_zero, Int.sub_zero, Int.one_mul, Int.zero_add, Int.ediv_one]
    refine ⟨fun n => ?_, fun n => ?_⟩
    · rw [e]
      show (((0 : Nat) : Int) + 1) * n = 1 * (n - ((0 : Nat) : Int))
      omega
    · rw [e, e]
      rfl
  | k + 1 => by
    obtain ⟨ex, pa⟩ := bin_both k
    have st : ∀ n : Int, bin (n + 1) (k + 1) * ((n + 1) - ((k + 1 : Nat) : Int)) = bin n (k + 1) * (n - ((k + 1 : Nat) : Int)) + (((k + 1 : Nat) : Int) + 1) * bin n (k + 1) := fun n => by
      have h1 := ex n
      rw [pa n, Int.natCast_add]
      grind
    have dv : ∀ n : Int, (((k + 1 : Nat) : Int) + 1) ∣ bin n (k + 1) * (n - ((k + 1 : Nat) : Int)) := by
      refine int_ind ((k + 1 : Nat) : Int) ?_ (fun n h => ?_) fun n h => ?_
      · rw [Int.sub_self, Int.mul_zero]
        exact Int.dvd_zero _
      · rw [st n]
        exact Int.dvd_add h (Int.dvd_mul_right _ _)
      · rw [st n] at h
        exact (Int.dvd_iff_dvd_of_dvd_add h).mpr (Int.dvd_mul_right _ _)
    have e2 : ∀ n : Int, (((k + 1 : Nat) : Int) + 1) * bin n (k + 1 + 1) = bin n (k + 1) * (n - ((k + 1 : Nat) : Int)) := fun n => Int.mul_ediv_cancel' (dv n)
    refine ⟨e2, fun n => ?_⟩
    refine Int.eq_of_mul_eq_mul_left (a := ((k + 1 : Nat) : Int) + 1) (by omega) ?_
    rw [Int.mul_add, e2, e2, st n]
theorem bin_at0 : ∀ k : Nat, bin 0 (k + 1) = 0
  | 0 => rfl
  | k + 1 => by
    show bin 0 (k + 1) * (0 - ((k + 1 : Nat) : Int)) / (((k + 1 : Nat) : Int) + 1) = 0
    rw [bin_at0 k, Int.zero_mul, Int.zero_ediv]
theorem bin_less (n : Int) : ∀ j : Nat, ((j : Int) + 1) * bin n (j + 1) = n * bin (n - 1) j
  | 0 => by
    rw [(bin_both 0).1]
    show 1 * (n - ((0 : Nat) : Int)) = n * 1
    omega
  | j + 1 => by
    refine Int.eq_of_mul_eq_mul_left (a := (j : Int) + 1) (by omega) ?_
    have h1 := (bin_both (j + 1)).1 n
    have h2 := bin_less n j
    have h3 := (bin_both j).1 (n - 1)
    rw [h1]
    have h4 : ((j + 1 : Nat) : Int) = (j : Int) + 1 := by omega
    rw [h4]
    grind
/-- the sum of some coefficients times the binomials from an index on -/
def VK : Nat → List Int → Int → Int
  | _, [], _ => 0
  | k, c :: cs, n => c * bin n k + VK (k + 1) cs n
def V (cs : List Int) (n : Int) : Int := VK 0 cs n
theorem VK_up (n : Int) : ∀ (k : Nat) (cs : List Int), VK (k + 1) cs (n + 1) = VK (k + 1) cs n + VK k cs n
  | _, [] => rfl
  | k, c :: cs => by
    show c * bin (n + 1) (k + 1) + VK (k + 1 + 1) cs (n + 1) = c * bin n (k + 1) + VK (k + 1 + 1) cs n + (c * bin n k + VK (k + 1) cs n)
    rw [VK_up n (k + 1) cs, (bin_both k).2, Int.mul_add]
    omega
theorem VK_at0 : ∀ (k : Nat) (cs : List Int), VK (k + 1) cs 0 = 0
  | _, [] => rfl
  | k, c :: cs => by
    show c * bin 0 (k + 1) + VK (k + 1 + 1) cs 0 = 0
    rw [bin_at0, VK_at0 (k + 1) cs, Int.mul_zero]
    rfl
theorem V_cons (c : Int) (cs : List Int) (n : Int) : V (c :: cs) n = c + VK 1 cs n := by
  show c * 1 + VK 1 cs n = _
  rw [Int.mul_one]
theorem V_at0 (c : Int) (cs : List Int) : V (c :: cs) 0 = c := by rw [V_cons, VK_at0, Int.add_zero]
theorem V_up (c : Int) (cs : List Int) (n : Int) : V (c :: cs) (n + 1) = V (c :: cs) n + V cs n := by
  rw [V_cons, V_cons, VK_up]
  exact (Int.add_assoc c (VK 1 cs n) (VK 0 cs n)).symm
theorem V_nil (n : Int) : V [] n = 0 := rfl
/-- two rows that begin alike and change alike -/
theorem rows_eq {f g : Int → Int} (h0 : f 0 = g 0) (h : ∀ n, f (n + 1) - f n = g (n + 1) - g n) : ∀ n, f n = g n := by
  refine int_ind 0 h0 (fun n e => ?_) fun n e => ?_
  · have := h n
    omega
  · have := h n
    omega
def mv : List Int → Int → List Int
  | [], _ => []
  | c :: cs, b => V (c :: cs) b :: mv cs b
theorem mv_val (b : Int) : ∀ (cs : List Int) (n : Int), V (mv cs b) n = V cs (b + n)
  | [], _ => rfl
  | c :: cs, n => by
    refine rows_eq (f := fun n => V (mv (c :: cs) b) n) (g := fun n => V (c :: cs) (b + n)) ?_ (fun n => ?_) n
    · show V (V (c :: cs) b :: mv cs b) 0 = _
      rw [V_at0, Int.add_zero]
    · show V (V (c :: cs) b :: mv cs b) (n + 1) - V (V (c :: cs) b :: mv cs b) n = V (c :: cs) (b + (n + 1)) - V (c :: cs) (b + n)
      rw [V_up, mv_val b cs n, show b + (n + 1) = b + n + 1 by omega, V_up]
      omega
theorem mv_at (b : Int) : ∀ (cs : List Int) (i : Nat), (mv cs b).getD i 0 = V (cs.drop i) b
  | [], _ => by simp [mv, V_nil]
  | c :: cs, 0 => rfl
  | c :: cs, i + 1 => mv_at b cs i
def Cg (m : Int) (xs ys : List Int) : Prop := ∀ i : Nat, m ∣ xs.getD i 0 - ys.getD i 0
theorem Cg.refl (m : Int) (xs : List Int) : Cg m xs xs := fun i => by rw [Int.sub_self]; exact Int.dvd_zero _
theorem Cg.symm {m : Int} {xs ys : List Int} (h : Cg m xs ys) : Cg m ys xs := fun i => by
  have := Int.dvd_neg.mpr (h i)
  rwa [Int.neg_sub] at this
theorem Cg.trans {m : Int} {xs ys zs : List Int} (h : Cg m xs ys) (k : Cg m ys zs) : Cg m xs zs := fun i => by
  have := Int.dvd_add (h i) (k i)
  rwa [show xs.getD i 0 - ys.getD i 0 + (ys.getD i 0 - zs.getD i 0) = xs.getD i 0 - zs.getD i 0 by omega] at this
theorem Cg.mono {m M : Int} {xs ys : List Int} (h : Cg M xs ys) (d : m ∣ M) : Cg m xs ys := fun i => Int.dvd_trans d (h i)
theorem VK_cg {m : Int} (n : Int) : ∀ (xs ys : List Int) (k : Nat), Cg m xs ys → m ∣ VK k xs n - VK k ys n
  | [], [], _, _ => by exact ⟨0, by show (0 : Int) - 0 = m * 0; rw [Int.mul_zero]; rfl⟩
  | [], y :: ys, k, h => by
    have h1 : m ∣ 0 - y := h 0
    have h2 := VK_cg n [] ys (k + 1) fun i => h (i + 1)
    show m ∣ 0 - (y * bin n k + VK (k + 1) ys n)
    have e : (0 : Int) - (y * bin n k + VK (k + 1) ys n) = (0 - y) * bin n k + (VK (k + 1) [] n - VK (k + 1) ys n) := by
      show _ = _ + (0 - VK (k + 1) ys n)
      grind
    rw [e]
    exact Int.dvd_add (Int.dvd_mul_of_dvd_left h1) h2
  | x :: xs, [], k, h => by
    have h1 : m ∣ x - 0 := h 0
    have h2 := VK_cg n xs [] (k + 1) fun i => h (i + 1)
    show m ∣ (x * bin n k + VK (k + 1) xs n) - 0
    have e : (x * bin n k + VK (k + 1) xs n) - 0 = (x - 0) * bin n k + (VK (k + 1) xs n - VK (k + 1) [] n) := by
      show _ = _ + (VK (k + 1) xs n - 0)
      grind
    rw [e]
    exact Int.dvd_add (Int.dvd_mul_of_dvd_left h1) h2
  | x :: xs, y :: ys, k, h => by
    have h1 : m ∣ x - y := h 0
    have h2 := VK_cg n xs ys (k + 1) fun i => h (i + 1)
    show m ∣ (x * bin n k + VK (k + 1) xs n) - (y * bin n k + VK (k + 1) ys n)
    have e : (x * bin n k + VK (k + 1) xs n) - (y * bin n k + VK (k + 1) ys n) = (x - y) * bin n k + (VK (k + 1) xs n - VK (k + 1) ys n) := by grind
    rw [e]
    exact Int.dvd_add (Int.dvd_mul_of_dvd_left h1) h2
theorem emod_of_dvd {m a b : Int} (h : m ∣ a - b) : a % m = b % m := by
  obtain ⟨k, hk⟩ := h
  have : a = b + m * k := by omega
  rw [this, Int.add_mul_emod_self_left]
theorem V_cg {m : Int} {xs ys : List Int} (h : Cg m xs ys) (n : Int) : V xs n % m = V ys n % m := emod_of_dvd (VK_cg n xs ys 0 h)
def cut : List Int → List Int
  | [] => []
  | x :: xs => if cut xs = [] ∧ x = 0 then [] else x :: cut xs
def tr (m : Int) (xs : List Int) : List Int := cut (xs.map (· % m))
theorem cut_at : ∀ (xs : List Int) (i : Nat), (cut xs).getD i 0 = xs.getD i 0
  | [], _ => rfl
  | x :: xs, i => by
    unfold cut
    by_cases h : cut xs = [] ∧ x = 0
    · rw [if_pos h, h.2]
      cases i with
      | zero => rfl
      | succ i =>
        have := cut_at xs i
        rw [h.1] at this
        exact this
    · rw [if_neg h]
      cases i with
      | zero => rfl
      | succ i => exact cut_at xs i
theorem cut_nil : ∀ {xs : List Int}, cut xs = [] ↔ ∀ i : Nat, xs.getD i 0 = 0
  | [] => by simp [cut]
  | x :: xs => by
    unfold cut
    by_cases h : cut xs = [] ∧ x = 0
    · rw [if_pos h]
      refine ⟨fun _ i => ?_, fun _ => rfl⟩
      cases i with
      | zero => exact h.2
      | succ i => exact cut_nil.mp h.1 i
    · rw [if_neg h]
      refine ⟨fun z => (by cases z), fun z => absurd ⟨cut_nil.mpr fun i => z (i + 1), z 0⟩ h⟩
theorem cut_ext : ∀ {xs ys : List Int}, (∀ i : Nat, xs.getD i 0 = ys.getD i 0) → cut xs = cut ys
  | [], ys, h => ((cut_nil (xs := ys)).mpr fun i => (h i).symm.trans (by simp)).symm
  | x :: xs, [], h => (cut_nil (xs := x :: xs)).mpr fun i => (h i).trans (by simp)
  | x :: xs, y :: ys, h => by
    have e : x = y := h 0
    have e2 : cut xs = cut ys := cut_ext fun i => h (i + 1)
    unfold cut
    rw [e, e2]
theorem cut_cut (xs : List Int) : cut (cut xs) = cut xs := cut_ext (cut_at xs)
theorem cut_len : ∀ xs : List Int, (cut xs).length ≤ xs.length
  | [] => Nat.le_refl _
  | x :: xs => by
    have := cut_len xs
    unfold cut
    by_cases h : cut xs = [] ∧ x = 0
    · rw [if_pos h]
      exact Nat.zero_le _
    · rw [if_neg h, List.length_cons, List.length_cons]
      omega
theorem cut_mem : ∀ {xs : List Int} {x : Int}, x ∈ cut xs → x ∈ xs
  | [], _, h => h
  | y :: ys, x, h => by
    unfold cut at h
    by_cases g : cut ys = [] ∧ y = 0
    · rw [if_pos g] at h
      cases h
    · rw [if_neg g] at h
      rcases List.mem_cons.mp h with rfl | h
      · exact List.mem_cons_self
      · exact List.mem_cons_of_mem _ (cut_mem h)
theorem cut_snoc0 (xs : List Int) : cut (xs ++ [0]) = cut xs := cut_ext fun i => by
  rw [List.getD_eq_getElem?_getD, List.getD_eq_getElem?_getD, List.getElem?_append]
  by_cases h : i < xs.length
  · rw [if_pos h]
  · rw [if_neg h, List.getElem?_eq_none (by omega : xs.length ≤ i)]
    cases i - xs.length with
    | zero => rfl
    | succ j => rfl
theorem cut_snoc {x : Int} (hx : x ≠ 0) : ∀ xs : List Int, cut (xs ++ [x]) = xs ++ [x]
  | [] => by
    show (if cut [] = [] ∧ x = 0 then [] else x :: cut []) = [x]
    rw [if_neg (fun z => hx z.2)]
    rfl
  | y :: ys => by
    show (if cut (ys ++ [x]) = [] ∧ y = 0 then [] else y :: cut (ys ++ [x])) = y :: (ys ++ [x])
    rw [cut_snoc hx ys, if_neg (fun z => by simp at z)]
theorem getD_map {f : Int → Int} (h0 : f 0 = 0) : ∀ (xs : List Int) (i : Nat), (xs.map f).getD i 0 = f (xs.getD i 0)
  | [], _ => h0.symm
  | x :: xs, 0 => rfl
  | x :: xs, i + 1 => getD_map h0 xs i
theorem tr_len (m : Int) (xs : List Int) : (tr m xs).length ≤ xs.length := by
  have := cut_len (xs.map (· % m))
  rwa [List.length_map] at this
theorem tr_in {m : Int} (hm : 0 < m) (xs : List Int) : InR m (tr m xs) := fun x hx => by
  obtain ⟨y, _, rfl⟩ := List.mem_map.mp (cut_mem hx)
  exact ⟨Int.emod_nonneg _ (by omega), Int.emod_lt_of_pos _ hm⟩
theorem tr_cut (m : Int) (xs : List Int) : cut (tr m xs) = tr m xs := cut_cut _
theorem tr_zeros (m : Int) (xs : List Int) : ∀ k : Nat, tr m (xs ++ List.replicate k 0) = tr m xs
  | 0 => by rw [List.replicate_zero, List.append_nil]
  | k + 1 => by
    have e : xs ++ List.replicate (k + 1) 0 = (xs ++ List.replicate k 0) ++ [0] := by rw [List.replicate_succ', List.append_assoc]
    rw [e]
    unfold tr
    rw [List.map_append, List.map_singleton, Int.zero_emod, cut_snoc0]
    exact tr_zeros m xs k
theorem bin_per {m t : Int} {j : Nat} (h1 : 1 ≤ j) (h2 : j ≤ 12) : m ∣ bin (27720 * m * t) j := by
  obtain ⟨i, rfl⟩ : ∃ i, j = i + 1 := ⟨j - 1, by omega⟩
  obtain ⟨q, hq⟩ : ∃ q : Int, ((i : Int) + 1) * q = 27720 := by
    have : i = 0 ∨ i = 1 ∨ i = 2 ∨ i = 3 ∨ i = 4 ∨ i = 5 ∨ i = 6 ∨ i = 7 ∨ i = 8 ∨ i = 9 ∨ i = 10 ∨ i = 11 := by omega
    rcases this with rfl | rfl | rfl | rfl | rfl | rfl | rfl | rfl | rfl | rfl | rfl | rfl
    · exact ⟨27720, rfl⟩
    · exact ⟨13860, rfl⟩
    · exact ⟨9240, rfl⟩
    · exact ⟨6930, rfl⟩
    · exact ⟨5544, rfl⟩
    · exact ⟨4620, rfl⟩
    · exact ⟨3960, rfl⟩
    · exact ⟨3465, rfl⟩
    · exact ⟨3080, rfl⟩
    · exact ⟨2772, rfl⟩
    · exact ⟨2520, rfl⟩
    · exact ⟨2310, rfl⟩
  have e := bin_less (27720 * m * t) i
  have e2 : bin (27720 * m * t) (i + 1) = m * (q * t * bin (27720 * m * t - 1) i) := by
    refine Int.eq_of_mul_eq_mul_left (a := (i : Int) + 1) (by omega) ?_
    rw [e]
    generalize bin (27720 * m * t - 1) i = z
    rw [← hq]
    grind
  rw [e2]
  exact Int.dvd_mul_right _ _
theorem VK_dvd {m n : Int} : ∀ (k : Nat) (cs : List Int), (∀ j : Nat, k ≤ j → j < k + cs.length → m ∣ bin n j) → m ∣ VK k cs n
  | _, [], _ => Int.dvd_zero m
  | k, c :: cs, h => Int.dvd_add (Int.dvd_mul_of_dvd_right (h k (Nat.le_refl _) (by rw [List.length_cons]; omega))) (VK_dvd (k + 1) cs fun j h1 h2 => h j (by omega) (by rw [List.length_cons]; omega))
theorem mv_per {m t : Int} {cs : List Int} (h : cs.length ≤ 13) : Cg m (mv cs (27720 * m * t)) cs := fun i => by
  rw [mv_at]
  have hl : (cs.drop i).length ≤ 13 := by rw [List.length_drop]; omega
  have e : cs.getD i 0 = (cs.drop i).getD 0 0 := by
    rw [List.getD_eq_getElem?_getD, List.getD_eq_getElem?_getD, List.getElem?_drop]
    rfl
  rw [e]
  cases hc : cs.drop i with
  | nil => exact ⟨0, by show V [] _ - 0 = _; rw [V_nil, Int.mul_zero]; rfl⟩
  | cons c r =>
    rw [hc, List.length_cons] at hl
    rw [V_cons]
    show m ∣ c + VK 1 r _ - c
    rw [show c + VK 1 r (27720 * m * t) - c = VK 1 r (27720 * m * t) by omega]
    exact VK_dvd 1 r fun j h1 h2 => bin_per h1 (by omega)
theorem V_per {m t : Int} {cs : List Int} (h : cs.length ≤ 13) (n : Int) : V cs (n + 27720 * m * t) % m = V cs n % m := by
  rw [Int.add_comm, ← mv_val]
  exact V_cg (mv_per h) n
def diff : List Int → List Int
  | a :: b :: r => (b - a) :: diff (b :: r)
  | _ => []
def dvN : Nat → List Int → List Int
  | n + 1, x :: xs => x :: dvN n (diff (x :: xs))
  | _, _ => []
def dv (xs : List Int) : List Int := dvN xs.length xs
/-- the first values of a row -/
def row (f : Int → Int) (n : Nat) : List Int := (List.range n).map fun i : Nat => f (i : Int)
end My

set_option Elab.async false
set_option linter.all false
set_option maxRecDepth 100000
set_option maxHeartbeats 4000000
namespace G
open PySem PySem.Spec PyProof.Rows L2
section
variable {K : PySem.W.Frag} {W : WX} {O : List OD} {ts : List T} {P : PT'} {X : XX} {te : TE} {tt : TT}
theorem w_lcO {wi : TI} {g : TG} {vs : List Nat} (hg : Tgt g vs) (h : WI K W wi O ts (fun f O1 => ∃ (n : Nat) (I : Nat → List D → List OD → Prop), (∀ i, i < n → f i ≠ none) ∧ f n = none ∧ I 0 [] O1 ∧ (∀ i acc O', I i acc O' → O'.length = O1.length) ∧
      (∀ i t acc O', i < n → f i = some t → I i acc O' → WG K W g t (O' ++ [.lst acc]) (wipeT ts vs) (fun ts2 O2 => WT K W tt O2 ts2 (fun c O3 =>
        (c = true → WE K W te O3 ts2 (fun y O4 => ∃ d O5, y = .v d ∧ O4 = O5 ++ [.lst acc] ∧ acc.length < sizeLine ∧ I (i + 1) (acc ++ [d]) O5) X0) ∧ (c = false → ∃ O5, O3 = O5 ++ [.lst acc] ∧ I (i + 1) acc O5)) X0)) ∧
      (∀ acc O', I n acc O' → P (.own O1.length) (O' ++ [.lst acc]))) X) : WE K W (tLc wi g tt te vs) O ts P X := fun b A σ H Q s rs kv kx =>
  h b A σ H _ s rs (fun J f A1 O1 H1 p s1 n1 fc => by
    obtain ⟨n, I, hf, hn, h0, hlen, hs, hd⟩ := p
    intro Dl hD
    obtain ⟨s2, n2⟩ := s1.own (u := .lst []) (o := .lst []) hD ⟨[], upd_same, rfl⟩
    have at_ : ∀ {O' : List OD} {acc : List D}, O'.length = O1.length → (O' ++ [OD.lst acc])[A1.length]? = some (.lst acc) := fun {O' acc} e => by
      rw [s1.len, List.getElem?_append_right (by omega), e, Nat.sub_self]
      exact rfl
    have atA : (A1 ++ [Dl])[A1.length]? = some Dl := by
      rw [List.getElem?_append_right (Nat.le_refl _), Nat.sub_self]
      exact rfl
    refine ⟨fun i m H' => m = n - i ∧ i ≤ n ∧ ∃ acc O', I i acc O' ∧ StO K b (A1 ++ [Dl]) (O' ++ [.lst acc]) H' ∧ Nxt b A1 O1 H1 (A1 ++ [Dl]) (O' ++ [.lst acc]) H', ⟨n, by omega, Nat.zero_le _, [], O1, h0, s2, n2⟩, ?_⟩
    rintro i m H' ⟨rfl, hi, acc, O', hI, s', n'⟩
    have hl := hlen i acc O' hI
    obtain ⟨c1, c2⟩ := fc i _ _ H' s' n'
    by_cases hlt : i < n
    · right
      obtain ⟨t, ht⟩ := Option.ne_none_iff_exists'.mp (hf i hlt)
      obtain ⟨hgo, hy⟩ := c2 t ht
      refine ⟨hgo, fun H2 => ∃ acc2 O2, I (i + 1) acc2 O2 ∧ StO K b (A1 ++ [Dl]) (O2 ++ [.lst acc2]) H2 ∧ Nxt b A1 O1 H1 (A1 ++ [Dl]) (O2 ++ [.lst acc2]) H2, fun H2 q => ⟨n - (i + 1), by omega, rfl, hlt, q⟩, fun x H3 y => ?_⟩
      obtain ⟨s3, n3, r3⟩ := hy x H3 y
      have rsw : RepS K (Fz b (A1 ++ [Dl]) (O' ++ [.lst acc]) H3) (A1 ++ [Dl]) (wipeT ts vs) (wipe σ vs) := repS_wipe (rs.nxt ((n1.trans n').trans n3)) vs
      have key := hs i t acc O' hlt ht hI b (A1 ++ [Dl]) (wipe σ vs) H3 (fun σ2 H2 => tt σ2 H2 fun c H4 => if c = true then te σ2 H4 fun y H5 => ∃ acc, H5 Dl = some (.lst acc) ∧ acc.length < sizeLine ∧ ∃ acc2 O2, I (i + 1) acc2 O2 ∧ StO K b (A1 ++ [Dl]) (O2 ++ [.lst acc2]) (upd H5 Dl (.lst (acc ++ [y]))) ∧ Nxt b A1 O1 H1 (A1 ++ [Dl]) (O2 ++ [.lst acc2]) (upd H5 Dl (.lst (acc ++ [y])))
        else ∃ acc2 O2, I (i + 1) acc2 O2 ∧ StO K b (A1 ++ [Dl]) (O2 ++ [.lst acc2]) H4 ∧ Nxt b A1 O1 H1 (A1 ++ [Dl]) (O2 ++ [.lst acc2]) H4) x s3 rsw r3 fun ts4 σ4 A4 O4 H4 p4 s4 n4 rs4 => ?_
      · have k2 := hg x (wipe σ vs) H3 _ key
        have ww : wipe (wipe σ vs) vs = wipe σ vs := by
          refine List.ext_getElem? fun i => ?_
          rw [wipe_get, wipe_get]
          by_cases hi : i ∈ vs
          · rw [if_pos hi, if_pos hi]
            cases σ[i]? <;> rfl
          · rw [if_neg hi, if_neg hi]
        rw [ww] at k2
        exact k2
      · have n14 := (n'.trans n3).trans n4
        refine p4 b A4 σ4 H4 _ s4 rs4 (fun c A5 O5 H5 p5 s5 n5 => ?_) (fun C fs A' O' H' d z => z.elim)
        have n15 := n14.trans n5
        have prefixA : ∀ {A6 O6 H6}, Nxt b A1 O1 H1 A6 O6 H6 → Nxt b (A1 ++ [Dl]) (O' ++ [.lst acc]) H' A6 O6 H6 → StO K b A6 O6 H6 → O6.length = O1.length + 1 → A6 = A1 ++ [Dl] := fun {A6 O6 H6} n6 m6 s6 l6 => by
          obtain ⟨M, e⟩ := m6.pre
          have l7 := s6.len
          rw [e, List.length_append, List.length_append, s1.len] at l7
          have : M.length = 0 := by
            simp only [List.length_singleton] at l7
            omega
          rw [e, List.length_eq_zero_iff.mp this, List.append_nil]
        cases c with
        | true =>
          refine iteT (p5.1 rfl b A5 σ4 H5 _ s5 (rs4.nxt n5) (fun y v A6 O6 H6 p6 s6 n6 r6 => ?_) (fun C fs A' O' H' d z => z.elim))
          obtain ⟨d, O7, rfl, rfl, hz, hI2⟩ := p6
          have hl7 := hlen _ _ _ hI2
          have eA := prefixA (n'.trans (((n3.trans n4).trans n5).trans n6)) (((n3.trans n4).trans n5).trans n6) s6 (by rw [List.length_append, hl7] <;> rfl)
          subst eA
          obtain ⟨us, h1, h2⟩ := s6.cell A1.length Dl _ atA (at_ hl7)
          obtain ⟨w, e2, rd⟩ := r6
          cases e2
          refine ⟨us, h1, by rw [h2.length]; exact hz, acc ++ [d], O7, hI2, ?_⟩
          obtain ⟨s8, n8⟩ := s6.put (w := .lst (us ++ [v])) (o := .lst (acc ++ [d])) atA (at_ hl7) (fun z => by cases z) (fun z => by cases z) ⟨_, upd_same, h2.append ⟨v, [], rfl, rd, rfl⟩⟩
          have es : (O7 ++ [OD.lst acc]).set A1.length (.lst (acc ++ [d])) = O7 ++ [.lst (acc ++ [d])] := by
            rw [s1.len, ← hl7, List.set_append_right _ _ (Nat.le_refl _), Nat.sub_self]
            exact rfl
          rw [es] at s8 n8
          exact ⟨s8, n'.trans ((((n3.trans n4).trans n5).trans n6).trans n8)⟩
        | false =>
          refine iteF ?_
          obtain ⟨O7, rfl, hI2⟩ := p5.2 rfl
          have hl7 := hlen _ _ _ hI2
          have eA := prefixA (n'.trans ((n3.trans n4).trans n5)) ((n3.trans n4).trans n5) s5 (by rw [List.length_append, hl7] <;> rfl)
          subst eA
          exact ⟨acc, O7, hI2, s5, n'.trans ((n3.trans n4).trans n5)⟩
    · left
      have e : i = n := by omega
      subst e
      refine ⟨c1 hn hf, ?_⟩
      exact kv _ _ (A1 ++ [Dl]) _ H' (hd acc O' hI) s' (n1.trans n') ⟨Dl, by rw [← s1.len]; exact atA, rfl⟩) kx

def LcExO (K : PySem.W.Frag) (g : TG) (te : TE) (vs : List Nat) (P : PT') (ts : List T) (f : Nat → Option T) (O1 : List OD) (W : WX) : Prop :=
  ∃ (n : Nat) (I : Nat → List D → List OD → Prop), (∀ i, i < n → f i ≠ none) ∧ f n = none ∧ I 0 [] O1 ∧ (∀ i acc O', I i acc O' → O'.length = O1.length) ∧
      (∀ i t acc O', i < n → f i = some t → I i acc O' → WG K W g t (O' ++ [.lst acc]) (wipeT ts vs) (fun ts2 O2 => WT K W tYes O2 ts2 (fun c O3 =>
        (c = true → WE K W te O3 ts2 (fun y O4 => ∃ d O5, y = .v d ∧ O4 = O5 ++ [.lst acc] ∧ acc.length < sizeLine ∧ I (i + 1) (acc ++ [d]) O5) X0) ∧ (c = false → ∃ O5, O3 = O5 ++ [.lst acc] ∧ I (i + 1) acc O5)) X0)) ∧
      (∀ acc O', I n acc O' → P (.own O1.length) (O' ++ [.lst acc]))
theorem w_lcO1 {wi : TI} {i : Nat} {vs : List Nat} (h : WI K W wi O ts (fun f O1 => LcExO K (gName i) te vs P ts f O1 W) X) (hm : i ∈ vs) : WE K W (tLc wi (gName i) tYes te vs) O ts P X := w_lcO (tgt_name hm) h
theorem lcO_A {g : TG} {vs : List Nat} {α : Type} (xs : List α) (e f : α → D) (hz : xs.length ≤ 1000000)
    (hs : ∀ x acc, x ∈ xs → WG K W g (.v (e x)) (O ++ [.lst acc]) (wipeT ts vs) (fun ts2 O2 => WE K W te O2 ts2 (fun y O4 => y = .v (f x) ∧ O4 = O ++ [.lst acc]) X0))
    (hd : P (.own O.length) (O ++ [.lst (xs.map f)])) : LcExO K g te vs P ts (itD (xs.map e)) O W := by
  have at_ : ∀ i, i < xs.length → ∃ x, xs[i]? = some x ∧ x ∈ xs ∧ itD (xs.map e) i = some (.v (e x)) := fun i hi => by
    refine ⟨xs[i], List.getElem?_eq_getElem hi, List.getElem_mem hi, ?_⟩
    unfold itD
    rw [List.getElem?_map, List.getElem?_eq_getElem hi] <;> rfl
  refine ⟨xs.length, fun i acc O' => O' = O ∧ acc = (xs.take i).map f ∧ i ≤ xs.length, fun i hi z => ?_, ?_, ⟨rfl, by rw [List.take_zero]; rfl, Nat.zero_le _⟩, fun i acc O' z => by rw [z.1], fun i t acc O' hi ht z => ?_, fun acc O' z => ?_⟩
  · obtain ⟨x, _, _, q⟩ := at_ i hi
    rw [q] at z
    cases z
  · unfold itD
    rw [List.getElem?_eq_none (by rw [List.length_map]; exact Nat.le_refl _)] <;> rfl
  · obtain ⟨x, hx, hm, q⟩ := at_ i hi
    rw [q] at ht
    cases ht
    obtain ⟨rfl, rfl, _⟩ := z
    refine (hs x _ hm).imp fun ts2 O2 k => w_yes ⟨fun _ => k.imp fun y O4 p => ?_, fun z => by cases z⟩
    obtain ⟨rfl, rfl⟩ := p
    have hl : ((xs.take i).map f).length < sizeLine := by
      rw [List.length_map, List.length_take]
      exact Nat.lt_of_lt_of_le (show min i xs.length < 1000000 by omega) (Nat.le_of_ble_eq_true rfl)
    exact ⟨_, _, rfl, rfl, hl, rfl, by rw [List.take_succ, hx, List.map_append]; rfl, hi⟩
  · obtain ⟨rfl, rfl, _⟩ := z
    rw [List.take_length]
    exact hd
theorem c_max2 {i j : Int} (k : P (.v (.int (if j > i then j else i))) O) : WC K (fun xs H Q => ∃ i j, xs = [.int i, .int j] ∧ Q (.int (if j > i then j else i)) H) [.v (.int i), .v (.int j)] O P := fun b A H Q vs s r kv => by
  obtain ⟨_, _, rfl, ⟨_, e1, r1⟩, _, _, rfl, ⟨_, e2, r2⟩, rfl⟩ := r
  cases e1
  cases e2
  exact ⟨i, j, by rw [r1, r2], kv _ _ A O H k s Nxt.refl ⟨_, rfl, rfl⟩⟩
end
end G
namespace My
open G (InR)
end My

set_option Elab.async false
set_option linter.all false
set_option maxRecDepth 100000
set_option maxHeartbeats 4000000
namespace G
open PySem PySem.Spec PyProof.Rows L2
theorem pe_makeZ {X : Cx} {CX : CXT} {k : Nat} {f C : Addr} {sp : Sp} {E : XK} {x : Str} {e : Expr} {es : List Expr} {t : TA} {p pos : Pos} (M : Mk X.K C f) (F : FnR X.prog X.w X.K X.mg X.base CX k f sp) (hr : Room (k + 1) X.A) (hg : Gl X x)
    (hm : X.mg x = some (.ref C)) (hx : Passes CX X E) (ha : PA X (e :: es) t) (hdb : (x == ("__debug__" : Str)) = false := by decide) (h1 : starEach (e :: es) X.env = (false, eval e X.env) :: starEach es X.env := by rfl)
    (h2 : (backTo pos (starEach es X.env)).any (·.1) = true := by rfl) : PE X (.Call (.Name x p) (e :: es) [] pos) (StX.tMakeR C sp E t) :=
  ⟨fun pins s σ H Q I h => wpAny_Call_Name_kw (ld_glob I hg hm (PySem.W.callWith_S2 (h₀ := X.base) I.ok.mod.kin M.kp (thn (ha.run pos pins s σ H _ I h) fun us s1 z => by
    obtain ⟨vs, H1, I1, r, q⟩ := z
    exact ⟨I1.kIn, StX.run_makeR M F hr hx I1 r q⟩) h1 h2) hdb)⟩
end G

set_option Elab.async false
set_option linter.all false
set_option maxRecDepth 100000
set_option maxHeartbeats 4000000
namespace My2
open PySem PySem.W PyProof.Rows
section
variable {pr : Program} {wo : World} {B : Around} {Er : Value → Shared → Prop} {st : Shared} {K : Frag} {a cl lo me : Addr} {base : Heap} {nsm : Str → Option Value} {oa : Obj} {da : Option Obj}
end
end My2
namespace G
open PySem PySem.Spec PyProof.Rows L2
end G

set_option Elab.async false
set_option linter.all false
set_option maxRecDepth 100000
set_option maxHeartbeats 4000000
namespace G
open PySem PySem.Spec PyProof.Rows L2
end G

set_option Elab.async false
set_option linter.all false
set_option maxRecDepth 100000
set_option maxHeartbeats 4000000
namespace G
open PySem PySem.Spec PyProof.Rows L2
/-- the integers from a on below b -/
def rgI (a b : Int) : List Int := (List.range (b - a).toNat).map fun i : Nat => a + (i : Int)
theorem rgI_len (a b : Int) : (rgI a b).length = (b - a).toNat := by
  unfold rgI
  rw [List.length_map, List.length_range]
theorem repL_nums {K : PySem.W.Frag} {F : Hp} : ∀ ns : List Int, RepL K F (nums ns) (ns.map V.int)
  | [] => rfl
  | n :: ns => ⟨.int n, _, rfl, rfl, repL_nums ns⟩
section
variable {K : PySem.W.Frag} {W : WX} {O : List OD} {ts : List T} {P : PT'} {X : XX} {ta tb : TE}
variable {g : TG} {te : TE} {vs : List Nat}
/-- [e for x in range(lo, hi)] -/
theorem lc_R2 {lo : Int} {n : Nat} (r : Int → D) (hz : n ≤ 1000000)
    (hs : ∀ (i : Nat) acc, i < n → WG K W g (.v (.int (lo + i))) (O ++ [.lst acc]) (wipeT ts vs) (fun ts2 O2 => WE K W te O2 ts2 (fun y O4 => y = .v (r (lo + i)) ∧ O4 = O ++ [.lst acc]) X0))
    (hd : P (.v (.lst ((List.range n).map fun i : Nat => r (lo + i)))) O) : LcEx K W g te vs P ts (itR lo 1 n) O :=
  lc_P (item := fun i : Nat => .v (.int (lo + i))) (fun i : Nat => r (lo + i)) (fun i hi => by
    unfold itR
    rw [if_pos hi, Int.mul_one]) (by unfold itR; rw [if_neg (Nat.lt_irrefl n)]) hz hs hd
end
end G

set_option Elab.async false
set_option linter.all false
set_option maxRecDepth 100000
set_option maxHeartbeats 4000000
namespace G
open PySem PySem.Spec PyProof.Rows L2
/-- the texts one behind the other -/
def tJn (tes : List TE) (acc : Str) : TE := fun σ H Q => tJs tes acc σ H fun out H1 => Q (.str out) H1
def rJoin (K : PySem.W.Frag) : V → List V → Hp → VK → Prop := fun x xs H Q => ∃ a p, ∃ ys : List Str, x = .str a ∧ xs = [.ref p] ∧ (SqL K H p (ys.map V.str) ∨ SqT K H p (ys.map V.str)) ∧ (ys.map (·.length)).sum + ys.length * a.length ≤ 16777216 ∧ Q (.str (Txt.join a ys)) H
theorem pe_joinK (K : PySem.W.Frag) {X : Cx} {o e : Expr} {to te : TE} {apos pos : Pos} (ho : PE X o to) (he : PE X e te) (hs : starEach [e] X.env = [(false, eval e X.env)] := by rfl) (hb : attributeBase o "join" X.env (eval o X.env) = eval o X.env := by rfl) (hl : (apos.endLine == pos.line) = true := by rfl) (hK : X.K = K := by rfl) :
    PE X (.Call (.Attribute o "join" apos) [e] [] pos) (tM1 (rJoin K) to te) := hK ▸ pe_join ho he hs hb hl
theorem repL_strs {K : PySem.W.Frag} {F : Hp} : ∀ {ys : List Str} {vs : List V}, RepL K F (ys.map D.str) vs → vs = ys.map V.str
  | [], _, h => h
  | y :: ys, _, h => by
    obtain ⟨v, r, rfl, h1, h2⟩ := h
    rw [show v = V.str y from h1, repL_strs h2]
    rfl
section
variable {K : PySem.W.Frag} {W : WX} {O : List OD} {ts : List T} {P : PT'} {X : XX} {ta tb : TE} {sp : SpD} {C : Addr} {fs : List (Str × D)}
theorem c_strI {i : Int} (hz : i.natAbs.log2 < 1920) (k : P (.v (.str (toString i))) O) : WC K (fun xs H Q => ∃ i : Int, xs = [.int i] ∧ i.natAbs.log2 < 1920 ∧ Q (.str (toString i)) H) [.v (.int i)] O P := fun b A H Q vs s r kv => by
  obtain ⟨_, _, rfl, ⟨_, e1, r1⟩, rfl⟩ := r
  cases e1
  exact ⟨i, by rw [r1], hz, kv _ _ A O H k s Nxt.refl ⟨_, rfl, rfl⟩⟩
theorem w_jnil {acc : Str} (k : P (.v (.str acc)) O) : WE K W (tJn [] acc) O ts P X := fun b A σ H Q s rs kv kx => kv _ _ A O H k s Nxt.refl ⟨_, rfl, rfl⟩
theorem w_jcons {acc : Str} {tes : List TE} (h : WE K W ta O ts (fun x O1 => ∃ y : Str, x = .v (.str y) ∧ (acc ++ y).length ≤ sizeLine ∧ WE K W (tJn tes (acc ++ y)) O1 ts P X) X) : WE K W (tJn (ta :: tes) acc) O ts P X := fun b A σ H Q s rs kv kx =>
  h b A σ H _ s rs (fun x v A1 O1 H1 p s1 n1 r1 => by
    obtain ⟨y, rfl, hz, q⟩ := p
    obtain ⟨_, e1, e2⟩ := id r1
    cases e1
    exact ⟨y, e2, hz, q b A1 σ H1 Q s1 (rs.nxt n1) (kv.nxt n1) (kx.nxt n1)⟩) kx
theorem w_join (h : WE K W ta O ts (fun x O1 => ∃ a : Str, x = .v (.str a) ∧ WE K W tb O1 ts (fun y O2 => ∃ ys : List Str, LstD y O2 (ys.map D.str) ∧ (ys.map (·.length)).sum + ys.length * a.length ≤ 16777216 ∧ P (.v (.str (Txt.join a ys))) O2) X) X) : WE K W (tM1 (rJoin K) ta tb) O ts P X := fun b A σ H Q s rs kv kx =>
  h b A σ H _ s rs (fun x v A1 O1 H1 p s1 n1 r1 => by
    obtain ⟨a, rfl, q⟩ := p
    obtain ⟨_, e1, e2⟩ := id r1
    cases e1
    refine ⟨⟨a, e2⟩, q b A1 σ H1 _ s1 (rs.nxt n1) (fun y u A2 O2 H2 p2 s2 n2 r2 => ?_) (kx.nxt n1)⟩
    obtain ⟨ys, hl, hz, k⟩ := p2
    obtain ⟨p', vs, rfl, sq, rl⟩ := lstD_at hl s2 r2
    rw [repL_strs rl] at sq
    exact ⟨a, p', ys, e2, rfl, .inl sq, hz, kv _ _ A2 O2 H2 k s2 (n1.trans n2) ⟨_, rfl, rfl⟩⟩) kx
end
/-- how long the text of an integer is -/
theorem text_len {n : Int} (h : Sm n) : (Str.ofString (toString n)).length ≤ 201 := by
  rw [PySem.ofString_length]
  exact int_text_length_le (k := 200) (by decide) (sm_log h)
theorem sm_1920 {n : Int} (h : Sm n) : n.natAbs.log2 < 1920 := Nat.lt_trans (sm_log h) (by decide)
theorem texts_len {ns : List Int} (h : ∀ n ∈ ns, Sm n) : ((ns.map fun n => Str.ofString (toString n)).map (·.length)).sum ≤ 201 * ns.length := by
  induction ns with
  | nil => exact Nat.le_refl _
  | cons n ns ih =>
    have k := text_len (h n List.mem_cons_self)
    have i := ih fun y hy => h y (List.mem_cons_of_mem _ hy)
    rw [List.map_cons, List.map_cons, List.sum_cons, List.length_cons]
    omega
end G
namespace G
open PySem PySem.Spec PyProof.Rows L2
end G

set_option Elab.async false
set_option linter.all false
set_option maxRecDepth 100000
set_option maxHeartbeats 4000000
namespace G
open PySem PySem.Spec PyProof.Rows L2
structure SMet (K : PySem.W.Frag) (C : Addr) (m : Str) (g : Addr) : Prop where
  rd : PySem.W.readsIn K C (.type "type") = true
  ga : PySem.W.specialIn K (.ref C) "__getattribute__" = some (some (.builtin "type.__getattribute__"))
  wr : PySem.W.findCls K (.ref C) (.type "type") m = some (.get (.builtin "staticmethod.__get__") (.ref (He.ma K C m)) .none (.ref C)) ∧ ∃ rest, PySem.W.recIn K (He.ma K C m) "staticmethod" = some (.ref g :: rest)
  kp : PySem.W.keepIn K (.ref g) = true
def smB (K : PySem.W.Frag) (d : PrD) : Bool := PySem.W.readsIn K (He.ga K d.cls) (.type "type") && (He.eqO (PySem.W.specialIn K (.ref (He.ga K d.cls)) "__getattribute__") (some (some (.builtin "type.__getattribute__"))) && He5.wrapB K (He.ga K d.cls) "staticmethod" "staticmethod.__get__" d.name)
theorem smet_of {K : PySem.W.Frag} {d : PrD} (h : d.oks K = true) (hk : d.kind = "staticmethod") (p : smB K d = true) : SMet K (He.ga K d.cls) d.name (d.g K) := by
  obtain ⟨h1, p2⟩ := He.ba p
  obtain ⟨h2, h3⟩ := He.ba p2
  refine ⟨h1, He.eqO_ok h2, ⟨(He5.wrapB_ok h3).1, ?_⟩, (He.ba h).1⟩
  have := d.rec_ h
  rw [hk] at this
  exact this
def tSMeth (C : Addr) (sp : Sp) (E : XK) (ta : TE) (t : TA) : TE := fun σ H Q => ta σ H fun x H1 => x = .ref C ∧ t σ H1 fun vs H2 => sp vs H2 Q E
theorem get_static {X : Cx} {pins : List (Addr × Obj)} {σ : L2.St} {H : Hp} {s : Shared} {A : Around} {Er : Value → Shared → Prop} {C g : Addr} {m : Str} {pl : Sem Bool} {Q : Value × List Value → Shared → Prop} (I : Inv X pins σ H s) (M : SMet X.K C m g)
    (h : ∀ s', Inv X pins σ H s' → Q (.ref g, []) s') : wpAny (model X.prog X.w) A (getMethod (.ref C) m pl) Q Er s := by
  obtain ⟨e, rest, hp⟩ := M.wr
  exact PySem.W.method_cls I.kIn M.ga (PySem.W.cls_bind I.kIn M.rd e (wpAny_call (PySem.W.sm_get (s := { s with toks := s.toks + 1 }) I.kIn hp (PySem.W.handed_on rfl (h _ (I.tok _))))))
theorem pe_smeth {X : Cx} {CX : CXT} {k : Nat} {C g : Addr} {sp : Sp} {m : Str} {E : XK} {o e : Expr} {es : List Expr} {ta : TE} {t : TA} {pos apos : Pos} {pl : Sem Bool} (he : PE X o ta) (M : SMet X.K C m g) (F : FnR X.prog X.w X.K X.mg X.base CX k g sp) (hr : Room k X.A) (hx : Passes CX X E) (ha : PA X (e :: es) t)
    (h1 : starEach (e :: es) X.env = (false, eval e X.env) :: starEach es X.env := by rfl) (h2 : (backTo pos (starEach es X.env)).any (·.1) = false := by rfl)
    (h3 : eval (.Call (.Attribute o m apos) (e :: es) [] pos) X.env = (eval o X.env >>= fun ov => standAt apos.atName >>= fun _ => holding [ov] (getMethod ov m pl) >>= fun q => callWith pos q.1 q.2 (backTo pos (starEach (e :: es) X.env)) (backToKw pos (keywordEach [] X.env))) := by rfl) :
    PE X (.Call (.Attribute o m apos) (e :: es) [] pos) (tSMeth C sp E ta t) := by
  constructor
  intro pins s σ H Q I h
  refine PySem.W.methodCall_KW (pl := pl) (thn (he.run pins s σ H _ I h) fun u s1 z => ?_) h3
  obtain ⟨x, H1, I1, rx, ex, q⟩ := z
  cases ex
  cases (show u = Value.ref C from rx)
  refine get_static I1 M fun s2 I2 => ?_
  refine PySem.W.callWith_K (first := []) (h₀ := X.base) I2.ok.mod.kin M.kp (thn (ha.run pos pins s2 σ H1 _ I2 q) fun us s3 z2 => ?_) h1 h2
  obtain ⟨vs, H2, I3, r, q2⟩ := z2
  exact ⟨I3.kIn, wpAny_call (run_fnR (us := us) (vs := vs) F hr hx I3 r q2)⟩
section
variable {K : PySem.W.Frag} {W : WX} {O : List OD} {ts : List T} {P : PT'} {X : XX} {sp : SpD} {tr : TA} {ta tv : TE} {C : Addr} {m f : Str}
theorem w_smeth (h : WE K W ta O ts (fun x O1 => x = .v (.ref C) ∧ WA K W tr O1 ts (fun xs O2 => ∃ ds, unv xs = some ds ∧ sp xs [] (fun t _ => (∃ d, t = .v d) ∧ P t O2) (fun _ _ _ => False)) X) X) :
    WE K W (tSMeth C (lift K sp) E0 ta tr) O ts P X := fun b A σ H Q s rs kv kx =>
  h b A σ H _ s rs (fun x v A1 O1 H1 p1 s1 n1 r1 => by
    obtain ⟨rfl, p⟩ := p1
    obtain ⟨_, e1, e2⟩ := id r1
    cases e1
    refine ⟨e2, p b A1 σ H1 _ s1 (rs.nxt n1) (fun xs us A2 O2 H2 p2 s2 n2 r2 => ?_) (kx.nxt n1)⟩
    obtain ⟨ds, e, q⟩ := p2
    exact lift_p (W := fun _ _ _ _ => False) (X := fun _ _ _ => False) (σ := σ) s2 r2 e (fun _ _ _ z => z) q (kv.nxt (n1.trans n2)) fun _ _ _ _ _ _ z => z.elim) kx
theorem own_ins {b : Bs} {A : List Addr} {H : Hp} {i : Nat} {v : V} {fs : List (Str × D)} (s : StO K b A O H) (r : RepT K (Fz b A O H) A (.own i) (some v)) (ho : O[i]? = some (.ins C fs)) : ∃ a dx vs, v = .ref a ∧ A[i]? = some a ∧ H a = some (.ins C dx vs) ∧ RepF K (Fz b A O H) fs vs := by
  obtain ⟨a, ha, e⟩ := r
  cases e
  obtain ⟨dx, vs, h1, h2⟩ := s.cell i a _ ha ho
  exact ⟨a, dx, vs, rfl, ha, h1, h2⟩
theorem w_methO (i : Nat) (h : WE K W ta O ts (fun x O1 => ∃ fs, x = .own i ∧ O1[i]? = some (.ins C fs) ∧ fs.lookup m = none ∧ WA K W tr O1 ts (fun xs O2 => ∃ ys o, tr1 i xs = some ys ∧ O2[i]? = some o ∧ okG [o] = true ∧
    sp (.own 0 :: ys) [o] (fun t O' => ∃ o', O' = [o'] ∧ okR t = true ∧ P (un1 i t) (O2.set i o')) (fun _ _ _ => False)) X) X) : WE K W (tMeth C m (lift K sp) [] E0 ta tr) O ts P X := fun b A σ H Q s rs kv kx =>
  h b A σ H _ s rs (fun x v A1 O1 H1 p1 s1 n1 r1 => by
    obtain ⟨fs, rfl, ho, hm, p⟩ := p1
    obtain ⟨a, dx, vs, rfl, ha, h1, h2⟩ := own_ins s1 r1 ho
    refine ⟨a, dx, vs, rfl, h1, h2.none hm, p b A1 σ H1 _ s1 (rs.nxt n1) (fun xs us A2 O2 H2 p2 s2 n2 r2 => ?_) (kx.nxt n1)⟩
    obtain ⟨ys, o, e, ho2, ng, q⟩ := p2
    rw [List.append_nil]
    have x0 : (fun (C : Value) (fs : Option (List (Str × D))) (O' : List OD) => ∃ o', O' = [o'] ∧ (fun _ _ _ => False : XX) C fs (O2.set i o')) = fun _ _ _ => False := by
      funext C fs O'
      exact propext ⟨fun ⟨_, _, z⟩ => z, fun z => z.elim⟩
    refine lift_1 (W := fun _ _ _ _ => False) (X := fun _ _ _ => False) (σ := σ) (xs := .own i :: xs) (ys := .own 0 :: ys) s2 ⟨.ref a, us, rfl, r1.nxt n2, r2⟩ ?_ ho2 ng (fun _ _ _ z => z) (by rw [x0]; exact q) (kv.nxt (n1.trans n2)) fun _ _ _ _ _ _ z => z.elim
    show (if i = i then (tr1 i xs).map (.own 0 :: ·) else none) = _
    rw [if_pos rfl, e] <;> rfl) kx
theorem tr1_v {i : Nat} : ∀ {xs : List T} {ds : List D}, unv xs = some ds → tr1 i xs = some xs
  | [], _, _ => rfl
  | .v d :: xs, ds, e => by
    have e3 : (unv xs).map (d :: ·) = some ds := e
    cases q : unv xs with
    | none =>
      rw [q] at e3
      cases e3
    | some es =>
      show (tr1 i xs).map (T.v d :: ·) = _
      rw [tr1_v q] <;> rfl
  | .own _ :: _, _, e => by cases e
  | .no :: _, _, e => by cases e
  | .clo _ _ :: _, _, e => by cases e
/-- C(..), the new instance stays owned -/
theorem w_makeO (h : WA K W tr O ts (fun xs O1 => ∃ ds, unv xs = some ds ∧ sp (.own 0 :: xs) [.ins C []] (fun t O' => t = .v .non ∧ ∃ fs, O' = [.ins C fs] ∧ P (.own O1.length) (O1 ++ [.ins C fs])) (fun _ _ _ => False)) X) :
    WE K W (tMake C (lift K sp) [] E0 tr) O ts P X := fun b A σ H Q s rs kv kx =>
  h b A σ H _ s rs (fun xs vs A1 O1 H1 p1 s1 n1 r1 x dx hx hdx hne => by
    obtain ⟨ds, e, p⟩ := p1
    rw [List.append_nil]
    obtain ⟨s2, n2⟩ := s1.lay2 hdx (.own x)
    have hx2 : upd H1 dx (.own x) x = none := by
      rw [upd_ne hne.symm]
      exact hx
    obtain ⟨s3, n3⟩ := s2.own (u := .ins C dx []) (o := .ins C []) hx2 ⟨dx, [], upd_same, rfl⟩
    have n13 := n2.trans n3
    have hat : (A1 ++ [x])[O1.length]? = some x := by
      rw [← s1.len, List.getElem?_append_right (Nat.le_refl _), Nat.sub_self] <;> rfl
    have hoat : (O1 ++ [OD.ins C []])[O1.length]? = some (.ins C []) := by
      rw [List.getElem?_append_right (Nat.le_refl _), Nat.sub_self] <;> rfl
    have es : ∀ o' : OD, (O1 ++ [OD.ins C []]).set O1.length o' = O1 ++ [o'] := fun o' => by
      rw [List.set_append_right _ _ (Nat.le_refl _), Nat.sub_self] <;> rfl
    refine lift_1 (W := fun _ _ _ _ => False) (X := fun _ _ _ => False) (σ := σ) (P := fun t O' => t = .v .non ∧ ∃ fs, O' = O1 ++ [.ins C fs] ∧ P (.own O1.length) O') s3 (xs := .own O1.length :: xs) (ys := .own 0 :: xs) ⟨.ref x, vs, rfl, ⟨x, hat, rfl⟩, r1.nxt n13⟩ ?_ hoat rfl (fun C d H z => z) ?_
      (fun t v A' O' H' q s' n' rt => ?_) (fun C fs A' O' H' d z => z.elim)
    · show (if O1.length = O1.length then (tr1 O1.length xs).map (T.own 0 :: ·) else none) = _
      rw [if_pos rfl, tr1_v e] <;> rfl
    · have x0 : (fun (C' : Value) (fs : Option (List (Str × D))) (O' : List OD) => ∃ o', O' = [o'] ∧ (fun _ _ _ => False : XX) C' fs ((O1 ++ [OD.ins C []]).set O1.length o')) = fun _ _ _ => False := by
        funext C fs O'
        exact propext ⟨fun ⟨_, _, z⟩ => z, fun z => z.elim⟩
      have pq : (fun (t : T) (O' : List OD) => ∃ o', O' = [o'] ∧ okR t = true ∧ (un1 O1.length t = .v .non ∧ ∃ fs, (O1 ++ [OD.ins C []]).set O1.length o' = O1 ++ [.ins C fs] ∧ P (.own O1.length) ((O1 ++ [OD.ins C []]).set O1.length o'))) = fun t O' => t = .v .non ∧ ∃ fs, O' = [.ins C fs] ∧ P (.own O1.length) (O1 ++ [.ins C fs]) := by
        funext t O'
        refine propext ⟨?_, ?_⟩
        · rintro ⟨o', rfl, hn, hu, fs, e1, q⟩
          rw [es] at e1 q
          have e2 : o' = .ins C fs := by
            have := List.append_cancel_left e1
            injection this
          subst e2
          refine ⟨?_, fs, rfl, q⟩
          cases t with
          | v d => exact hu
          | own j => cases hu
          | no => cases hn
          | clo R f => cases hn
        · rintro ⟨rfl, fs, rfl, q⟩
          exact ⟨_, rfl, rfl, rfl, fs, es _, by rw [es]; exact q⟩
      rw [x0, pq]
      exact p
    · obtain ⟨rfl, fs, rfl, q⟩ := q
      obtain ⟨_, e1, e2⟩ := rt
      cases e1
      exact ⟨e2, kv _ _ A' _ H' q s' (n1.trans (n13.trans n')) ⟨x, n'.at_ hat, rfl⟩⟩) kx
/-- e.f += n, e an owned instance -/
theorem s_fldaug {DE' : DE} (n : NoAttr K C f) (c : Cls K C) (h : WE K W ta O ts (fun x O1 => ∃ i fs j, x = .own i ∧ O1[i]? = some (.ins C fs) ∧ fs.lookup f = some (.int j) ∧ WE K W tv O1 ts (fun y O2 => ∃ gs k, y = .v (.int k) ∧ O2[i]? = some (.ins C gs) ∧ gs.length < 1000 ∧ DE'.nx ts (O2.set i (.ins C (putD f (.int (j + k)) gs)))) (fun C fs O' => DE'.xe C fs ts O')) (fun C fs O' => DE'.xe C fs ts O')) :
    WS K W (sFldAug K ta tv rAdd f) O ts DE' := fun b A σ H D s rs ks =>
  h b A σ H _ s rs (fun x v A1 O1 H1 p1 s1 n1 r1 => by
    obtain ⟨i, fs, j, rfl, ho, hj, p⟩ := p1
    obtain ⟨a, dx, vs, rfl, ha, h1, h2⟩ := own_ins s1 r1 ho
    obtain ⟨w, e1, e2⟩ := h2.look hj
    refine ⟨a, C, dx, vs, w, rfl, h1, c, n, e1, p b A1 σ H1 _ s1 (rs.nxt n1) (fun y u A2 O2 H2 p2 s2 n2 r2 => ?_) ((ks.kx rs).nxt n1)⟩
    obtain ⟨gs, k, rfl, ho2, hz, q⟩ := p2
    obtain ⟨_, e3, e4⟩ := id r2
    cases e3
    have ha2 := n2.at_ ha
    obtain ⟨dx', us, g1, g2⟩ := s2.cell i a _ ha2 ho2
    refine ⟨j, k, e2, e4, dx', us, g1, by rw [g2.length]; exact hz, ?_⟩
    obtain ⟨s3, n3⟩ := s2.put (w := .ins C dx' (putF f (V.int (j + k)) us)) (o := .ins C (putD f (.int (j + k)) gs)) ha2 ho2 (fun z => by cases z) (fun z => by cases z) ⟨dx', _, upd_same, repF_put (d := .int (j + k)) rfl g2⟩
    exact ks.nx ts σ A2 _ _ q s3 ((n1.trans n2).trans n3) (rs.nxt ((n1.trans n2).trans n3))) (ks.kx rs)
end
end G

set_option Elab.async false
set_option linter.all false
set_option maxRecDepth 100000
set_option maxHeartbeats 4000000
namespace G
open PySem PySem.Spec PyProof.Rows L2 TL
def rSplit : V → List V → Hp → VK → Prop := fun x xs H Q => ∃ a b, x = .str a ∧ xs = [.str b] ∧ (b.length == 0) = false ∧ a.length + 2 ≤ sizeLine ∧ rNewStrs (Txt.split a b) H Q
theorem pe_splitK {X : Cx} {o e : Expr} {to te : TE} {apos pos : Pos} (ho : PE X o to) (he : PE X e te) (hs : starEach [e] X.env = [(false, eval e X.env)] := by rfl) (hb : attributeBase o "split" X.env (eval o X.env) = eval o X.env := by rfl) (hl : (apos.endLine == pos.line) = true := by rfl) :
    PE X (.Call (.Attribute o "split" apos) [e] [] pos) (tM1 rSplit to te) := pe_split ho he hs hb hl
def rSign : R2 := fun x y H Q => ∃ (c : Nat) (z : Str), x = .str ⟨#[c]⟩ ∧ y = .str z ∧ Q (.bl (decide (c ∈ z.cps.toList))) H
theorem op_inSign {X : Cx} : OpR X (compareOp .In) rSign := op_in_sign
def rIntS : List V → Hp → VK → Prop := fun xs H Q => ∃ a n, xs = [V.str a] ∧ PySem.intText? a = some n ∧ a.length ≤ 640 ∧ Q (.int n) H
theorem call_intS {X : Cx} : CallR X (.type "int") rIntS := call_int_str
theorem op_inK (K : PySem.W.Frag) {X : Cx} (hK : X.K = K := by rfl) : OpR X (compareOp .In) (rIn K false) := hK ▸ op_in_seq
theorem op_notInK (K : PySem.W.Frag) {X : Cx} (hK : X.K = K := by rfl) : OpR X (compareOp .NotIn) (rIn K true) := hK ▸ op_notIn_seq
theorem repL_of_strs {K : PySem.W.Frag} {F : Hp} : ∀ ys : List Str, RepL K F (ys.map D.str) (ys.map V.str)
  | [] => rfl
  | y :: ys => ⟨.str y, _, rfl, rfl, repL_of_strs ys⟩
theorem flat_strs : ∀ ys : List Str, (ys.map V.str).all flatV = true
  | [] => rfl
  | y :: ys => flat_strs ys
section
variable {K : PySem.W.Frag} {W : WX} {O : List OD} {ts : List T} {P : PT'} {X : XX} {ta tb : TE}
/-- the signs of a text -/
theorem i_str {S : (Nat → Option T) → List OD → Prop} (h : WE K W ta O ts (fun t O' => ∃ z : Str, t = .v (.str z) ∧ S (itD (z.cps.toList.map fun c => D.str ⟨#[c]⟩)) O') X) : WI K W (iStr ta) O ts S X := fun b A σ H R s rs k kx =>
  h b A σ H _ s rs (fun t v A' O' H' p s' n' r' => by
    obtain ⟨z, rfl, q⟩ := p
    obtain ⟨_, e, e2⟩ := r'
    cases e
    refine ⟨z, e2, k (Its z) _ A' O' H' q s' n' fun i A2 O2 H2 s2 n2 => ⟨fun hn _ => ?_, fun t ht => ?_⟩⟩
    · have := itD_none hn
      rw [List.length_map, Array.length_toList] at this
      exact this
    · obtain ⟨d, e1, rfl⟩ := itD_some ht
      rw [List.getElem?_map] at e1
      cases q : z.cps.toList[i]? with
      | none =>
        rw [q] at e1
        cases e1
      | some c =>
        rw [q] at e1
        have ed : D.str ⟨#[c]⟩ = d := Option.some.inj e1
        subst ed
        have hi := (List.getElem?_eq_some_iff.mp q).1
        rw [Array.length_toList] at hi
        refine ⟨hi, fun x H3 y => ?_⟩
        obtain ⟨rfl, c', hc, rfl⟩ := y
        rw [Array.getElem?_toList, hc] at q
        have ec : c' = c := Option.some.inj q
        subst ec
        exact ⟨s2, Nxt.refl, ⟨_, rfl, rfl⟩⟩) kx
theorem w_split (h : WE K W ta O ts (fun x O1 => ∃ a : Str, x = .v (.str a) ∧ WE K W tb O1 ts (fun y O2 => ∃ c : Str, y = .v (.str c) ∧ (c.length == 0) = false ∧ a.length + 2 ≤ sizeLine ∧ P (.v (.lst ((Txt.split a c).map D.str))) O2) X) X) : WE K W (tM1 rSplit ta tb) O ts P X := fun b A σ H Q s rs kv kx =>
  h b A σ H _ s rs (fun x v A1 O1 H1 p s1 n1 r1 => by
    obtain ⟨a, rfl, q⟩ := p
    obtain ⟨_, e1, e2⟩ := id r1
    cases e1
    refine ⟨⟨a, e2⟩, q b A1 σ H1 _ s1 (rs.nxt n1) (fun y u A2 O2 H2 p2 s2 n2 r2 => ?_) (kx.nxt n1)⟩
    obtain ⟨c, rfl, hc, hz, k⟩ := p2
    obtain ⟨_, e3, e4⟩ := id r2
    cases e3
    refine ⟨a, c, e2, by rw [e4], hc, hz, fun p' hp => ?_⟩
    obtain ⟨s3, n3, q3⟩ := s2.lay hp (.lst ((Txt.split a c).map V.str))
    exact kv _ _ A2 O2 _ k s3 ((n1.trans n2).trans n3) ⟨_, rfl, p', _, rfl, q3, repL_of_strs _⟩) kx
theorem w_inSign {c : Nat} {z : Str} (k : P (.v (.bl (decide (c ∈ z.cps.toList)))) O) : WR K rSign (.v (.str ⟨#[c]⟩)) (.v (.str z)) O P := fun b A H Q v u s r1 r2 kv => by
  obtain ⟨_, e1, e2⟩ := r1
  obtain ⟨_, e3, e4⟩ := r2
  cases e1
  cases e3
  exact ⟨c, z, e2, e4, kv _ _ A O H k s Nxt.refl ⟨_, rfl, rfl⟩⟩
theorem w_inT {neg : Bool} {x : Str} {ys : List Str} (k : P (.v (.bl (if neg then !inV (.str x) (ys.map V.str) else inV (.str x) (ys.map V.str)))) O) : WR K (rIn K neg) (.v (.str x)) (.v (.tup (ys.map D.str))) O P := fun b A H Q v u s r1 r2 kv => by
  obtain ⟨_, e1, e2⟩ := r1
  cases e1
  obtain ⟨a, vs, rfl, h1, h2⟩ := tupD_at (hid_ex : Ex (Fz b A O H) H) r2
  rw [repL_strs h2] at h1
  cases (show v = V.str x from e2)
  exact ⟨a, _, rfl, .inr h1, rfl, flat_strs ys, kv _ _ A O H k s Nxt.refl ⟨_, rfl, rfl⟩⟩
theorem w_ixS {z : Str} {i : Int} {c : Nat} (hz : z.length ≤ sizeLine) (h : atI z.cps.toList i = some c) (k : P (.v (.str ⟨#[c]⟩)) O) : WR K rIxS (.v (.str z)) (.v (.int i)) O P := fun b A H Q v u s r1 r2 kv => by
  obtain ⟨_, e1, e2⟩ := r1
  obtain ⟨_, e3, e4⟩ := r2
  cases e1
  cases e3
  exact ⟨z, i, c, e2, e4, hz, h, kv _ _ A O H k s Nxt.refl ⟨_, rfl, rfl⟩⟩
theorem c_intS {a : Str} {n : Int} (h : PySem.intText? a = some n) (hl : a.length ≤ 640) (k : P (.v (.int n)) O) : WC K rIntS [.v (.str a)] O P := fun b A H Q vs s r kv => by
  obtain ⟨_, _, rfl, ⟨_, e1, r1⟩, rfl⟩ := r
  cases e1
  exact ⟨a, n, by rw [r1], h, hl, kv _ _ A O H k s Nxt.refl ⟨_, rfl, rfl⟩⟩
end
/-- the text of an integer from 0 on -/
def numS (n : Nat) : Str := Str.ofString (toString ((n : Nat) : Int))
theorem numS_tl (n : Nat) : (numS n).cps.toList = numL n := tl_num n
theorem numS_len {n : Nat} (h : n < 10 ^ 40) : (numS n).length ≤ 40 ∧ 1 ≤ (numS n).length := by
  rw [len_tl (numS n), show tl (numS n) = numL n from tl_num n]
  refine ⟨numL_len (by decide) h, ?_⟩
  cases e : numL n with
  | nil => exact absurd e (numL_ne n)
  | cons a r => exact Nat.le_add_left 1 _
theorem numS_int {n : Nat} (h : n < 10 ^ 40) : PySem.intText? (numS n) = some (n : Int) := int_num (Nat.le_trans (numL_len (by decide) h) (by decide))
theorem numS_free (n : Nat) : 32 ∉ tl (numS n) := by
  rw [show tl (numS n) = numL n from tl_num n]
  exact numL_free (.inl (by decide))
theorem digit_in {c : Nat} (h1 : 48 ≤ c) (h2 : c ≤ 57) : c ∈ ("0123456789" : Str).cps.toList := by
  have e : ("0123456789" : Str).cps.toList = [48, 49, 50, 51, 52, 53, 54, 55, 56, 57] := by decide +kernel
  rw [e]
  simp only [List.mem_cons, List.not_mem_nil, or_false]
  omega
theorem numS_signs (n : Nat) : ∀ c ∈ (numS n).cps.toList, c ∈ ("0123456789" : Str).cps.toList := fun c hc => by
  rw [numS_tl] at hc
  have := numL_digits n c hc
  exact digit_in (by omega) (by omega)
/-- no sign 0 ahead, but of 0 itself -/
theorem numL_head : ∀ n : Nat, n ≠ 0 → ∃ c r, numL n = c :: r ∧ c ≠ 48 := fun n => by
  induction n using Nat.strongRecOn with
  | _ n ih =>
    intro h0
    by_cases h : n < 10
    · rw [numL_lt h]
      exact ⟨_, _, rfl, by omega⟩
    · obtain ⟨c, r, e, hc⟩ := ih (n / 10) (by omega) (by omega)
      rw [numL_step (by omega), e]
      exact ⟨c, _, rfl, hc⟩
theorem numS_zero : numS 0 = "0" := ext_tl (by rw [show tl (numS 0) = numL 0 from tl_num 0, numL_lt (by decide)]; decide +kernel)
theorem numS_ne {n : Nat} (h : n ≠ 0) : numS n ≠ "0" := fun z => by
  obtain ⟨c, r, e, hc⟩ := numL_head n h
  have e2 := numS_tl n
  rw [z, e, show ("0" : Str).cps.toList = [48] by decide +kernel] at e2
  injection e2 with e3 e4
  exact hc e3.symm
end G

set_option Elab.async false
set_option linter.all false
set_option maxRecDepth 100000
set_option maxHeartbeats 4000000
namespace G
open PySem PySem.Spec PyProof.Rows L2
def tCallKr (sp : Sp) (E : XK) (t : TA) : TE := fun σ H Q => t σ H fun zs H1 => sp zs.reverse H1 Q E
theorem w_fnKr {K : PySem.W.Frag} {W : WX} {O : List OD} {ts : List T} {P : PT'} {X : XX} {sp : SpD} {tk : TA} (h : WA K W tk O ts (fun xs O1 => ∃ ds, unv xs = some ds ∧ sp (ds.reverse.map T.v) [] (fun t _ => (∃ d, t = .v d) ∧ P t O1) (fun _ _ _ => False)) X) :
    WE K W (tCallKr (lift K sp) E0 tk) O ts P X := fun b A σ H Q s rs kv kx =>
  h b A σ H _ s rs (fun xs vs A1 O1 H1 p1 s1 n1 r1 => by
    obtain ⟨ds, e, p⟩ := p1
    exact lift_p (W := fun _ _ _ _ => False) (X := fun _ _ _ => False) (σ := σ) s1 (xs := ds.reverse.map T.v) (ds := ds.reverse) (turn_rep (tw := true) r1 e) unv_map (fun _ _ _ z => z) p (kv.nxt n1) fun _ _ _ _ _ _ z => z.elim) kx
end G
namespace G
open PySem PySem.Spec PyProof.Rows L2
def rAddStr : R2 := fun x y H Q => ∃ a b, x = .str a ∧ y = .str b ∧ a.length + b.length ≤ sizeLine ∧ Q (.str (a ++ b)) H
theorem op_addS {X : Cx} : OpR X (binaryOp .Add) rAddStr := op_add_str
theorem w_addS {K : PySem.W.Frag} {O : List OD} {P : PT'} {a c : Str} (hz : a.length + c.length ≤ sizeLine) (k : P (.v (.str (a ++ c))) O) : WR K rAddStr (.v (.str a)) (.v (.str c)) O P := fun b A H Q v u s r1 r2 kv => by
  obtain ⟨_, e1, e2⟩ := r1
  obtain ⟨_, e3, e4⟩ := r2
  cases e1
  cases e3
  exact ⟨a, c, e2, e4, hz, kv _ _ A O H k s Nxt.refl ⟨_, rfl, rfl⟩⟩
end G

set_option Elab.async false
set_option linter.all false
set_option maxRecDepth 100000
set_option maxHeartbeats 4000000
namespace G
open PySem PySem.Spec PyProof.Rows L2
section
variable {K : PySem.W.Frag} {W : WX} {O : List OD} {ts : List T} {P : PT'} {X : XX} {g : TG} {te : TE} {vs : List Nat}
theorem c_listLO {x : T} {ds : List D} (hx : LstD x O ds) (k : P (.own O.length) (O ++ [.lst ds])) : WC K (rListOf K) [x] O P := fun b A H Q vs s r kv => by
  obtain ⟨v, _, rfl, r1, rfl⟩ := r
  obtain ⟨a, us, rfl, h1, h2⟩ := lstD_at hx s r1
  refine ⟨a, us, rfl, .inl h1, fun p hp => ?_⟩
  have hn := s.fresh hp
  obtain ⟨s2, n2⟩ := s.own (u := .lst us) (o := .lst ds) hp ⟨us, upd_same, h2⟩
  refine kv _ _ (A ++ [p]) _ _ k s2 n2 ⟨p, ?_, rfl⟩
  rw [← s.len, List.getElem?_append_right (Nat.le_refl _), Nat.sub_self] <;> rfl
theorem c_listTO {ds : List D} (k : P (.own O.length) (O ++ [.lst ds])) : WC K (rListOf K) [.v (.tup ds)] O P := fun b A H Q vs s r kv => by
  obtain ⟨v, _, rfl, r1, rfl⟩ := r
  obtain ⟨a, us, rfl, h1, h2⟩ := tupD_at (hid_ex : Ex (Fz b A O H) H) r1
  refine ⟨a, us, rfl, .inr h1, fun p hp => ?_⟩
  obtain ⟨s2, n2⟩ := s.own (u := .lst us) (o := .lst ds) hp ⟨us, upd_same, h2⟩
  refine kv _ _ (A ++ [p]) _ _ k s2 n2 ⟨p, ?_, rfl⟩
  rw [← s.len, List.getElem?_append_right (Nat.le_refl _), Nat.sub_self] <;> rfl
end
end G

set_option Elab.async false
set_option linter.all false
set_option maxRecDepth 100000
set_option maxHeartbeats 4000000
namespace RZ
open PySem PySem.Spec PyProof.Rows L2
/-- a tuple at a, a list at b, as they stand at each turn -/
def ItzM (K : PySem.W.Frag) (a b : Addr) : It :=
  ⟨fun i H => ∃ (xs ys : List V) (x y : V), SqT K H a xs ∧ SqL K H b ys ∧ xs[i]? = some x ∧ ys[i]? = some y,
    fun i H v H' => ∃ T x y, v = .ref T ∧ H T = none ∧ H' = upd H T (.tup [x, y]) ∧ (∀ xs, SqT K H a xs → xs[i]? = some x) ∧ ∀ ys, SqL K H b ys → ys[i]? = some y,
    fun i H => ∃ xs ys : List V, SqT K H a xs ∧ SqL K H b ys ∧ i = min xs.length ys.length⟩
theorem turn_zipM {P : Program} {w : World} {K : PySem.W.Frag} {elts : List Expr} {kk : Nat} {tpos : Pos} {a b z TI TO i1 i2 : Addr} (S : ZipSep2 z TI TO i1 i2 [i1, a] [i2, b]) (n1 : a ≠ i1) (n2 : b ≠ i2) :
    Turn P w K (.Tuple elts kk tpos) (ItzM K a b) [z, TI, TO, i1, i2] z (fun i h => IsZip h z TI TO .none ∧ IsTupOf2 h TI (.ref i1) (.ref i2) ∧ (∃ x y, IsTupOf2 h TO x y) ∧ h.IsTupleIter i1 a i ∧ h.IsListIter i2 b i) where
  mem := by simp
  obj := fun i h st c hc => by
    obtain ⟨hz, hTI, ⟨x, y, hTO⟩, ⟨o1, e1, _, d1⟩, ⟨o2, e2, _, d2⟩⟩ := st
    simp only [List.mem_cons, List.not_mem_nil, or_false] at hc
    rcases hc with rfl | rfl | rfl | rfl | rfl
    · exact ⟨_, hz, fun v q => nomatch q⟩
    · exact ⟨_, hTI, fun v q => nomatch q⟩
    · exact ⟨_, hTO, fun v q => nomatch q⟩
    · exact ⟨o1, e1, fun v q => by rw [d1] at q; cases q⟩
    · exact ⟨o2, e2, fun v q => by rw [d2] at q; cases q⟩
  keep := fun i h h' st k => by
    obtain ⟨hz, hTI, ⟨x, y, hTO⟩, h1, h2⟩ := st
    exact ⟨k z (by simp) _ hz, k TI (by simp) _ hTI, ⟨x, y, k TO (by simp) _ hTO⟩, h1.at fun o q => k i1 (by simp) o q, h2.at fun o q => k i2 (by simp) o q⟩
  item := by
    intro X hP hw hK hc i pins s σ H E I hf st hg
    subst hP hw hK
    obtain ⟨hz, hTI, hTO, h1, h2⟩ := st
    obtain ⟨xs, ys, x, y, hqx, hqy, hx, hy⟩ := hg
    obtain ⟨its, rv, p, _⟩ := I.tuple hqx
    obtain ⟨its2, rv2, p2, _⟩ := I.list hqy
    obtain ⟨u, hu, ru⟩ := rv.get hx
    obtain ⟨u2, hu2, ru2⟩ := rv2.get hy
    have g := GoesN.zip2 (elts := elts) (x1 := kk) (pos := tpos) S (Draws.tuple (prog := X.prog) (w := X.w) (A := X.A.in1) (I.ok.hd hc) i1 a n1 its.toArray) (Draws.list (prog := X.prog) (w := X.w) (A := X.A.in1) (I.ok.hd hc) i2 b n2 its2.toArray)
    have l1 : i < its.length := (List.getElem?_eq_some_iff.mp hu).1
    have l2 : i < its2.length := (List.getElem?_eq_some_iff.mp hu2).1
    refine g.goes i s _ E (by simp; omega) ⟨hz, hTI, hTO, ⟨h1, p⟩, h2, p2.isList⟩ fun v h' tk y1 st' k htk => ?_
    obtain ⟨T, v1, v2, rfl, hT, e1, e2, t1⟩ := y1
    have e1' : u = v1 := Option.some.inj ((by simpa using hu : its.toArray[i]? = some u).symm.trans e1)
    have e2' : u2 = v2 := Option.some.inj ((by simpa using hu2 : its2.toArray[i]? = some u2).symm.trans e2)
    subst e1' e2'
    obtain ⟨q1, q2, q3, ⟨q4, _⟩, q5, _⟩ := st'
    have new : ObjOk X.prog X.w (upd H T (.tup [x, y])) h' T (.tup [x, y]) :=
      ⟨by show 2 ≤ sizeLine; decide, [u, u2], .cons ru (.cons ru2 .nil), t1⟩
    have fz : ∀ c ∈ [z, TO, i1, i2], FpOk X pins H c := fun c hc2 => hf c (by
      simp only [List.mem_cons, List.not_mem_nil, or_false] at hc2 ⊢
      rcases hc2 with q | q | q | q <;> simp [q])
    refine ⟨.ref T, _, I.turnedNew (t' := tk) (ch := [z, TO, i1, i2]) k fz hT new, rfl, ⟨_, x, y, rfl, I.hok.fresh hT, rfl, fun l hl => by rw [I.tuple_inj hl hqx]; exact hx, fun l hl => by rw [I.list_inj hl hqy]; exact hy⟩, ⟨q1, q2, q3, q4, q5⟩, fun c hcm => ?_⟩
    have hlt : c < s.heap.objs.size := by
      simp only [List.mem_cons, List.not_mem_nil, or_false] at hcm
      obtain ⟨_, _, hTO⟩ := hTO
      rcases hcm with rfl | rfl | rfl | rfl | rfl
      · exact Heap.lt_size hz
      · exact Heap.lt_size hTI
      · exact Heap.lt_size hTO
      · obtain ⟨_, e1, _⟩ := h1; exact Heap.lt_size e1
      · obtain ⟨_, e2, _⟩ := h2; exact Heap.lt_size e2
    rw [upd_ne (Nat.ne_of_lt (Nat.lt_of_lt_of_le hlt hT))]
    exact (hf c hcm).1
  done := by
    intro X hP hw hK hc i pins s σ H E I hf st hg
    subst hP hw hK
    obtain ⟨hz, hTI, hTO, h1, h2⟩ := st
    obtain ⟨xs, ys, hqx, hqy, hend⟩ := hg
    obtain ⟨its, rv, p, _⟩ := I.tuple hqx
    obtain ⟨its2, rv2, p2, _⟩ := I.list hqy
    have l1 := rv.length
    have l2 := rv2.length
    have g := GoesN.zip2 (elts := elts) (x1 := kk) (pos := tpos) S (Draws.tuple (prog := X.prog) (w := X.w) (A := X.A.in1) (I.ok.hd hc) i1 a n1 its.toArray) (Draws.list (prog := X.prog) (w := X.w) (A := X.A.in1) (I.ok.hd hc) i2 b n2 its2.toArray)
    have ei : i = min its.toArray.size its2.toArray.size := by simp; omega
    subst ei
    have fz : ∀ c ∈ [z, TO, i1, i2], FpOk X pins H c := fun c hc2 => hf c (by
      simp only [List.mem_cons, List.not_mem_nil, or_false] at hc2 ⊢
      rcases hc2 with q | q | q | q <;> simp [q])
    exact g.stops s _ E ⟨hz, hTI, hTO, ⟨h1, p⟩, h2, p2.isList⟩ fun h' tk k htk => I.turnedL (t' := tk) (ch := [z, TO, i1, i2]) k fz
  self := fun A i s Q E st h => wpAny_pyIter_zip st.1 h
def iZipM (K : PySem.W.Frag) (ta : TA) : TI := fun σ H R => ta σ H fun vs H1 => ∃ a b xs ys, vs = [.ref a, .ref b] ∧ SqT K H1 a xs ∧ SqL K H1 b ys ∧ R (ItzM K a b) H1
theorem pi_zipM {X : Cx} {e e2 : Expr} {ta : TA} {p pos tpos : Pos} {elts : List Expr} {kk : Nat} (hg : Gl X "zip") (hm : X.mg "zip" = none) (ha : PA X [e, e2] ta)
    (hs : starEach [e, e2] X.env = (false, eval e X.env) :: starEach [e2] X.env := by rfl) (hpl : (backTo pos (starEach [e2] X.env)).any (·.1) = false := by rfl) :
    PI X (.Tuple elts kk tpos) (.Call (.Name "zip" p) [e, e2] [] pos) (iZipM X.K ta) := by
  refine ⟨fun pins s σ H R I h => ?_⟩
  refine Call_ (ld_blt I hg hm PyProof.Rows.boot_zip (PyProof.Rows.callWith_type1 (thn (ha.run pos pins s σ H _ I h) fun us s1 ⟨vs, H1, I1, r1, q1⟩ => ?_) hs hpl))
  obtain ⟨a, b, xs, ys, ex, hqx, hqy, q⟩ := q1
  subst ex
  obtain ⟨its, rv, p1, _⟩ := I1.tuple hqx
  obtain ⟨its2, rv2, p2, _⟩ := I1.list hqy
  obtain ⟨o1, ho1, _⟩ := id p1
  have la := Heap.lt_size ho1
  have lb := p2.lt
  cases r1 with
  | cons r rr =>
    cases rr with
    | cons r' rr =>
      cases rr
      cases r
      cases r'
      refine zip_begins2 (begins_tuple a its.toArray) (begins_list b its2.toArray) p1 p2.isList fun h' hz hTI hTO h1 h2 hsz hk => wpAny_pyIter_zip hz ?_
      refine ⟨s1.heap.objs.size + 4, [s1.heap.objs.size + 4, s1.heap.objs.size + 2, s1.heap.objs.size + 3, s1.heap.objs.size, s1.heap.objs.size + 1], _, _, H1, rfl, I1.kept (t' := s1.toks) hk, turn_zipM (zip_sep2 (fp1 := [a]) (fp2 := [b]) (by simpa using la) (by simpa using lb)) (Nat.ne_of_lt la) (Nat.ne_of_lt (Nat.lt_succ_of_lt lb)), ⟨hz, hTI, ⟨_, _, hTO⟩, ⟨_, h1, rfl, rfl⟩, ⟨_, h2, rfl, rfl⟩⟩, fun c hcm => ?_, q⟩
      have hle : s1.heap.objs.size ≤ c := by
        simp only [List.mem_cons, List.not_mem_nil, or_false] at hcm
        rcases hcm with rfl | rfl | rfl | rfl | rfl
        · exact Nat.le_add_right _ _
        · exact Nat.le_add_right _ _
        · exact Nat.le_add_right _ _
        · exact Nat.le_refl _
        · exact Nat.le_add_right _ _
      exact I1.fpOk hle (I1.hok.fresh hle)
end RZ
namespace G
open PySem PySem.Spec PyProof.Rows L2
section
variable {K : PySem.W.Frag} {W : WX} {O : List OD} {ts : List T} {X : XX} {ta : TA}
theorem i_zipM {S : (Nat → Option T) → List OD → Prop} (h : WA K W ta O ts (fun xs O' => ∃ ds es, xs = [.v (.tup ds), .v (.lst es)] ∧ S (itZ ds es) O') X) : WI K W (RZ.iZipM K ta) O ts S X := fun b A σ H R s rs k kx =>
  h b A σ H _ s rs (fun xs vs A' O' H' p s' n' r' => by
    obtain ⟨ds, es, rfl, q⟩ := p
    obtain ⟨v, _, rfl, ⟨_, e, a, us, rfl, h1, h2⟩, v', _, rfl, ⟨_, e', c, ws, rfl, h3, h4⟩, rfl⟩ := r'
    replace h3 := SqL.of (K := K) h3
    cases e
    cases e'
    refine ⟨a, c, us, ws, rfl, hid_ex.t h1, hid_ex.l h3, k _ _ A' O' H' q s' n' fun i A2 O2 H2 s2 n2 => ⟨fun hn hp => ⟨us, ws, hid_ex.t (n2.ext.t h1), hid_ex.l (n2.ext.l h3), ?_⟩, fun t ht => ?_⟩⟩
    · rw [h2.length, h4.length]
      have le := itZ_none hn
      refine Nat.le_antisymm (Nat.le_of_not_lt fun z => ?_) (by omega)
      refine hp (min ds.length es.length) z ?_
      unfold itZ
      by_cases hd : ds.length ≤ es.length
      · rw [Nat.min_eq_left hd, List.getElem?_eq_none (Nat.le_refl _)]
      · rw [Nat.min_eq_right (by omega), List.getElem?_eq_none (l := es) (Nat.le_refl _)]
        cases ds[es.length]? <;> rfl
    · obtain ⟨d, e, e1, e2, rfl⟩ := itZ_some ht
      obtain ⟨v, e3, r3⟩ := h2.get e1
      obtain ⟨v', e4, r4⟩ := h4.get e2
      have k1 : SqT K H2 a us := hid_ex.t (n2.ext.t h1)
      have k2 : SqL K H2 c ws := hid_ex.l (n2.ext.l h3)
      refine ⟨⟨us, ws, v, v', k1, k2, e3, e4⟩, fun x H3 y => ?_⟩
      obtain ⟨p, w, w', rfl, hp, rfl, y1, y2⟩ := y
      have e5 : w = v := Option.some.inj ((y1 us k1).symm.trans e3)
      have e6 : w' = v' := Option.some.inj ((y2 ws k2).symm.trans e4)
      subst e5 e6
      exact pair_laid s2 hp (r3.ex n2.ext) (r4.ex n2.ext)) kx
end
end G

set_option Elab.async false
set_option linter.all false
set_option maxRecDepth 100000
set_option maxHeartbeats 4000000
namespace My3
open PySem PySem.W PyProof.Rows
section
variable {pr : Program} {wo : World} {B : Around} {Er : Value → Shared → Prop} {st : Shared} {K : Frag} {a cl lo me fw : Addr} {base : Heap} {nsm : Str → Option Value} {oa : Obj} {da : Option Obj}
end
end My3
namespace G
open PySem PySem.Spec PyProof.Rows L2
section
variable {X : Cx} {CX : CXT} {k : Nat} {C g : Addr} {sp : Sp} {E : XK} {m : Str}
end
end G

set_option Elab.async false
set_option linter.all false
set_option maxRecDepth 100000
set_option maxHeartbeats 4000000
namespace G
open PySem PySem.Spec PyProof.Rows L2
section
variable {K : PySem.W.Frag} {W : WX} {O : List OD} {ts : List T} {P : PT'} {g : TG} {te : TE} {vs : List Nat}
end
end G

set_option Elab.async false
set_option linter.all false
set_option maxRecDepth 100000
set_option maxHeartbeats 4000000
namespace My4
open PySem PySem.SeqAt GQ
open AutoSeq1 (wpAny_loadPart')
open MeetsSeq MeetsSeq2 MeetsSeq3 SeqRoads2
section
variable {prog : Program} {w : World} {A : Around} {R : Result → Shared → Prop}
end
end My4
namespace G
open PySem PySem.Spec PyProof.Rows L2
section
variable {X : Cx} {CX : CXT} {k : Nat} {C g : Addr} {sp : SpD}
end
section
variable {X : Cx} {CX : CXT} {k : Nat} {C g : Addr} {sp : SpD}
end
end G

set_option Elab.async false
set_option linter.all false
set_option maxRecDepth 100000
set_option maxHeartbeats 4000000
namespace G
open PySem PySem.Spec PyProof.Rows L2
section
variable {K : PySem.W.Frag} {P : PT'} {sp : SpD} {b : Bs} {A1 : List Addr} {O1 : List OD} {H1 : Hp} {xs : List T} {vs : List V} {ds : List D} {Q : VK} {σ : L2.St}
end
section
variable {K : PySem.W.Frag} {W : WX} {O : List OD} {ts : List T} {P : PT'} {X : XX} {sp : SpD} {tk : TA} {C : Addr} {tw : Bool} {m : Nat}
end
end G

set_option Elab.async false
set_option linter.all false
set_option maxRecDepth 100000
set_option maxHeartbeats 4000000
namespace G
open PySem PySem.Spec PyProof.Rows L2
def dAt : List (Key × D) → Key → Option D
  | [], _ => none
  | p :: r, k => if p.1 = k then some p.2 else dAt r k
theorem RepK.at_ {K : PySem.W.Frag} {F : Hp} : ∀ {kvs : List (Key × D)} {ws : List (Key × V)}, RepK K F kvs ws → ∀ {k : Key} {d : D}, dAt kvs k = some d → ∃ v, valV ws k = some v ∧ Rep K F d v
  | [], _, _, _, _, h => nomatch h
  | p :: r, ws, h, k, d, e => by
    obtain ⟨v, r', rfl, hv, hr⟩ := h
    have e' : (if p.1 = k then some p.2 else dAt r k) = some d := e
    by_cases q : p.1 = k
    · rw [if_pos q] at e'
      cases e'
      exact ⟨v, valV_pos (p := (p.1, v)) q, hv⟩
    · rw [if_neg q] at e'
      obtain ⟨w, e1, e2⟩ := hr.at_ e'
      exact ⟨w, (valV_neg (p := (p.1, v)) q).trans e1, e2⟩
theorem RepK.len {K : PySem.W.Frag} {F : Hp} : ∀ {kvs : List (Key × D)} {ws : List (Key × V)}, RepK K F kvs ws → ws.length = kvs.length
  | [], ws, h => by
    cases (show ws = [] from h)
    rfl
  | p :: r, ws, h => by
    obtain ⟨v, r', rfl, hv, hr⟩ := h
    rw [List.length_cons, List.length_cons, hr.len]
theorem RepK.snoc {K : PySem.W.Frag} {F : Hp} {k : Key} {d : D} {v : V} (hv : Rep K F d v) : ∀ {kvs : List (Key × D)} {ws : List (Key × V)}, RepK K F kvs ws → RepK K F (kvs ++ [(k, d)]) (ws ++ [(k, v)])
  | [], ws, h => by
    cases (show ws = [] from h)
    exact ⟨v, [], rfl, hv, rfl⟩
  | p :: r, ws, h => by
    obtain ⟨u, r', rfl, hu, hr⟩ := h
    exact ⟨u, r' ++ [(k, v)], rfl, hu, hr.snoc hv⟩
/-- a dict: frozen, or an own thing -/
def DicD (x : T) (O : List OD) (kvs : List (Key × D)) : Prop := x = .v (.dic kvs) ∨ ∃ i, x = .own i ∧ O[i]? = some (.dic kvs)
theorem dicD_v {O : List OD} {kvs : List (Key × D)} : DicD (.v (.dic kvs)) O kvs := .inl rfl
section
variable {K : PySem.W.Frag} {W : WX} {O : List OD} {ts : List T} {P : PT'} {X : XX} {td ty : TE}
end
end G

set_option Elab.async false
set_option linter.all false
set_option maxRecDepth 100000
set_option maxHeartbeats 4000000
namespace My6
open PySem PySem.SeqAt GQ
open AutoSeq1 (wpAny_loadPart')
open MeetsSeq MeetsSeq2 MeetsSeq3 SeqRoads2
section
variable {prog : Program} {w : World} {A : Around} {R : Result → Shared → Prop}
end
end My6
namespace G
open PySem PySem.Spec PyProof.Rows L2
section
variable {X : Cx} {CX : CXT} {k : Nat} {C g : Addr} {sp : SpD}
end
section
variable {X : Cx} {CX : CXT} {k : Nat} {C g : Addr} {sp : SpD}
end
end G

set_option Elab.async false
set_option linter.all false
set_option maxRecDepth 100000
set_option maxHeartbeats 4000000
namespace G
open PySem PySem.Spec PyProof.Rows L2
end G
namespace G
open PySem PySem.Spec PyProof.Rows L2
section
variable {X : Cx} {CX : CXT} {k : Nat} {C g : Addr} {sp : Sp} {E : XK} {a b : Expr} {ta tb : TE} {pos : Pos}
end
end G

set_option Elab.async false
set_option linter.all false
set_option maxRecDepth 100000
set_option maxHeartbeats 4000000
namespace G
open PySem PySem.Spec PyProof.Rows L2
section
variable {X : Cx} {CX : CXT} {k : Nat} {C g : Addr} {sp : Sp} {E : XK}
end
end G

set_option Elab.async false
set_option linter.all false
set_option maxRecDepth 100000
set_option maxHeartbeats 4000000
namespace G
open PySem PySem.Spec PyProof.Rows L2
def KwT (K : PySem.W.Frag) (fd : FuncData) (ps : List Str) (tw : Bool) : Prop := ∀ (s : Shared) (ws : List Value), K.In s.heap → ws.length = ps.length → BindsTo s fd ⟨[], (turnL tw ps).zip ws⟩ (ps.zip (turnL tw ws))
theorem KwB.t {K : PySem.W.Frag} {fd : FuncData} {ps : List Str} (h : KwB K fd ps) : KwT K fd ps false := h
theorem KwR.t {K : PySem.W.Frag} {fd : FuncData} {ps : List Str} (h : KwR K fd ps) : KwT K fd ps true := h
def tCallKX (tw : Bool) (sp : Sp) (E : L2.St → XK) (t : TA) : TE := fun σ H Q => t σ H fun zs H1 => sp (turnL tw zs) H1 Q (E σ)
section
variable {X : Cx} {CX : CXT} {k : Nat} {f C g : Addr} {fd : FuncData} {ps ks : List Str} {sp : Sp} {E : L2.St → XK} {E1 : XK} {x m : Str} {kws : List Keyword} {tk t : TA} {ta tb : TE} {tw : Bool} {p p2 pos apos : Pos} {e o a b : Expr} {es : List Expr} {pl : Sem Bool}
def tMakeX (C : Addr) (sp : Sp) (E : L2.St → XK) (t : TA) : TE := fun σ H Q => t σ H fun vs H1 => ∀ x dx, H1 x = Option.none → H1 dx = Option.none → dx ≠ x →
  sp (V.ref x :: vs) (upd (upd H1 dx (.own x)) x (.ins C dx [])) (fun v H2 => v = .non ∧ Q (.ref x) H2) (E σ)
def tSMethX (C : Addr) (sp : Sp) (E : L2.St → XK) (ta : TE) (t : TA) : TE := fun σ H Q => ta σ H fun x H1 => x = .ref C ∧ t σ H1 fun vs H2 => sp vs H2 Q (E σ)
/-- C.m(p = .., ..) by all the parameters' names -/
def tSMethK (C : Addr) (tw : Bool) (sp : Sp) (E : L2.St → XK) (ta : TE) (tk : TA) : TE := fun σ H Q => ta σ H fun x H1 => x = .ref C ∧ tk σ H1 fun zs H2 => sp (turnL tw zs) H2 Q (E σ)
end
section
variable {K : PySem.W.Frag} {W : WX} {O : List OD} {ts : List T} {P : PT'} {X : XX} {sp : SpD} {tk tr : TA} {ta : TE} {C : Addr} {tw : Bool} {n : Nat}
theorem w_callKX (h : WA K W tk O ts (fun xs O1 => ∃ ds, unv xs = some ds ∧ sp ((turnL tw ds).map T.v) [] (fun t _ => (∃ d, t = .v d) ∧ P t O1) (fun C fs _ => X C fs O1)) X) :
    WE K W (tCallKX tw (lift K sp) (L2.WE W) tk) O ts P X := fun b A σ H Q s rs kv kx =>
  h b A σ H _ s rs (fun xs vs A1 O1 H1 p1 s1 n1 r1 => by
    obtain ⟨ds, e, p⟩ := p1
    exact lift_p (W := W) (σ := σ) s1 (xs := (turnL tw ds).map T.v) (ds := turnL tw ds) (turn_rep r1 e) unv_map (fun _ _ _ z => z) p (kv.nxt n1) (kx.nxt n1)) kx
theorem w_smethX (h : WE K W ta O ts (fun x O1 => x = .v (.ref C) ∧ WA K W tr O1 ts (fun xs O2 => ∃ ds, unv xs = some ds ∧ sp xs [] (fun t _ => (∃ d, t = .v d) ∧ P t O2) (fun C fs _ => X C fs O2)) X) X) :
    WE K W (tSMethX C (lift K sp) (L2.WE W) ta tr) O ts P X := fun b A σ H Q s rs kv kx =>
  h b A σ H _ s rs (fun x v A1 O1 H1 p1 s1 n1 r1 => by
    obtain ⟨rfl, p⟩ := p1
    obtain ⟨_, e1, e2⟩ := id r1
    cases e1
    refine ⟨e2, p b A1 σ H1 _ s1 (rs.nxt n1) (fun xs us A2 O2 H2 p2 s2 n2 r2 => ?_) (kx.nxt n1)⟩
    obtain ⟨ds, e, q⟩ := p2
    exact lift_p (W := W) (σ := σ) s2 r2 e (fun _ _ _ z => z) q (kv.nxt (n1.trans n2)) (kx.nxt (n1.trans n2))) kx
theorem w_smethK (h : WE K W ta O ts (fun x O1 => x = .v (.ref C) ∧ WA K W tk O1 ts (fun xs O2 => ∃ ds, unv xs = some ds ∧ sp ((turnL tw ds).map T.v) [] (fun t _ => (∃ d, t = .v d) ∧ P t O2) (fun C fs _ => X C fs O2)) X) X) :
    WE K W (tSMethK C tw (lift K sp) (L2.WE W) ta tk) O ts P X := fun b A σ H Q s rs kv kx =>
  h b A σ H _ s rs (fun x v A1 O1 H1 p1 s1 n1 r1 => by
    obtain ⟨rfl, p⟩ := p1
    obtain ⟨_, e1, e2⟩ := id r1
    cases e1
    refine ⟨e2, p b A1 σ H1 _ s1 (rs.nxt n1) (fun xs us A2 O2 H2 p2 s2 n2 r2 => ?_) (kx.nxt n1)⟩
    obtain ⟨ds, e, q⟩ := p2
    exact lift_p (W := W) (σ := σ) s2 (xs := (turnL tw ds).map T.v) (ds := turnL tw ds) (turn_rep r2 e) unv_map (fun _ _ _ z => z) q (kv.nxt (n1.trans n2)) (kx.nxt (n1.trans n2))) kx
end
theorem RepX.ex {K : PySem.W.Frag} {F F' H H' : Hp} {d : Option Addr} : ∀ {fs : Option (List (Str × D))}, RepX K F H fs d → Ex F F' → RepX K F' H' fs d
  | none, h, _ => h
  | some _, ⟨dx, vs, e, h1, h2⟩, x => ⟨dx, vs, e, x _ _ h1 (fun _ z => by cases z), h2.ex x⟩
section
variable {K : PySem.W.Frag} {W : WX} {P : PT'} {X : XX} {sp : SpD} {b : Bs} {A1 : List Addr} {O1 : List OD} {H1 H3 : Hp} {xs : List T} {vs : List V} {ds : List D} {Q : VK} {σ : L2.St}
theorem tail_nil {A1 A' M : List Addr} {O1 : List OD} {o : OD} {x : Addr} (h1 : A1.length = O1.length) (h2 : A'.length = (O1 ++ [o]).length) (e : A' = A1 ++ [x] ++ M) : M = [] := by
  rw [e, List.length_append, List.length_append, List.length_append] at h2
  exact List.length_eq_zero_iff.mp (by simp only [List.length_singleton] at h2; omega)
/-- what an __init__ is handed: the new instance as the owned thing 0 -/
theorem new_core {C x : Addr} (s1 : StO K b A1 O1 H1) (hx : H1 x = none) (s3 : StO K b (A1 ++ [x]) (O1 ++ [.ins C []]) H3) (n3 : Ex (Fz b A1 O1 H1) (Fz b (A1 ++ [x]) (O1 ++ [.ins C []]) H3)) (r3 : RepTs K (Fz b (A1 ++ [x]) (O1 ++ [.ins C []]) H3) (A1 ++ [x]) xs vs) (e : unv xs = some ds)
    (p : sp (.own 0 :: xs) [.ins C []] (fun t O' => t = .v .non ∧ ∃ fs, O' = [.ins C fs] ∧ P (.v (.ins C fs)) O1) (fun C' fs O' => (∃ o', O' = [o']) ∧ X C' fs O1)) (kv : KV' K b A1 O1 H1 P Q) (kx : KX K W b A1 O1 σ H1 X) :
    lift K sp (.ref x :: vs) H3 (fun v H => v = .non ∧ Q (.ref x) H) (L2.WE W σ) := by
  have hat : (A1 ++ [x])[O1.length]? = some x := by
    rw [← s1.len, List.getElem?_append_right (Nat.le_refl _), Nat.sub_self] <;> rfl
  have hoat : (O1 ++ [OD.ins C []])[O1.length]? = some (.ins C []) := by
    rw [List.getElem?_append_right (Nat.le_refl _), Nat.sub_self] <;> rfl
  have es : ∀ o' : OD, (O1 ++ [OD.ins C []]).set O1.length o' = O1 ++ [o'] := fun o' => by
    rw [List.set_append_right _ _ (Nat.le_refl _), Nat.sub_self] <;> rfl
  refine lift_1 (W := W) (X := fun C' fs O' => (∃ o', O' = O1 ++ [o']) ∧ X C' fs O1) (σ := σ) (P := fun t O' => t = .v .non ∧ ∃ fs, O' = O1 ++ [.ins C fs] ∧ P (.v (.ins C fs)) O1) s3 (xs := .own O1.length :: xs) (ys := .own 0 :: xs) ⟨.ref x, vs, rfl, ⟨x, hat, rfl⟩, r3⟩ ?_ hoat rfl (fun C d H z => z) ?_
    (fun t v A' O' H' q s' n' rt => ?_) (fun C' fs A' O' H' d q s' n' rx => ?_)
  · show (if O1.length = O1.length then (tr1 O1.length xs).map (T.own 0 :: ·) else none) = _
    rw [if_pos rfl, tr1_v e] <;> rfl
  · have x0 : (fun (C' : Value) (fs : Option (List (Str × D))) (O' : List OD) => ∃ o', O' = [o'] ∧ ((∃ o'', (O1 ++ [OD.ins C []]).set O1.length o' = O1 ++ [o'']) ∧ X C' fs O1)) = fun C' fs O' => (∃ o', O' = [o']) ∧ X C' fs O1 := by
      funext C' fs O'
      exact propext ⟨fun ⟨o', e1, _, q⟩ => ⟨⟨o', e1⟩, q⟩, fun ⟨⟨o', e1⟩, q⟩ => ⟨o', e1, ⟨o', es o'⟩, q⟩⟩
    have pq : (fun (t : T) (O' : List OD) => ∃ o', O' = [o'] ∧ okR t = true ∧ (un1 O1.length t = .v .non ∧ ∃ fs, (O1 ++ [OD.ins C []]).set O1.length o' = O1 ++ [.ins C fs] ∧ P (.v (.ins C fs)) O1)) = fun t O' => t = .v .non ∧ ∃ fs, O' = [.ins C fs] ∧ P (.v (.ins C fs)) O1 := by
      funext t O'
      refine propext ⟨?_, ?_⟩
      · rintro ⟨o', rfl, hn, hu, fs, e1, q⟩
        rw [es] at e1
        have e2 := List.append_cancel_left e1
        injection e2 with e2 _
        subst e2
        refine ⟨?_, fs, rfl, q⟩
        cases t with
        | v d => exact hu
        | own j => cases hu
        | no => cases hn
        | clo R f => cases hn
      · rintro ⟨rfl, fs, rfl, q⟩
        exact ⟨_, rfl, rfl, rfl, fs, es _, q⟩
    rw [x0, pq]
    exact p
  · obtain ⟨rfl, fs, rfl, q⟩ := q
    obtain ⟨_, e1, e2⟩ := rt
    cases e1
    obtain ⟨M, eM⟩ := n'.pre
    obtain rfl := tail_nil s1.len s'.len eM
    rw [List.append_nil] at eM
    subst eM
    obtain ⟨dx', us, c1, c2⟩ := s'.cell O1.length x (.ins C fs) hat (by rw [List.getElem?_append_right (Nat.le_refl _), Nat.sub_self] <;> rfl)
    obtain ⟨s4, x4⟩ := s'.drop s1.len s1.pre
    have nA : x ∉ A1 := fun hm => (List.nodup_append.mp s'.nd).2.2 x hm x (List.mem_singleton.mpr rfl) rfl
    have nz : x ∉ live A1 O1 ++ b.Z := fun z => by
      rcases List.mem_append.mp z with z | z
      · obtain ⟨j, o, z1, _, _⟩ := live_mem z
        exact nA (List.mem_of_getElem? z1)
      · obtain ⟨o, zz, _⟩ := (s1.z_at (a := x) z).2
        rw [hx] at zz
        cases zz
    have fz : Fz b A1 O1 H' x = some (.ins C dx' us) := hid_some.mpr ⟨nz, c1⟩
    exact ⟨e2, kv _ _ A1 O1 H' q s4 ⟨⟨[], (List.append_nil A1).symm⟩, (n3.trans n'.ext).trans x4⟩ ⟨_, rfl, x, dx', us, rfl, fz, c2.ex x4⟩⟩
  · obtain ⟨⟨o', rfl⟩, q⟩ := q
    obtain ⟨M, eM⟩ := n'.pre
    obtain rfl := tail_nil s1.len s'.len eM
    rw [List.append_nil] at eM
    subst eM
    obtain ⟨s4, x4⟩ := s'.drop s1.len s1.pre
    exact kx C' fs A1 O1 H' d q s4 ⟨⟨[], (List.append_nil A1).symm⟩, (n3.trans n'.ext).trans x4⟩ (rx.ex x4)
theorem new_at {C x dx : Addr} (s1 : StO K b A1 O1 H1) (hx : H1 x = none) (hdx : H1 dx = none) (hne : dx ≠ x) : StO K b (A1 ++ [x]) (O1 ++ [.ins C []]) (upd (upd H1 dx (.own x)) x (.ins C dx [])) ∧ Nxt b A1 O1 H1 (A1 ++ [x]) (O1 ++ [.ins C []]) (upd (upd H1 dx (.own x)) x (.ins C dx [])) := by
  obtain ⟨s2, n2⟩ := s1.lay2 hdx (.own x)
  obtain ⟨s3, n3⟩ := s2.own (u := .ins C dx []) (o := .ins C []) ((upd_ne hne.symm).trans hx) ⟨dx, [], upd_same, rfl⟩
  exact ⟨s3, n2.trans n3⟩
end
section
variable {K : PySem.W.Frag} {W : WX} {O : List OD} {ts : List T} {P : PT'} {X : XX} {sp : SpD} {tk tr : TA} {C : Addr} {tw : Bool} {m : Nat}
/-- C(..) -/
theorem w_makeX (h : WA K W tr O ts (fun xs O1 => ∃ ds, unv xs = some ds ∧ sp (.own 0 :: xs) [.ins C []] (fun t O' => t = .v .non ∧ ∃ fs, O' = [.ins C fs] ∧ P (.v (.ins C fs)) O1) (fun C' fs O' => (∃ o', O' = [o']) ∧ X C' fs O1)) X) :
    WE K W (tMakeX C (lift K sp) (L2.WE W) tr) O ts P X := fun b A σ H Q s rs kv kx =>
  h b A σ H _ s rs (fun xs vs A1 O1 H1 p1 s1 n1 r1 x dx hx hdx hne => by
    obtain ⟨ds, e, p⟩ := p1
    obtain ⟨s3, n3⟩ := new_at (C := C) s1 hx hdx hne
    exact new_core s1 hx s3 n3.ext (r1.nxt n3) e p (kv.nxt n1) (kx.nxt n1)) kx
end
end G

set_option Elab.async false
set_option linter.all false
set_option maxRecDepth 100000
set_option maxHeartbeats 4000000
namespace G
open PySem PySem.Spec PyProof.Rows L2
def BTY : List String := ["NoneType", "bool", "int", "str", "list", "tuple", "dict"]
/-- no builtin type is below the class -/
def kitNB (K : PySem.W.Frag) (C : Addr) : Bool := BTY.all fun ty => decide (PySem.W.kitOne K (.type ty) (.ref C) = some false)
def KitN (K : PySem.W.Frag) (C : Addr) : Prop := ∀ ty ∈ BTY, PySem.W.kitOne K (.type ty) (.ref C) = some false
theorem kitNB_ok {K : PySem.W.Frag} {C : Addr} (h : kitNB K C = true) : KitN K C := fun ty hm => of_decide_eq_true (List.all_eq_true.mp h ty hm)
/-- of a builtin type, no integer -/
def niB (d : D) : Bool := match d with
  | .non | .bl _ | .str _ | .lst _ | .tup _ | .dic _ => true
  | _ => false
theorem ni_ok {K : PySem.W.Frag} {d : D} (h : niB d = true) : IntQ K d false := by
  cases d with
  | non => exact intQ_non
  | bl b => exact intQ_bl
  | str b => exact intQ_str
  | lst b => exact intQ_lst
  | tup b => exact intQ_tup
  | dic b => exact intQ_dic
  | _ => cases h
def SVE (d : D) : Prop := ∃ p, Shows d p ∧ PyData.strOk p.shown = true
def shB (d : D) : Bool := match pyT d with
  | some p => p.showable && (decide (p.depth ≤ 100) && (decide (p.shown.length ≤ sizeLine) && PyData.strOk p.shown))
  | none => false
theorem sv_of {d : D} (h : shB d = true) : SVE d := by
  unfold shB at h
  split at h
  · rename_i p e
    obtain ⟨h1, h⟩ := He.ba h
    obtain ⟨h2, h⟩ := He.ba h
    obtain ⟨h3, h4⟩ := He.ba h
    exact ⟨p, ⟨e, h1, of_decide_eq_true h2, of_decide_eq_true h3⟩, h4⟩
  · cases h
theorem pl_lstA {n : Nat} : ∀ {ds : List D}, (∀ d ∈ ds, pl n d = true) → pl (n + 1) (.lst ds) = true
  | [], _ => rfl
  | d :: ds, h => by
    have h2 : pls n ds = true := pl_lstA (ds := ds) fun x hx => h x (List.mem_cons_of_mem _ hx)
    show (pl n d && pls n ds) = true
    rw [h d List.mem_cons_self, h2] <;> rfl
theorem pl_tupA {n : Nat} {ds : List D} (h : ∀ d ∈ ds, pl n d = true) : pl (n + 1) (.tup ds) = true := pl_lstA h
end G

set_option Elab.async false
set_option linter.all false
set_option maxRecDepth 100000
set_option maxHeartbeats 0
namespace My
open PySem PySem.Spec PyProof.Rows L2 G
def top (i : Nat) : Stmt := PySem.Challenge.pw_restchains_k24_periods_looked_at.main.body.getD i (.Pass ⟨0, 0, 0, 0⟩)
def d_is_integer : He.DefD := ⟨("is_integer", none), "is_integer", "is_integer", defArgs (top 4), defBody (top 4), defScope (top 4), [], []⟩
def d_is_between : He.DefD := ⟨("is_between", none), "is_between", "is_between", defArgs (top 5), defBody (top 5), defScope (top 5), [], []⟩
def d_fits_modulus : He.DefD := ⟨("fits_modulus", none), "fits_modulus", "fits_modulus", defArgs (top 6), defBody (top 6), defScope (top 6), [], []⟩
def d_law_pen : He.DefD := ⟨("_law_pen", none), "_law_pen", "_law_pen", defArgs (top 57), defBody (top 57), defScope (top 57), [], []⟩
def d_law_draw : He.DefD := ⟨("_law_draw", none), "_law_draw", "_law_draw", defArgs (top 58), defBody (top 58), defScope (top 58), [], []⟩
def d_law_pick : He.DefD := ⟨("_law_pick", none), "_law_pick", "_law_pick", defArgs (top 59), defBody (top 59), defScope (top 59), [], []⟩
def d_binomial : He.DefD := ⟨("binomial", none), "binomial", "binomial", defArgs (top 22), defBody (top 22), defScope (top 22), [], []⟩
def d_power_of : He.DefD := ⟨("power_of", none), "power_of", "power_of", defArgs (top 23), defBody (top 23), defScope (top 23), [], []⟩
def d_times_in : He.DefD := ⟨("times_in", none), "times_in", "times_in", defArgs (top 24), defBody (top 24), defScope (top 24), [], []⟩
def d_small_in : He.DefD := ⟨("small_in", none), "small_in", "small_in", defArgs (top 25), defBody (top 25), defScope (top 25), [], []⟩
def d_great_in : He.DefD := ⟨("great_in", none), "great_in", "great_in", defArgs (top 26), defBody (top 26), defScope (top 26), [], []⟩
def d_combined : He.DefD := ⟨("combined", none), "combined", "combined", defArgs (top 27), defBody (top 27), defScope (top 27), [], []⟩
def d_shared_in : He.DefD := ⟨("shared_in", none), "shared_in", "shared_in", defArgs (top 28), defBody (top 28), defScope (top 28), [], []⟩
def d_are_multipliers : He.DefD := ⟨("are_multipliers", none), "are_multipliers", "are_multipliers", defArgs (top 29), defBody (top 29), defScope (top 29), [], []⟩
def d_is_written : He.DefD := ⟨("is_written", none), "is_written", "is_written", defArgs (top 8), defBody (top 8), defScope (top 8), [], []⟩
def d_WordsU_initU : He.DefD := ⟨("Words", some "__init__"), "__init__", "Words.__init__", defArgs (inClass (top 31) 0), defBody (inClass (top 31) 0), defScope (inClass (top 31) 0), [], []⟩
def d_Words_next_word : He.DefD := ⟨("Words", some "next_word"), "next_word", "Words.next_word", defArgs (inClass (top 31) 1), defBody (inClass (top 31) 1), defScope (inClass (top 31) 1), [], []⟩
def d_Words_refuse : He.DefD := ⟨("Words", some "refuse"), "refuse", "Words.refuse", defArgs (inClass (top 31) 2), defBody (inClass (top 31) 2), defScope (inClass (top 31) 2), [], []⟩
def d_Words_take_word : He.DefD := ⟨("Words", some "take_word"), "take_word", "Words.take_word", defArgs (inClass (top 31) 3), defBody (inClass (top 31) 3), defScope (inClass (top 31) 3), [], []⟩
def d_Words_take_number : He.DefD := ⟨("Words", some "take_number"), "take_number", "Words.take_number", defArgs (inClass (top 31) 4), defBody (inClass (top 31) 4), defScope (inClass (top 31) 4), [], []⟩
def d_Words_take_end : He.DefD := ⟨("Words", some "take_end"), "take_end", "Words.take_end", defArgs (inClass (top 31) 7), defBody (inClass (top 31) 7), defScope (inClass (top 31) 7), [], []⟩
def d_trimmed : He.DefD := ⟨("trimmed", none), "trimmed", "trimmed", defArgs (top 34), defBody (top 34), defScope (top 34), [], []⟩
def d_SumU_initU : He.DefD := ⟨("Sum", some "__init__"), "__init__", "Sum.__init__", defArgs (inClass (top 41) 1), defBody (inClass (top 41) 1), defScope (inClass (top 41) 1), [], []⟩
def d_coefs_read : He.DefD := ⟨("coefs_read", none), "coefs_read", "coefs_read", defArgs (top 39), defBody (top 39), defScope (top 39), [], []⟩
def d_need_sum : He.DefD := ⟨("need_sum", none), "need_sum", "need_sum", defArgs (top 44), defBody (top 44), defScope (top 44), [], []⟩
def d_left_in : He.DefD := ⟨("left_in", none), "left_in", "left_in", defArgs (top 45), defBody (top 45), defScope (top 45), [], []⟩
def d_keeps : He.DefD := ⟨("keeps", none), "keeps", "keeps", defArgs (top 46), defBody (top 46), defScope (top 46), [], []⟩
def d_leaving_row : He.DefD := ⟨("leaving_row", none), "leaving_row", "leaving_row", defArgs (top 47), defBody (top 47), defScope (top 47), [], []⟩
def d_small_power : He.DefD := ⟨("small_power", none), "small_power", "small_power", defArgs (top 48), defBody (top 48), defScope (top 48), [], []⟩
def d_small_shown : He.DefD := ⟨("small_shown", none), "small_shown", "small_shown", defArgs (top 49), defBody (top 49), defScope (top 49), [], []⟩
def d_PeriodU_initU : He.DefD := ⟨("Period", some "__init__"), "__init__", "Period.__init__", defArgs (inClass (top 43) 0), defBody (inClass (top 43) 0), defScope (inClass (top 43) 0), [], []⟩
def d_PeriodU_eqU : He.DefD := ⟨("Period", some "__eq__"), "__eq__", "Period.__eq__", defArgs (inClass (top 43) 1), defBody (inClass (top 43) 1), defScope (inClass (top 43) 1), [], []⟩
def d_least_period : He.DefD := ⟨("least_period", none), "least_period", "least_period", defArgs (top 50), defBody (top 50), defScope (top 50), [], []⟩
def d_most_power : He.DefD := ⟨("most_power", none), "most_power", "most_power", defArgs (top 52), defBody (top 52), defScope (top 52), [], []⟩
def d_divisor_shown : He.DefD := ⟨("divisor_shown", none), "divisor_shown", "divisor_shown", defArgs (top 53), defBody (top 53), defScope (top 53), [], []⟩
def d_shows_small : He.DefD := ⟨("shows_small", none), "shows_small", "shows_small", defArgs (top 54), defBody (top 54), defScope (top 54), [], []⟩
def d_shows_period : He.DefD := ⟨("shows_period", none), "shows_period", "shows_period", defArgs (top 55), defBody (top 55), defScope (top 55), [], []⟩
def d_law_choose : He.DefD := ⟨("_law_choose", none), "_law_choose", "_law_choose", defArgs (top 60), defBody (top 60), defScope (top 60), [], []⟩
def d_law_cut : He.DefD := ⟨("_law_cut", none), "_law_cut", "_law_cut", defArgs (top 61), defBody (top 61), defScope (top 61), [], []⟩
def d_law_made : He.DefD := ⟨("_law_made", none), "_law_made", "_law_made", defArgs (top 62), defBody (top 62), defScope (top 62), [], []⟩
def d_law_value : He.DefD := ⟨("_law_value", none), "_law_value", "_law_value", defArgs (top 63), defBody (top 63), defScope (top 63), [], []⟩
def d_law_drawn : He.DefD := ⟨("_law_drawn", none), "_law_drawn", "_law_drawn", defArgs (top 65), defBody (top 65), defScope (top 65), [], []⟩
def d_law_left : He.DefD := ⟨("_law_left", none), "_law_left", "_law_left", defArgs (top 64), defBody (top 64), defScope (top 64), [], []⟩
def d_law_parted : He.DefD := ⟨("_law_parted", none), "_law_parted", "_law_parted", defArgs (top 68), defBody (top 68), defScope (top 68), [], []⟩
def d_law_common : He.DefD := ⟨("_law_common", none), "_law_common", "_law_common", defArgs (top 66), defBody (top 66), defScope (top 66), [], []⟩
def d_law_leaves : He.DefD := ⟨("_law_leaves", none), "_law_leaves", "_law_leaves", defArgs (top 69), defBody (top 69), defScope (top 69), [], []⟩
def d_law_power : He.DefD := ⟨("_law_power", none), "_law_power", "_law_power", defArgs (top 70), defBody (top 70), defScope (top 70), [], []⟩
def d_law_is_int : He.DefD := ⟨("_law_is_int", none), "_law_is_int", "_law_is_int", defArgs (top 67), defBody (top 67), defScope (top 67), [], []⟩
def d_law_triple_right : He.DefD := ⟨("_law_triple_right", none), "_law_triple_right", "_law_triple_right", defArgs (top 71), defBody (top 71), defScope (top 71), [], []⟩
def d_law_due : He.DefD := ⟨("_law_due", none), "_law_due", "_law_due", defArgs (top 72), defBody (top 72), defScope (top 72), [], []⟩
def d_law_bent_triple : He.DefD := ⟨("_law_bent_triple", none), "_law_bent_triple", "_law_bent_triple", defArgs (top 73), defBody (top 73), defScope (top 73), [], []⟩
def d_law_bent : He.DefD := ⟨("_law_bent", none), "_law_bent", "_law_bent", defArgs (top 74), defBody (top 74), defScope (top 74), [], []⟩
def d_law_right : He.DefD := ⟨("_law_right", none), "_law_right", "_law_right", defArgs (top 75), defBody (top 75), defScope (top 75), [], []⟩
def d_law : He.DefD := ⟨("law", none), "law", "law", defArgs (top 76), defBody (top 76), defScope (top 76), [], []⟩
def fn : List He.DefD := [d_is_integer, d_is_between, d_fits_modulus, d_law_pen, d_law_draw, d_law_pick, d_binomial, d_power_of, d_times_in, d_small_in, d_great_in, d_combined, d_shared_in, d_are_multipliers, d_is_written, d_WordsU_initU, d_Words_next_word, d_Words_refuse, d_Words_take_word, d_Words_take_number, d_Words_take_end, d_trimmed, d_SumU_initU, d_coefs_read, d_need_sum, d_left_in, d_keeps, d_leaving_row, d_small_power, d_small_shown, d_PeriodU_initU, d_PeriodU_eqU, d_least_period, d_most_power, d_divisor_shown, d_shows_small, d_shows_period, d_law_choose, d_law_cut, d_law_made, d_law_value, d_law_drawn, d_law_left, d_law_parted, d_law_common, d_law_leaves, d_law_power, d_law_is_int, d_law_triple_right, d_law_due, d_law_bent_triple, d_law_bent, d_law_right, d_law]
def fa : List He.Fa := [.free "int", .free "isinstance", .free "bool", .glo "is_integer", .glo "is_between", .int "MOST_MODULUS" 1000000000000000000000000000000, .free "list", .free "len", .free "abs", .glo "_law_draw", .free "range", .glo "times_in", .glo "PRIMES", .glo "small_in", .glo "power_of", .glo "combined", .free "tuple", .free "all", .int "MOST_DIGITS" 40, .free "str", .cls "Words", .glo "Words", .noat "Words" "words", .noat "Words" "line", .noat "Words" "read_so_far", .meth "Words" "next_word", .meth "Words" "refuse", .glo "is_written", .glo "fits_modulus", .glo "trimmed", .int "MOST_COEFS" 13, .cls "Sum", .glo "Sum", .noat "Sum" "modulus", .noat "Sum" "coefs", .free "max", .meth "Words" "take_number", .meth "Words" "take_end", .glo "coefs_read", .mkr "Words", .meth "Words" "take_word", .mkr "Sum", .glo "binomial", .free "sum", .cls "Period", .glo "Period", .glo "left_in", .glo "keeps", .glo "small_power", .glo "leaving_row", .noat "Period" "multipliers", .noat "Period" "great", .noat "Period" "smalls", .noat "Period" "length", .glo "small_shown", .glo "need_sum", .glo "great_in", .glo "shared_in", .mkr "Period", .free "zip", .free "any", .glo "most_power", .glo "shows_small", .glo "are_multipliers", .glo "divisor_shown", .glo "_law_cut", .glo "_law_choose", .glo "_law_pick", .glo "_law_left", .glo "_law_is_int", .glo "_law_leaves", .glo "_law_power", .free "repr", .glo "_law_triple_right", .glo "_law_common", .glo "_law_parted", .glo "_law_bent_triple", .glo "_law_made", .glo "_law_due", .glo "shows_period", .glo "least_period", .glo "_law_bent", .glo "_law_drawn", .glo "_law_right", .glo "_law_pen", .glo "law"]
def insB (K : PySem.W.Frag) (C : Addr) : Bool := He.eqO (PySem.W.findIn K (.ref C) "__class__") (some (some (.builtin "object.__class__"))) && (He.eqO (PySem.W.specialIn K (.builtin "object.__class__") "__get__") (some (some (.builtin "getset_descriptor.__get__"))) && (decide (PySem.W.takesIn K (.builtin "object.__class__") = some true) && decide (PySem.W.mroIn K C (.type "object") = some true)))
theorem insB_ok {K : PySem.W.Frag} {C : Addr} (c : Cls K C) (h : insB K C = true) : G.InsTy K C := by
  obtain ⟨h1, h⟩ := He.ba h
  obtain ⟨h2, h⟩ := He.ba h
  obtain ⟨h3, h4⟩ := He.ba h
  exact ⟨c, He.eqO_ok h1, He.eqO_ok h2, of_decide_eq_true h3, of_decide_eq_true h4⟩
def pr_Sum_degree : PrD := ⟨"Sum", "degree", "property", "Sum.degree", defArgs (inClass (top 41) 4), defBody (inClass (top 41) 4), defScope (inClass (top 41) 4)⟩
def pr_Sum_read : PrD := ⟨"Sum", "read", "staticmethod", "Sum.read", defArgs (inClass (top 41) 3), defBody (inClass (top 41) 3), defScope (inClass (top 41) 3)⟩
def prs : List PrD := [pr_Sum_degree, pr_Sum_read]
def es : List ExD := []
def exs (K : PySem.W.Frag) : List Bool := [tupB K (He.ga K "PRIMES") [2, 3, 5, 7, 11], insB K (He.ga K "Sum"), decide (PySem.W.kitOne K (.ref (He.ga K "Sum")) (.ref (He.ga K "Sum")) = some true), decide (PySem.W.kitOne K (.ref (He.ga K "Sum")) (.type "int") = some false), decide (PySem.W.kitOne K (.ref (He.ga K "Sum")) (.type "bool") = some false), sysB K, insB K (He.ga K "Period"), decide (PySem.W.kitOne K (.ref (He.ga K "Period")) (.ref (He.ga K "Period")) = some true), kitNB K (He.ga K "Period"), PrD.oks K pr_Sum_degree, propB K pr_Sum_degree, decide (PySem.W.kitOne K (.ref (He.ga K "Sum")) (.ref (He.ga K "Period")) = some false), PrD.oks K pr_Sum_read, smB K pr_Sum_read]
def ex (K : PySem.W.Frag) : Bool := (exs K).all id
abbrev loose : List Str := [("_wall" : Str), ("MOST_MODULUS" : Str), ("MOST_DIGITS" : Str), ("is_integer" : Str), ("is_between" : Str), ("fits_modulus" : Str), ("is_row" : Str), ("is_written" : Str), ("RestError" : Str), ("BadInput" : Str), ("Refused" : Str), ("BadModulus" : Str), ("BadNumber" : Str), ("BadBeat" : Str), ("BadSum" : Str), ("BadText" : Str), ("Unlike" : Str), ("TooMany" : Str), ("PRIMES" : Str), ("binomial" : Str), ("power_of" : Str), ("times_in" : Str), ("small_in" : Str), ("great_in" : Str), ("combined" : Str), ("shared_in" : Str), ("are_multipliers" : Str), ("Words" : Str), ("MOST_COEFS" : Str), ("trimmed" : Str), ("differences" : Str), ("value_of" : Str), ("moved" : Str), ("added_coefs" : Str), ("coefs_read" : Str), ("is_single" : Str), ("Sum" : Str), ("Period" : Str), ("need_sum" : Str), ("left_in" : Str), ("keeps" : Str), ("leaving_row" : Str), ("small_power" : Str), ("small_shown" : Str), ("least_period" : Str), ("most_power" : Str), ("divisor_shown" : Str), ("shows_small" : Str), ("shows_period" : Str), ("_law_pen" : Str), ("_law_draw" : Str), ("_law_pick" : Str), ("_law_choose" : Str), ("_law_cut" : Str), ("_law_made" : Str), ("_law_value" : Str), ("_law_left" : Str), ("_law_drawn" : Str), ("_law_common" : Str), ("_law_is_int" : Str), ("_law_parted" : Str), ("_law_leaves" : Str), ("_law_power" : Str), ("_law_triple_right" : Str), ("_law_due" : Str), ("_law_bent_triple" : Str), ("_law_bent" : Str), ("_law_right" : Str)]
abbrev AlX : Type := He.AlD × Bool × List FnE
def obsK (g : Addr → Option Obj) (K : PySem.W.Frag) : AlX := (He.obsD fa fn K, ex K && tabsB g K, es.map (fun d => fnE K (d.f K)) ++ prs.map fun d => fnE K (d.g K))
def obsX (g : Addr → Option Obj) : AlX := obsK g (He.frT g (List.range' 0 12 ++ List.range' 21 25 ++ List.range' 47 21 ++ List.range' 70 11 ++ List.range' 82 11 ++ List.range' 103 11 ++ List.range' 124 11 ++ List.range' 145 11 ++ List.range' 166 11 ++ List.range' 187 11 ++ List.range' 208 11 ++ List.range' 229 64 ++ List.range' 296 39 ++ List.range' 345 23 ++ List.range' 386 11 ++ List.range' 407 11 ++ List.range' 422 21 ++ List.range' 595 11 ++ List.range' 613 218))
def hk : PySem.W.Hook where
  α := AlX
  obs := fun s => obsX s.heap.get?
  val := fun _ => (He.valD fn, true, es.map ExD.val ++ prs.map PrD.val)
  says := fun _ h => ∃ K : PySem.W.Frag, K.In h ∧ He.SaysD fa fn K ∧ ex K = true ∧ es.map (fun d => fnE K (d.f K)) ++ prs.map (fun d => fnE K (d.g K)) = es.map ExD.val ++ prs.map PrD.val ∧ TabH K h
  of := fun _ _ e => ⟨_, He.frT_in, congrArg (fun z : AlX => z.1) e, (He.ba (congrArg (fun z : AlX => z.2.1) e)).1, congrArg (fun z : AlX => z.2.2) e, tabsB_ok He.frT_in (He.ba (congrArg (fun z : AlX => z.2.1) e)).2⟩
  keeps := fun _ _ _ ⟨K, hK, c, e, ee, t⟩ k => ⟨K, PySem.W.Frag.In.keeps hK k, c, e, ee, t.keeps k⟩
abbrev R : PySem.W.OpenRow := PySem.W.OpenLaw.row PySem.Challenge.rw_restchains_k24_periods_looked_at
def ob (s : PySem.W.SharedT) : AlX := obsX (HandSHeadRun.getT s)
theorem ob_eq (s : PySem.W.SharedT) : ob s = hk.obs s.abs := by
  have e : HandSHeadRun.getT s = s.abs.heap.get? := funext fun a => HandSHeadRun.getT_eq s a
  unfold ob
  rw [e] <;> rfl
theorem map3 {α β γ δ : Type} {x : Option α} {f : α → β} {g : α → γ} {h : α → δ} {a : β} {b : γ} {c : δ} (p : x.map (fun s => (f s, g s)) = some (a, b)) (q : x.map h = some c) : x.map (fun s => (f s, g s, h s)) = some (a, b, c) := by
  cases x with
  | none => cases p
  | some s =>
    have p2 := Option.some.inj p
    have q2 := Option.some.inj q
    injection p2 with p3 p4
    show some (f s, g s, h s) = _
    rw [p3, p4, q2]
abbrev viewQ : PySem.Program := PySem.W.view R.prog [76]
theorem run_a (w : World) (os : PySem.OsState) : (HandSHeadRun.endF (HandSHeadRun.stepQ (HandSHeadRun.denQ HandSHeadRun.tabQ) R.prog w) 9000 R.prog w os).map (fun s => (HandSHeadRun.looksF R.prog (PySem.W.boot_heap w.params) s.abs, HandSHeadRun.seenQ viewQ loose (PySem.importedModules R.prog.main.body) (fun s => PySem.W.xlAt viewQ [] s && PySem.W.recOk R.toRowW.records s) s.abs)) = some (true, PySem.W.openGood viewQ loose) := by
  kernel_rfl
def kOf (s : PySem.W.SharedT) : PySem.W.Frag := He.frT (HandSHeadRun.getT s) (List.range' 0 12 ++ List.range' 21 25 ++ List.range' 47 21 ++ List.range' 70 11 ++ List.range' 82 11 ++ List.range' 103 11 ++ List.range' 124 11 ++ List.range' 145 11 ++ List.range' 166 11 ++ List.range' 187 11 ++ List.range' 208 11 ++ List.range' 229 64 ++ List.range' 296 39 ++ List.range' 345 23 ++ List.range' 386 11 ++ List.range' 407 11 ++ List.range' 422 21 ++ List.range' 595 11 ++ List.range' 613 218)
theorem map2 {α β δ : Type} {x : Option α} {f : α → β} {h : α → δ} {a : β} {c : δ} (p : x.map f = some a) (q : x.map h = some c) : x.map (fun s => (f s, h s)) = some (a, c) := by
  cases x with
  | none => cases p
  | some s =>
    show some (f s, h s) = _
    rw [Option.some.inj p, Option.some.inj q]
theorem map_obs {α : Type} {x : Option α} {k : α → PySem.W.Frag} (n : Nat) (p : x.map (fun s => fa.all fun f => f.ok (k s)) = some true) (q : x.map (fun s => He.obsD [] (fn.take n) (k s)) = some (He.valD (fn.take n))) (r : x.map (fun s => He.obsD [] (fn.drop n) (k s)) = some (He.valD (fn.drop n))) : x.map (fun s => He.obsD fa fn (k s)) = some (He.valD fn) := by
  cases x with
  | none => cases p
  | some s =>
    have p : (fa.all fun f => f.ok (k s)) = true := Option.some.inj p
    have q : (true && (fn.take n).all (fun d => d.ok (k s)), (fn.take n).map fun d => He.fnW (k s) d.at_) = (true, (fn.take n).map He.DefD.val) := Option.some.inj q
    have r : (true && (fn.drop n).all (fun d => d.ok (k s)), (fn.drop n).map fun d => He.fnW (k s) d.at_) = (true, (fn.drop n).map He.DefD.val) := Option.some.inj r
    rw [Bool.true_and] at q r
    injection q with q1 q2
    injection r with r1 r2
    show some ((fa.all fun f => f.ok (k s)) && fn.all fun d => d.ok (k s), fn.map fun d => He.fnW (k s) d.at_) = some (true, fn.map He.DefD.val)
    have e1 : fn.all (fun d => d.ok (k s)) = true := by
      rw [← List.take_append_drop n fn, List.all_append, q1, r1] <;> rfl
    have e2 : (fn.map fun d => He.fnW (k s) d.at_) = fn.map He.DefD.val := by
      rw [← List.take_append_drop n fn, List.map_append, List.map_append, q2, r2]
    rw [p, e1, e2] <;> rfl
theorem run_b0 (w : World) (os : PySem.OsState) : (HandSHeadRun.endF (HandSHeadRun.stepQ (HandSHeadRun.denQ HandSHeadRun.tabQ) R.prog w) 9000 R.prog w os).map (fun s => fa.all fun f => f.ok (kOf s)) = some true := by
  kernel_rfl
theorem run_b1 (w : World) (os : PySem.OsState) : (HandSHeadRun.endF (HandSHeadRun.stepQ (HandSHeadRun.denQ HandSHeadRun.tabQ) R.prog w) 9000 R.prog w os).map (fun s => He.obsD [] (fn.take 27) (kOf s)) = some (He.valD (fn.take 27)) := by
  kernel_rfl
theorem run_b2 (w : World) (os : PySem.OsState) : (HandSHeadRun.endF (HandSHeadRun.stepQ (HandSHeadRun.denQ HandSHeadRun.tabQ) R.prog w) 9000 R.prog w os).map (fun s => He.obsD [] (fn.drop 27) (kOf s)) = some (He.valD (fn.drop 27)) := by
  kernel_rfl
theorem run_b (w : World) (os : PySem.OsState) : (HandSHeadRun.endF (HandSHeadRun.stepQ (HandSHeadRun.denQ HandSHeadRun.tabQ) R.prog w) 9000 R.prog w os).map (fun s => He.obsD fa fn (kOf s)) = some (He.valD fn) := map_obs 27 (run_b0 w os) (run_b1 w os) (run_b2 w os)
theorem map_and {α : Type} {x : Option α} {l t : α → Bool} (p : x.map l = some true) (r : x.map t = some true) : x.map (fun s => l s && t s) = some true := by
  cases x with
  | none => cases p
  | some s =>
    show some (l s && t s) = _
    rw [Option.some.inj p, Option.some.inj r] <;> rfl
theorem map_cut {α : Type} {x : Option α} {l : α → List Bool} (n : Nat) (p : x.map (fun s => ((l s).take n).all id) = some true) (q : x.map (fun s => ((l s).drop n).all id) = some true) : x.map (fun s => (l s).all id) = some true := by
  cases x with
  | none => cases p
  | some s =>
    have p : ((l s).take n).all id = true := Option.some.inj p
    have q : ((l s).drop n).all id = true := Option.some.inj q
    show some ((l s).all id) = _
    rw [← List.take_append_drop n (l s), List.all_append, p, q] <;> rfl
theorem run_c2 (w : World) (os : PySem.OsState) : (HandSHeadRun.endF (HandSHeadRun.stepQ (HandSHeadRun.denQ HandSHeadRun.tabQ) R.prog w) 9000 R.prog w os).map (fun s => (exs (kOf s)).all id) = some true := by
  kernel_rfl
def tab1 (g : Addr → Option Obj) (K : PySem.W.Frag) (p : (Addr × Addr) × Str) : Bool := codeHdB K p.1.1 p.1.2 && ((K.lookup p.1.2).isNone && (match g p.1.2 with
  | some o => He.emptyTab o
  | none => false))
def tabs (s : PySem.W.SharedT) : List Bool := (csT (kOf s)).map (tab1 (HandSHeadRun.getT s) (kOf s))
theorem tabs_is (s : PySem.W.SharedT) : (tabs s).all id = tabsB (HandSHeadRun.getT s) (kOf s) := by
  unfold tabs tabsB
  rw [List.all_map]
  rfl
theorem run_c3a (w : World) (os : PySem.OsState) : (HandSHeadRun.endF (HandSHeadRun.stepQ (HandSHeadRun.denQ HandSHeadRun.tabQ) R.prog w) 9000 R.prog w os).map (fun s => ((tabs s).take 45).all id) = some true := by
  kernel_rfl
theorem run_c3b (w : World) (os : PySem.OsState) : (HandSHeadRun.endF (HandSHeadRun.stepQ (HandSHeadRun.denQ HandSHeadRun.tabQ) R.prog w) 9000 R.prog w os).map (fun s => (((tabs s).drop 45).take 45).all id) = some true := by
  kernel_rfl
theorem run_c3c (w : World) (os : PySem.OsState) : (HandSHeadRun.endF (HandSHeadRun.stepQ (HandSHeadRun.denQ HandSHeadRun.tabQ) R.prog w) 9000 R.prog w os).map (fun s => (((tabs s).drop 45).drop 45).all id) = some true := by
  kernel_rfl
theorem run_c3 (w : World) (os : PySem.OsState) : (HandSHeadRun.endF (HandSHeadRun.stepQ (HandSHeadRun.denQ HandSHeadRun.tabQ) R.prog w) 9000 R.prog w os).map (fun s => tabsB (HandSHeadRun.getT s) (kOf s)) = some true := by
  have h := map_cut (l := tabs) 45 (run_c3a w os) (map_cut (l := fun s => (tabs s).drop 45) 45 (run_c3b w os) (run_c3c w os))
  rwa [show (fun s => (tabs s).all id) = fun s => tabsB (HandSHeadRun.getT s) (kOf s) from funext tabs_is] at h
theorem run_c (w : World) (os : PySem.OsState) : (HandSHeadRun.endF (HandSHeadRun.stepQ (HandSHeadRun.denQ HandSHeadRun.tabQ) R.prog w) 9000 R.prog w os).map (fun s => ex (kOf s) && tabsB (HandSHeadRun.getT s) (kOf s)) = some true := map_and (run_c2 w os) (run_c3 w os)
theorem run_d (w : World) (os : PySem.OsState) : (HandSHeadRun.endF (HandSHeadRun.stepQ (HandSHeadRun.denQ HandSHeadRun.tabQ) R.prog w) 9000 R.prog w os).map (fun s => es.map (fun d => fnE (kOf s) (d.f (kOf s))) ++ prs.map fun d => fnE (kOf s) (d.g (kOf s))) = some (es.map ExD.val ++ prs.map PrD.val) := by
  kernel_rfl
theorem ob_is : ob = fun s => (He.obsD fa fn (kOf s), (ex (kOf s) && tabsB (HandSHeadRun.getT s) (kOf s), es.map (fun d => fnE (kOf s) (d.f (kOf s))) ++ prs.map fun d => fnE (kOf s) (d.g (kOf s)))) := rfl
theorem run_bc (w : World) (os : PySem.OsState) : (HandSHeadRun.endF (HandSHeadRun.stepQ (HandSHeadRun.denQ HandSHeadRun.tabQ) R.prog w) 9000 R.prog w os).map ob = some (hk.val w) := by
  rw [ob_is]
  exact map2 (run_b w os) (map2 (run_c w os) (run_d w os))
theorem run (w : World) : HandSHeadRun.RunEq R (PySem.W.view R.prog [76]) hk ob 9000 loose w := fun os => map3 (run_a w os) (run_bc w os)
structure Tx (K : PySem.W.Frag) (mg : Str → Option Value) : Prop where
  n_int : mg "int" = none
  n_isinstance : mg "isinstance" = none
  n_bool : mg "bool" = none
  g_is_integer : mg "is_integer" = some (.ref (He.ga K "is_integer"))
  g_is_between : mg "is_between" = some (.ref (He.ga K "is_between"))
  i_MOST_MODULUS_ : ∃ t, mg "MOST_MODULUS" = some (.int 1000000000000000000000000000000 t)
  n_list : mg "list" = none
  n_len : mg "len" = none
  n_abs : mg "abs" = none
  g__law_draw : mg "_law_draw" = some (.ref (He.ga K "_law_draw"))
  n_range : mg "range" = none
  g_times_in : mg "times_in" = some (.ref (He.ga K "times_in"))
  g_PRIMES : mg "PRIMES" = some (.ref (He.ga K "PRIMES"))
  g_small_in : mg "small_in" = some (.ref (He.ga K "small_in"))
  g_power_of : mg "power_of" = some (.ref (He.ga K "power_of"))
  g_combined : mg "combined" = some (.ref (He.ga K "combined"))
  n_tuple : mg "tuple" = none
  n_all : mg "all" = none
  i_MOST_DIGITS_ : ∃ t, mg "MOST_DIGITS" = some (.int 40 t)
  n_str : mg "str" = none
  cl_Words : Cls K (He.ga K "Words")
  g_Words : mg "Words" = some (.ref (He.ga K "Words"))
  na_Words_words : NoAttr K (He.ga K "Words") "words"
  na_Words_line : NoAttr K (He.ga K "Words") "line"
  na_Words_read_so_far : NoAttr K (He.ga K "Words") "read_so_far"
  me_Words_next_word : Meth K (He.ga K "Words") "next_word" (He.ma K (He.ga K "Words") "next_word")
  me_Words_refuse : Meth K (He.ga K "Words") "refuse" (He.ma K (He.ga K "Words") "refuse")
  g_is_written : mg "is_written" = some (.ref (He.ga K "is_written"))
  g_fits_modulus : mg "fits_modulus" = some (.ref (He.ga K "fits_modulus"))
  g_trimmed : mg "trimmed" = some (.ref (He.ga K "trimmed"))
  i_MOST_COEFS_ : ∃ t, mg "MOST_COEFS" = some (.int 13 t)
  cl_Sum : Cls K (He.ga K "Sum")
  g_Sum : mg "Sum" = some (.ref (He.ga K "Sum"))
  na_Sum_modulus : NoAttr K (He.ga K "Sum") "modulus"
  na_Sum_coefs : NoAttr K (He.ga K "Sum") "coefs"
  n_max : mg "max" = none
  me_Words_take_number : Meth K (He.ga K "Words") "take_number" (He.ma K (He.ga K "Words") "take_number")
  me_Words_take_end : Meth K (He.ga K "Words") "take_end" (He.ma K (He.ga K "Words") "take_end")
  g_coefs_read : mg "coefs_read" = some (.ref (He.ga K "coefs_read"))
  mk_Words : Mk K (He.ga K "Words") (He.ma K (He.ga K "Words") "__init__")
  me_Words_take_word : Meth K (He.ga K "Words") "take_word" (He.ma K (He.ga K "Words") "take_word")
  mk_Sum : Mk K (He.ga K "Sum") (He.ma K (He.ga K "Sum") "__init__")
  g_binomial : mg "binomial" = some (.ref (He.ga K "binomial"))
  n_sum : mg "sum" = none
  cl_Period : Cls K (He.ga K "Period")
  g_Period : mg "Period" = some (.ref (He.ga K "Period"))
  g_left_in : mg "left_in" = some (.ref (He.ga K "left_in"))
  g_keeps : mg "keeps" = some (.ref (He.ga K "keeps"))
  g_small_power : mg "small_power" = some (.ref (He.ga K "small_power"))
  g_leaving_row : mg "leaving_row" = some (.ref (He.ga K "leaving_row"))
  na_Period_multipliers : NoAttr K (He.ga K "Period") "multipliers"
  na_Period_great : NoAttr K (He.ga K "Period") "great"
  na_Period_smalls : NoAttr K (He.ga K "Period") "smalls"
  na_Period_length : NoAttr K (He.ga K "Period") "length"
  g_small_shown : mg "small_shown" = some (.ref (He.ga K "small_shown"))
  g_need_sum : mg "need_sum" = some (.ref (He.ga K "need_sum"))
  g_great_in : mg "great_in" = some (.ref (He.ga K "great_in"))
  g_shared_in : mg "shared_in" = some (.ref (He.ga K "shared_in"))
  mk_Period : Mk K (He.ga K "Period") (He.ma K (He.ga K "Period") "__init__")
  n_zip : mg "zip" = none
  n_any : mg "any" = none
  g_most_power : mg "most_power" = some (.ref (He.ga K "most_power"))
  g_shows_small : mg "shows_small" = some (.ref (He.ga K "shows_small"))
  g_are_multipliers : mg "are_multipliers" = some (.ref (He.ga K "are_multipliers"))
  g_divisor_shown : mg "divisor_shown" = some (.ref (He.ga K "divisor_shown"))
  g__law_cut : mg "_law_cut" = some (.ref (He.ga K "_law_cut"))
  g__law_choose : mg "_law_choose" = some (.ref (He.ga K "_law_choose"))
  g__law_pick : mg "_law_pick" = some (.ref (He.ga K "_law_pick"))
  g__law_left : mg "_law_left" = some (.ref (He.ga K "_law_left"))
  g__law_is_int : mg "_law_is_int" = some (.ref (He.ga K "_law_is_int"))
  g__law_leaves : mg "_law_leaves" = some (.ref (He.ga K "_law_leaves"))
  g__law_power : mg "_law_power" = some (.ref (He.ga K "_law_power"))
  n_repr : mg "repr" = none
  g__law_triple_right : mg "_law_triple_right" = some (.ref (He.ga K "_law_triple_right"))
  g__law_common : mg "_law_common" = some (.ref (He.ga K "_law_common"))
  g__law_parted : mg "_law_parted" = some (.ref (He.ga K "_law_parted"))
  g__law_bent_triple : mg "_law_bent_triple" = some (.ref (He.ga K "_law_bent_triple"))
  g__law_made : mg "_law_made" = some (.ref (He.ga K "_law_made"))
  g__law_due : mg "_law_due" = some (.ref (He.ga K "_law_due"))
  g_shows_period : mg "shows_period" = some (.ref (He.ga K "shows_period"))
  g_least_period : mg "least_period" = some (.ref (He.ga K "least_period"))
  g__law_bent : mg "_law_bent" = some (.ref (He.ga K "_law_bent"))
  g__law_drawn : mg "_law_drawn" = some (.ref (He.ga K "_law_drawn"))
  g__law_right : mg "_law_right" = some (.ref (He.ga K "_law_right"))
  g__law_pen : mg "_law_pen" = some (.ref (He.ga K "_law_pen"))
  g_law : mg "law" = some (.ref (He.ga K "law"))
  ct_PRIMES : TupC K (He.ga K "PRIMES") [2, 3, 5, 7, 11]
  it_Sum : _root_.G.InsTy K (He.ga K "Sum")
  kit_Sum_Sum : PySem.W.kitOne K (.ref (He.ga K "Sum")) (.ref (He.ga K "Sum")) = some true
  kit_Sum_int : PySem.W.kitOne K (.ref (He.ga K "Sum")) (.type "int") = some false
  kit_Sum_bool : PySem.W.kitOne K (.ref (He.ga K "Sum")) (.type "bool") = some false
  sysk : SysK K
  it_Period : _root_.G.InsTy K (He.ga K "Period")
  kit_Period_Period : PySem.W.kitOne K (.ref (He.ga K "Period")) (.ref (He.ga K "Period")) = some true
  kn_Period : KitN K (He.ga K "Period")
  pk_Sum_degree : PrD.oks K pr_Sum_degree = true
  pp_Sum_degree : PropOf K (He.ga K "Sum") "degree" (pr_Sum_degree.p K) (pr_Sum_degree.g K)
  kit_Sum_Period : PySem.W.kitOne K (.ref (He.ga K "Sum")) (.ref (He.ga K "Period")) = some false
  pk_Sum_read : PrD.oks K pr_Sum_read = true
  sm_Sum_read : SMet K (He.ga K "Sum") "read" (pr_Sum_read.g K)
  d_is_integer : ∃ fd, FunD K "is_integer" "is_integer" (defArgs (top 4)) (defBody (top 4)) (defScope (top 4)) [] [] (He.fAd K ("is_integer", none)) fd
  d_is_between : ∃ fd, FunD K "is_between" "is_between" (defArgs (top 5)) (defBody (top 5)) (defScope (top 5)) [] [] (He.fAd K ("is_between", none)) fd
  d_fits_modulus : ∃ fd, FunD K "fits_modulus" "fits_modulus" (defArgs (top 6)) (defBody (top 6)) (defScope (top 6)) [] [] (He.fAd K ("fits_modulus", none)) fd
  d_law_pen : ∃ fd, FunD K "_law_pen" "_law_pen" (defArgs (top 57)) (defBody (top 57)) (defScope (top 57)) [] [] (He.fAd K ("_law_pen", none)) fd
  d_law_draw : ∃ fd, FunD K "_law_draw" "_law_draw" (defArgs (top 58)) (defBody (top 58)) (defScope (top 58)) [] [] (He.fAd K ("_law_draw", none)) fd
  d_law_pick : ∃ fd, FunD K "_law_pick" "_law_pick" (defArgs (top 59)) (defBody (top 59)) (defScope (top 59)) [] [] (He.fAd K ("_law_pick", none)) fd
  d_binomial : ∃ fd, FunD K "binomial" "binomial" (defArgs (top 22)) (defBody (top 22)) (defScope (top 22)) [] [] (He.fAd K ("binomial", none)) fd
  d_power_of : ∃ fd, FunD K "power_of" "power_of" (defArgs (top 23)) (defBody (top 23)) (defScope (top 23)) [] [] (He.fAd K ("power_of", none)) fd
  d_times_in : ∃ fd, FunD K "times_in" "times_in" (defArgs (top 24)) (defBody (top 24)) (defScope (top 24)) [] [] (He.fAd K ("times_in", none)) fd
  d_small_in : ∃ fd, FunD K "small_in" "small_in" (defArgs (top 25)) (defBody (top 25)) (defScope (top 25)) [] [] (He.fAd K ("small_in", none)) fd
  d_great_in : ∃ fd, FunD K "great_in" "great_in" (defArgs (top 26)) (defBody (top 26)) (defScope (top 26)) [] [] (He.fAd K ("great_in", none)) fd
  d_combined : ∃ fd, FunD K "combined" "combined" (defArgs (top 27)) (defBody (top 27)) (defScope (top 27)) [] [] (He.fAd K ("combined", none)) fd
  d_shared_in : ∃ fd, FunD K "shared_in" "shared_in" (defArgs (top 28)) (defBody (top 28)) (defScope (top 28)) [] [] (He.fAd K ("shared_in", none)) fd
  d_are_multipliers : ∃ fd, FunD K "are_multipliers" "are_multipliers" (defArgs (top 29)) (defBody (top 29)) (defScope (top 29)) [] [] (He.fAd K ("are_multipliers", none)) fd
  d_is_written : ∃ fd, FunD K "is_written" "is_written" (defArgs (top 8)) (defBody (top 8)) (defScope (top 8)) [] [] (He.fAd K ("is_written", none)) fd
  d_WordsU_initU : ∃ fd, FunD K "__init__" "Words.__init__" (defArgs (inClass (top 31) 0)) (defBody (inClass (top 31) 0)) (defScope (inClass (top 31) 0)) [] [] (He.fAd K ("Words", some "__init__")) fd
  d_Words_next_word : ∃ fd, FunD K "next_word" "Words.next_word" (defArgs (inClass (top 31) 1)) (defBody (inClass (top 31) 1)) (defScope (inClass (top 31) 1)) [] [] (He.fAd K ("Words", some "next_word")) fd
  d_Words_refuse : ∃ fd, FunD K "refuse" "Words.refuse" (defArgs (inClass (top 31) 2)) (defBody (inClass (top 31) 2)) (defScope (inClass (top 31) 2)) [] [] (He.fAd K ("Words", some "refuse")) fd
  d_Words_take_word : ∃ fd, FunD K "take_word" "Words.take_word" (defArgs (inClass (top 31) 3)) (defBody (inClass (top 31) 3)) (defScope (inClass (top 31) 3)) [] [] (He.fAd K ("Words", some "take_word")) fd
  d_Words_take_number : ∃ fd, FunD K "take_number" "Words.take_number" (defArgs (inClass (top 31) 4)) (defBody (inClass (top 31) 4)) (defScope (inClass (top 31) 4)) [] [] (He.fAd K ("Words", some "take_number")) fd
  d_Words_take_end : ∃ fd, FunD K "take_end" "Words.take_end" (defArgs (inClass (top 31) 7)) (defBody (inClass (top 31) 7)) (defScope (inClass (top 31) 7)) [] [] (He.fAd K ("Words", some "take_end")) fd
  d_trimmed : ∃ fd, FunD K "trimmed" "trimmed" (defArgs (top 34)) (defBody (top 34)) (defScope (top 34)) [] [] (He.fAd K ("trimmed", none)) fd
  d_SumU_initU : ∃ fd, FunD K "__init__" "Sum.__init__" (defArgs (inClass (top 41) 1)) (defBody (inClass (top 41) 1)) (defScope (inClass (top 41) 1)) [] [] (He.fAd K ("Sum", some "__init__")) fd
  d_Sum_degree : ∃ fd, FunD K "degree" "Sum.degree" (defArgs (inClass (top 41) 4)) (defBody (inClass (top 41) 4)) (defScope (inClass (top 41) 4)) [] [] (pr_Sum_degree.g K) fd
  d_coefs_read : ∃ fd, FunD K "coefs_read" "coefs_read" (defArgs (top 39)) (defBody (top 39)) (defScope (top 39)) [] [] (He.fAd K ("coefs_read", none)) fd
  d_Sum_read : ∃ fd, FunD K "read" "Sum.read" (defArgs (inClass (top 41) 3)) (defBody (inClass (top 41) 3)) (defScope (inClass (top 41) 3)) [] [] (pr_Sum_read.g K) fd
  d_need_sum : ∃ fd, FunD K "need_sum" "need_sum" (defArgs (top 44)) (defBody (top 44)) (defScope (top 44)) [] [] (He.fAd K ("need_sum", none)) fd
  d_left_in : ∃ fd, FunD K "left_in" "left_in" (defArgs (top 45)) (defBody (top 45)) (defScope (top 45)) [] [] (He.fAd K ("left_in", none)) fd
  d_keeps : ∃ fd, FunD K "keeps" "keeps" (defArgs (top 46)) (defBody (top 46)) (defScope (top 46)) [] [] (He.fAd K ("keeps", none)) fd
  d_leaving_row : ∃ fd, FunD K "leaving_row" "leaving_row" (defArgs (top 47)) (defBody (top 47)) (defScope (top 47)) [] [] (He.fAd K ("leaving_row", none)) fd
  d_small_power : ∃ fd, FunD K "small_power" "small_power" (defArgs (top 48)) (defBody (top 48)) (defScope (top 48)) [] [] (He.fAd K ("small_power", none)) fd
  d_small_shown : ∃ fd, FunD K "small_shown" "small_shown" (defArgs (top 49)) (defBody (top 49)) (defScope (top 49)) [] [] (He.fAd K ("small_shown", none)) fd
  d_PeriodU_initU : ∃ fd, FunD K "__init__" "Period.__init__" (defArgs (inClass (top 43) 0)) (defBody (inClass (top 43) 0)) (defScope (inClass (top 43) 0)) [] [] (He.fAd K ("Period", some "__init__")) fd
  d_PeriodU_eqU : ∃ fd, FunD K "__eq__" "Period.__eq__" (defArgs (inClass (top 43) 1)) (defBody (inClass (top 43) 1)) (defScope (inClass (top 43) 1)) [] [] (He.fAd K ("Period", some "__eq__")) fd
  d_least_period : ∃ fd, FunD K "least_period" "least_period" (defArgs (top 50)) (defBody (top 50)) (defScope (top 50)) [] [] (He.fAd K ("least_period", none)) fd
  d_most_power : ∃ fd, FunD K "most_power" "most_power" (defArgs (top 52)) (defBody (top 52)) (defScope (top 52)) [] [] (He.fAd K ("most_power", none)) fd
  d_divisor_shown : ∃ fd, FunD K "divisor_shown" "divisor_shown" (defArgs (top 53)) (defBody (top 53)) (defScope (top 53)) [] [] (He.fAd K ("divisor_shown", none)) fd
  d_shows_small : ∃ fd, FunD K "shows_small" "shows_small" (defArgs (top 54)) (defBody (top 54)) (defScope (top 54)) [] [] (He.fAd K ("shows_small", none)) fd
  d_shows_period : ∃ fd, FunD K "shows_period" "shows_period" (defArgs (top 55)) (defBody (top 55)) (defScope (top 55)) [] [] (He.fAd K ("shows_period", none)) fd
  d_law_choose : ∃ fd, FunD K "_law_choose" "_law_choose" (defArgs (top 60)) (defBody (top 60)) (defScope (top 60)) [] [] (He.fAd K ("_law_choose", none)) fd
  d_law_cut : ∃ fd, FunD K "_law_cut" "_law_cut" (defArgs (top 61)) (defBody (top 61)) (defScope (top 61)) [] [] (He.fAd K ("_law_cut", none)) fd
  d_law_made : ∃ fd, FunD K "_law_made" "_law_made" (defArgs (top 62)) (defBody (top 62)) (defScope (top 62)) [] [] (He.fAd K ("_law_made", none)) fd
  d_law_value : ∃ fd, FunD K "_law_value" "_law_value" (defArgs (top 63)) (defBody (top 63)) (defScope (top 63)) [] [] (He.fAd K ("_law_value", none)) fd
  d_law_drawn : ∃ fd, FunD K "_law_drawn" "_law_drawn" (defArgs (top 65)) (defBody (top 65)) (defScope (top 65)) [] [] (He.fAd K ("_law_drawn", none)) fd
  d_law_left : ∃ fd, FunD K "_law_left" "_law_left" (defArgs (top 64)) (defBody (top 64)) (defScope (top 64)) [] [] (He.fAd K ("_law_left", none)) fd
  d_law_parted : ∃ fd, FunD K "_law_parted" "_law_parted" (defArgs (top 68)) (defBody (top 68)) (defScope (top 68)) [] [] (He.fAd K ("_law_parted", none)) fd
  d_law_common : ∃ fd, FunD K "_law_common" "_law_common" (defArgs (top 66)) (defBody (top 66)) (defScope (top 66)) [] [] (He.fAd K ("_law_common", none)) fd
  d_law_leaves : ∃ fd, FunD K "_law_leaves" "_law_leaves" (defArgs (top 69)) (defBody (top 69)) (defScope (top 69)) [] [] (He.fAd K ("_law_leaves", none)) fd
  d_law_power : ∃ fd, FunD K "_law_power" "_law_power" (defArgs (top 70)) (defBody (top 70)) (defScope (top 70)) [] [] (He.fAd K ("_law_power", none)) fd
  d_law_is_int : ∃ fd, FunD K "_law_is_int" "_law_is_int" (defArgs (top 67)) (defBody (top 67)) (defScope (top 67)) [] [] (He.fAd K ("_law_is_int", none)) fd
  d_law_triple_right : ∃ fd, FunD K "_law_triple_right" "_law_triple_right" (defArgs (top 71)) (defBody (top 71)) (defScope (top 71)) [] [] (He.fAd K ("_law_triple_right", none)) fd
  d_law_due : ∃ fd, FunD K "_law_due" "_law_due" (defArgs (top 72)) (defBody (top 72)) (defScope (top 72)) [] [] (He.fAd K ("_law_due", none)) fd
  d_law_bent_triple : ∃ fd, FunD K "_law_bent_triple" "_law_bent_triple" (defArgs (top 73)) (defBody (top 73)) (defScope (top 73)) [] [] (He.fAd K ("_law_bent_triple", none)) fd
  d_law_bent : ∃ fd, FunD K "_law_bent" "_law_bent" (defArgs (top 74)) (defBody (top 74)) (defScope (top 74)) [] [] (He.fAd K ("_law_bent", none)) fd
  d_law_right : ∃ fd, FunD K "_law_right" "_law_right" (defArgs (top 75)) (defBody (top 75)) (defScope (top 75)) [] [] (He.fAd K ("_law_right", none)) fd
  d_law : ∃ fd, FunD K "law" "law" (defArgs (top 76)) (defBody (top 76)) (defScope (top 76)) [] [] (He.fAd K ("law", none)) fd
theorem tx {K : PySem.W.Frag} {mg : Str → Option Value} {h : Heap} (X : K.In h) (G : h.Ns mainGlobals mg) (c : He.SaysD fa fn K) (e : ex K = true) (ee : es.map (fun d => fnE K (d.f K)) ++ prs.map (fun d => fnE K (d.g K)) = es.map ExD.val ++ prs.map PrD.val) : Tx K mg := by
  have ee2 : ∀ i : Nat, (es.map (fun d => fnE K (d.f K)) ++ prs.map (fun d => fnE K (d.g K)))[i]? = (es.map ExD.val ++ prs.map PrD.val)[i]? := fun i => by rw [ee]
  have e2 : ∀ i b, (exs K)[i]? = some b → b = true := fun i b hb => List.all_eq_true.mp e b (List.mem_of_getElem? hb)
  have T_n_int : mg "int" = none := He.free_ok X G (c.fact 0 (f := .free "int") rfl)
  have T_n_isinstance : mg "isinstance" = none := He.free_ok X G (c.fact 1 (f := .free "isinstance") rfl)
  have T_n_bool : mg "bool" = none := He.free_ok X G (c.fact 2 (f := .free "bool") rfl)
  have T_g_is_integer : mg "is_integer" = some (.ref (He.ga K "is_integer")) := He.glo_ok X G (c.fact 3 (f := .glo "is_integer") rfl)
  have T_g_is_between : mg "is_between" = some (.ref (He.ga K "is_between")) := He.glo_ok X G (c.fact 4 (f := .glo "is_between") rfl)
  have T_i_MOST_MODULUS_ : ∃ t, mg "MOST_MODULUS" = some (.int 1000000000000000000000000000000 t) := He.int_ok X G (c.fact 5 (f := .int "MOST_MODULUS" 1000000000000000000000000000000) rfl)
  have T_n_list : mg "list" = none := He.free_ok X G (c.fact 6 (f := .free "list") rfl)
  have T_n_len : mg "len" = none := He.free_ok X G (c.fact 7 (f := .free "len") rfl)
  have T_n_abs : mg "abs" = none := He.free_ok X G (c.fact 8 (f := .free "abs") rfl)
  have T_g__law_draw : mg "_law_draw" = some (.ref (He.ga K "_law_draw")) := He.glo_ok X G (c.fact 9 (f := .glo "_law_draw") rfl)
  have T_n_range : mg "range" = none := He.free_ok X G (c.fact 10 (f := .free "range") rfl)
  have T_g_times_in : mg "times_in" = some (.ref (He.ga K "times_in")) := He.glo_ok X G (c.fact 11 (f := .glo "times_in") rfl)
  have T_g_PRIMES : mg "PRIMES" = some (.ref (He.ga K "PRIMES")) := He.glo_ok X G (c.fact 12 (f := .glo "PRIMES") rfl)
  have T_g_small_in : mg "small_in" = some (.ref (He.ga K "small_in")) := He.glo_ok X G (c.fact 13 (f := .glo "small_in") rfl)
  have T_g_power_of : mg "power_of" = some (.ref (He.ga K "power_of")) := He.glo_ok X G (c.fact 14 (f := .glo "power_of") rfl)
  have T_g_combined : mg "combined" = some (.ref (He.ga K "combined")) := He.glo_ok X G (c.fact 15 (f := .glo "combined") rfl)
  have T_n_tuple : mg "tuple" = none := He.free_ok X G (c.fact 16 (f := .free "tuple") rfl)
  have T_n_all : mg "all" = none := He.free_ok X G (c.fact 17 (f := .free "all") rfl)
  have T_i_MOST_DIGITS_ : ∃ t, mg "MOST_DIGITS" = some (.int 40 t) := He.int_ok X G (c.fact 18 (f := .int "MOST_DIGITS" 40) rfl)
  have T_n_str : mg "str" = none := He.free_ok X G (c.fact 19 (f := .free "str") rfl)
  have T_cl_Words : Cls K (He.ga K "Words") := He.cls_ok (c.fact 20 (f := .cls "Words") rfl)
  have T_g_Words : mg "Words" = some (.ref (He.ga K "Words")) := He.glo_ok X G (c.fact 21 (f := .glo "Words") rfl)
  have T_na_Words_words : NoAttr K (He.ga K "Words") "words" := He.noat_ok (c.fact 22 (f := .noat "Words" "words") rfl)
  have T_na_Words_line : NoAttr K (He.ga K "Words") "line" := He.noat_ok (c.fact 23 (f := .noat "Words" "line") rfl)
  have T_na_Words_read_so_far : NoAttr K (He.ga K "Words") "read_so_far" := He.noat_ok (c.fact 24 (f := .noat "Words" "read_so_far") rfl)
  have T_me_Words_next_word : Meth K (He.ga K "Words") "next_word" (He.ma K (He.ga K "Words") "next_word") := He.meth_ok (c.fact 25 (f := .meth "Words" "next_word") rfl)
  have T_me_Words_refuse : Meth K (He.ga K "Words") "refuse" (He.ma K (He.ga K "Words") "refuse") := He.meth_ok (c.fact 26 (f := .meth "Words" "refuse") rfl)
  have T_g_is_written : mg "is_written" = some (.ref (He.ga K "is_written")) := He.glo_ok X G (c.fact 27 (f := .glo "is_written") rfl)
  have T_g_fits_modulus : mg "fits_modulus" = some (.ref (He.ga K "fits_modulus")) := He.glo_ok X G (c.fact 28 (f := .glo "fits_modulus") rfl)
  have T_g_trimmed : mg "trimmed" = some (.ref (He.ga K "trimmed")) := He.glo_ok X G (c.fact 29 (f := .glo "trimmed") rfl)
  have T_i_MOST_COEFS_ : ∃ t, mg "MOST_COEFS" = some (.int 13 t) := He.int_ok X G (c.fact 30 (f := .int "MOST_COEFS" 13) rfl)
  have T_cl_Sum : Cls K (He.ga K "Sum") := He.cls_ok (c.fact 31 (f := .cls "Sum") rfl)
  have T_g_Sum : mg "Sum" = some (.ref (He.ga K "Sum")) := He.glo_ok X G (c.fact 32 (f := .glo "Sum") rfl)
  have T_na_Sum_modulus : NoAttr K (He.ga K "Sum") "modulus" := He.noat_ok (c.fact 33 (f := .noat "Sum" "modulus") rfl)
  have T_na_Sum_coefs : NoAttr K (He.ga K "Sum") "coefs" := He.noat_ok (c.fact 34 (f := .noat "Sum" "coefs") rfl)
  have T_n_max : mg "max" = none := He.free_ok X G (c.fact 35 (f := .free "max") rfl)
  have T_me_Words_take_number : Meth K (He.ga K "Words") "take_number" (He.ma K (He.ga K "Words") "take_number") := He.meth_ok (c.fact 36 (f := .meth "Words" "take_number") rfl)
  have T_me_Words_take_end : Meth K (He.ga K "Words") "take_end" (He.ma K (He.ga K "Words") "take_end") := He.meth_ok (c.fact 37 (f := .meth "Words" "take_end") rfl)
  have T_g_coefs_read : mg "coefs_read" = some (.ref (He.ga K "coefs_read")) := He.glo_ok X G (c.fact 38 (f := .glo "coefs_read") rfl)
  have T_mk_Words : Mk K (He.ga K "Words") (He.ma K (He.ga K "Words") "__init__") := He.mkr_ok (c.fact 39 (f := .mkr "Words") rfl)
  have T_me_Words_take_word : Meth K (He.ga K "Words") "take_word" (He.ma K (He.ga K "Words") "take_word") := He.meth_ok (c.fact 40 (f := .meth "Words" "take_word") rfl)
  have T_mk_Sum : Mk K (He.ga K "Sum") (He.ma K (He.ga K "Sum") "__init__") := He.mkr_ok (c.fact 41 (f := .mkr "Sum") rfl)
  have T_g_binomial : mg "binomial" = some (.ref (He.ga K "binomial")) := He.glo_ok X G (c.fact 42 (f := .glo "binomial") rfl)
  have T_n_sum : mg "sum" = none := He.free_ok X G (c.fact 43 (f := .free "sum") rfl)
  have T_cl_Period : Cls K (He.ga K "Period") := He.cls_ok (c.fact 44 (f := .cls "Period") rfl)
  have T_g_Period : mg "Period" = some (.ref (He.ga K "Period")) := He.glo_ok X G (c.fact 45 (f := .glo "Period") rfl)
  have T_g_left_in : mg "left_in" = some (.ref (He.ga K "left_in")) := He.glo_ok X G (c.fact 46 (f := .glo "left_in") rfl)
  have T_g_keeps : mg "keeps" = some (.ref (He.ga K "keeps")) := He.glo_ok X G (c.fact 47 (f := .glo "keeps") rfl)
  have T_g_small_power : mg "small_power" = some (.ref (He.ga K "small_power")) := He.glo_ok X G (c.fact 48 (f := .glo "small_power") rfl)
  have T_g_leaving_row : mg "leaving_row" = some (.ref (He.ga K "leaving_row")) := He.glo_ok X G (c.fact 49 (f := .glo "leaving_row") rfl)
  have T_na_Period_multipliers : NoAttr K (He.ga K "Period") "multipliers" := He.noat_ok (c.fact 50 (f := .noat "Period" "multipliers") rfl)
  have T_na_Period_great : NoAttr K (He.ga K "Period") "great" := He.noat_ok (c.fact 51 (f := .noat "Period" "great") rfl)
  have T_na_Period_smalls : NoAttr K (He.ga K "Period") "smalls" := He.noat_ok (c.fact 52 (f := .noat "Period" "smalls") rfl)
  have T_na_Period_length : NoAttr K (He.ga K "Period") "length" := He.noat_ok (c.fact 53 (f := .noat "Period" "length") rfl)
  have T_g_small_shown : mg "small_shown" = some (.ref (He.ga K "small_shown")) := He.glo_ok X G (c.fact 54 (f := .glo "small_shown") rfl)
  have T_g_need_sum : mg "need_sum" = some (.ref (He.ga K "need_sum")) := He.glo_ok X G (c.fact 55 (f := .glo "need_sum") rfl)
  have T_g_great_in : mg "great_in" = some (.ref (He.ga K "great_in")) := He.glo_ok X G (c.fact 56 (f := .glo "great_in") rfl)
  have T_g_shared_in : mg "shared_in" = some (.ref (He.ga K "shared_in")) := He.glo_ok X G (c.fact 57 (f := .glo "shared_in") rfl)
  have T_mk_Period : Mk K (He.ga K "Period") (He.ma K (He.ga K "Period") "__init__") := He.mkr_ok (c.fact 58 (f := .mkr "Period") rfl)
  have T_n_zip : mg "zip" = none := He.free_ok X G (c.fact 59 (f := .free "zip") rfl)
  have T_n_any : mg "any" = none := He.free_ok X G (c.fact 60 (f := .free "any") rfl)
  have T_g_most_power : mg "most_power" = some (.ref (He.ga K "most_power")) := He.glo_ok X G (c.fact 61 (f := .glo "most_power") rfl)
  have T_g_shows_small : mg "shows_small" = some (.ref (He.ga K "shows_small")) := He.glo_ok X G (c.fact 62 (f := .glo "shows_small") rfl)
  have T_g_are_multipliers : mg "are_multipliers" = some (.ref (He.ga K "are_multipliers")) := He.glo_ok X G (c.fact 63 (f := .glo "are_multipliers") rfl)
  have T_g_divisor_shown : mg "divisor_shown" = some (.ref (He.ga K "divisor_shown")) := He.glo_ok X G (c.fact 64 (f := .glo "divisor_shown") rfl)
  have T_g__law_cut : mg "_law_cut" = some (.ref (He.ga K "_law_cut")) := He.glo_ok X G (c.fact 65 (f := .glo "_law_cut") rfl)
  have T_g__law_choose : mg "_law_choose" = some (.ref (He.ga K "_law_choose")) := He.glo_ok X G (c.fact 66 (f := .glo "_law_choose") rfl)
  have T_g__law_pick : mg "_law_pick" = some (.ref (He.ga K "_law_pick")) := He.glo_ok X G (c.fact 67 (f := .glo "_law_pick") rfl)
  have T_g__law_left : mg "_law_left" = some (.ref (He.ga K "_law_left")) := He.glo_ok X G (c.fact 68 (f := .glo "_law_left") rfl)
  have T_g__law_is_int : mg "_law_is_int" = some (.ref (He.ga K "_law_is_int")) := He.glo_ok X G (c.fact 69 (f := .glo "_law_is_int") rfl)
  have T_g__law_leaves : mg "_law_leaves" = some (.ref (He.ga K "_law_leaves")) := He.glo_ok X G (c.fact 70 (f := .glo "_law_leaves") rfl)
  have T_g__law_power : mg "_law_power" = some (.ref (He.ga K "_law_power")) := He.glo_ok X G (c.fact 71 (f := .glo "_law_power") rfl)
  have T_n_repr : mg "repr" = none := He.free_ok X G (c.fact 72 (f := .free "repr") rfl)
  have T_g__law_triple_right : mg "_law_triple_right" = some (.ref (He.ga K "_law_triple_right")) := He.glo_ok X G (c.fact 73 (f := .glo "_law_triple_right") rfl)
  have T_g__law_common : mg "_law_common" = some (.ref (He.ga K "_law_common")) := He.glo_ok X G (c.fact 74 (f := .glo "_law_common") rfl)
  have T_g__law_parted : mg "_law_parted" = some (.ref (He.ga K "_law_parted")) := He.glo_ok X G (c.fact 75 (f := .glo "_law_parted") rfl)
  have T_g__law_bent_triple : mg "_law_bent_triple" = some (.ref (He.ga K "_law_bent_triple")) := He.glo_ok X G (c.fact 76 (f := .glo "_law_bent_triple") rfl)
  have T_g__law_made : mg "_law_made" = some (.ref (He.ga K "_law_made")) := He.glo_ok X G (c.fact 77 (f := .glo "_law_made") rfl)
  have T_g__law_due : mg "_law_due" = some (.ref (He.ga K "_law_due")) := He.glo_ok X G (c.fact 78 (f := .glo "_law_due") rfl)
  have T_g_shows_period : mg "shows_period" = some (.ref (He.ga K "shows_period")) := He.glo_ok X G (c.fact 79 (f := .glo "shows_period") rfl)
  have T_g_least_period : mg "least_period" = some (.ref (He.ga K "least_period")) := He.glo_ok X G (c.fact 80 (f := .glo "least_period") rfl)
  have T_g__law_bent : mg "_law_bent" = some (.ref (He.ga K "_law_bent")) := He.glo_ok X G (c.fact 81 (f := .glo "_law_bent") rfl)
  have T_g__law_drawn : mg "_law_drawn" = some (.ref (He.ga K "_law_drawn")) := He.glo_ok X G (c.fact 82 (f := .glo "_law_drawn") rfl)
  have T_g__law_right : mg "_law_right" = some (.ref (He.ga K "_law_right")) := He.glo_ok X G (c.fact 83 (f := .glo "_law_right") rfl)
  have T_g__law_pen : mg "_law_pen" = some (.ref (He.ga K "_law_pen")) := He.glo_ok X G (c.fact 84 (f := .glo "_law_pen") rfl)
  have T_g_law : mg "law" = some (.ref (He.ga K "law")) := He.glo_ok X G (c.fact 85 (f := .glo "law") rfl)
  have T_ct_PRIMES : TupC K (He.ga K "PRIMES") [2, 3, 5, 7, 11] := tupB_ok (e2 0 _ rfl)
  have T_it_Sum : _root_.G.InsTy K (He.ga K "Sum") := insB_ok T_cl_Sum (e2 1 _ rfl)
  have T_kit_Sum_Sum : PySem.W.kitOne K (.ref (He.ga K "Sum")) (.ref (He.ga K "Sum")) = some true := of_decide_eq_true (e2 2 _ rfl)
  have T_kit_Sum_int : PySem.W.kitOne K (.ref (He.ga K "Sum")) (.type "int") = some false := of_decide_eq_true (e2 3 _ rfl)
  have T_kit_Sum_bool : PySem.W.kitOne K (.ref (He.ga K "Sum")) (.type "bool") = some false := of_decide_eq_true (e2 4 _ rfl)
  have T_sysk : SysK K := sysk_of (e2 5 _ rfl)
  have T_it_Period : _root_.G.InsTy K (He.ga K "Period") := insB_ok T_cl_Period (e2 6 _ rfl)
  have T_kit_Period_Period : PySem.W.kitOne K (.ref (He.ga K "Period")) (.ref (He.ga K "Period")) = some true := of_decide_eq_true (e2 7 _ rfl)
  have T_kn_Period : KitN K (He.ga K "Period") := kitNB_ok (e2 8 _ rfl)
  have T_pk_Sum_degree : PrD.oks K pr_Sum_degree = true := id (e2 9 _ rfl)
  have T_pp_Sum_degree : PropOf K (He.ga K "Sum") "degree" (pr_Sum_degree.p K) (pr_Sum_degree.g K) := prop_of T_pk_Sum_degree rfl (e2 10 _ rfl)
  have T_kit_Sum_Period : PySem.W.kitOne K (.ref (He.ga K "Sum")) (.ref (He.ga K "Period")) = some false := of_decide_eq_true (e2 11 _ rfl)
  have T_pk_Sum_read : PrD.oks K pr_Sum_read = true := id (e2 12 _ rfl)
  have T_sm_Sum_read : SMet K (He.ga K "Sum") "read" (pr_Sum_read.g K) := smet_of T_pk_Sum_read rfl (e2 13 _ rfl)
  exact ⟨T_n_int, T_n_isinstance, T_n_bool, T_g_is_integer, T_g_is_between, T_i_MOST_MODULUS_, T_n_list, T_n_len, T_n_abs, T_g__law_draw, T_n_range, T_g_times_in, T_g_PRIMES, T_g_small_in, T_g_power_of, T_g_combined, T_n_tuple, T_n_all, T_i_MOST_DIGITS_, T_n_str, T_cl_Words, T_g_Words, T_na_Words_words, T_na_Words_line, T_na_Words_read_so_far, T_me_Words_next_word, T_me_Words_refuse, T_g_is_written, T_g_fits_modulus, T_g_trimmed, T_i_MOST_COEFS_, T_cl_Sum, T_g_Sum, T_na_Sum_modulus, T_na_Sum_coefs, T_n_max, T_me_Words_take_number, T_me_Words_take_end, T_g_coefs_read, T_mk_Words, T_me_Words_take_word, T_mk_Sum, T_g_binomial, T_n_sum, T_cl_Period, T_g_Period, T_g_left_in, T_g_keeps, T_g_small_power, T_g_leaving_row, T_na_Period_multipliers, T_na_Period_great, T_na_Period_smalls, T_na_Period_length, T_g_small_shown, T_g_need_sum, T_g_great_in, T_g_shared_in, T_mk_Period, T_n_zip, T_n_any, T_g_most_power, T_g_shows_small, T_g_are_multipliers, T_g_divisor_shown, T_g__law_cut, T_g__law_choose, T_g__law_pick, T_g__law_left, T_g__law_is_int, T_g__law_leaves, T_g__law_power, T_n_repr, T_g__law_triple_right, T_g__law_common, T_g__law_parted, T_g__law_bent_triple, T_g__law_made, T_g__law_due, T_g_shows_period, T_g_least_period, T_g__law_bent, T_g__law_drawn, T_g__law_right, T_g__law_pen, T_g_law, T_ct_PRIMES, T_it_Sum, T_kit_Sum_Sum, T_kit_Sum_int, T_kit_Sum_bool, T_sysk, T_it_Period, T_kit_Period_Period, T_kn_Period, T_pk_Sum_degree, T_pp_Sum_degree, T_kit_Sum_Period, T_pk_Sum_read, T_sm_Sum_read, (c.def_ 0 (d := d_is_integer) rfl), (c.def_ 1 (d := d_is_between) rfl), (c.def_ 2 (d := d_fits_modulus) rfl), (c.def_ 3 (d := d_law_pen) rfl), (c.def_ 4 (d := d_law_draw) rfl), (c.def_ 5 (d := d_law_pick) rfl), (c.def_ 6 (d := d_binomial) rfl), (c.def_ 7 (d := d_power_of) rfl), (c.def_ 8 (d := d_times_in) rfl), (c.def_ 9 (d := d_small_in) rfl), (c.def_ 10 (d := d_great_in) rfl), (c.def_ 11 (d := d_combined) rfl), (c.def_ 12 (d := d_shared_in) rfl), (c.def_ 13 (d := d_are_multipliers) rfl), (c.def_ 14 (d := d_is_written) rfl), (c.def_ 15 (d := d_WordsU_initU) rfl), (c.def_ 16 (d := d_Words_next_word) rfl), (c.def_ 17 (d := d_Words_refuse) rfl), (c.def_ 18 (d := d_Words_take_word) rfl), (c.def_ 19 (d := d_Words_take_number) rfl), (c.def_ 20 (d := d_Words_take_end) rfl), (c.def_ 21 (d := d_trimmed) rfl), (c.def_ 22 (d := d_SumU_initU) rfl), (PrD.funD (d := pr_Sum_degree) T_pk_Sum_degree (Option.some.inj (ee2 0))), (c.def_ 23 (d := d_coefs_read) rfl), (PrD.funD (d := pr_Sum_read) T_pk_Sum_read (Option.some.inj (ee2 1))), (c.def_ 24 (d := d_need_sum) rfl), (c.def_ 25 (d := d_left_in) rfl), (c.def_ 26 (d := d_keeps) rfl), (c.def_ 27 (d := d_leaving_row) rfl), (c.def_ 28 (d := d_small_power) rfl), (c.def_ 29 (d := d_small_shown) rfl), (c.def_ 30 (d := d_PeriodU_initU) rfl), (c.def_ 31 (d := d_PeriodU_eqU) rfl), (c.def_ 32 (d := d_least_period) rfl), (c.def_ 33 (d := d_most_power) rfl), (c.def_ 34 (d := d_divisor_shown) rfl), (c.def_ 35 (d := d_shows_small) rfl), (c.def_ 36 (d := d_shows_period) rfl), (c.def_ 37 (d := d_law_choose) rfl), (c.def_ 38 (d := d_law_cut) rfl), (c.def_ 39 (d := d_law_made) rfl), (c.def_ 40 (d := d_law_value) rfl), (c.def_ 41 (d := d_law_drawn) rfl), (c.def_ 42 (d := d_law_left) rfl), (c.def_ 43 (d := d_law_parted) rfl), (c.def_ 44 (d := d_law_common) rfl), (c.def_ 45 (d := d_law_leaves) rfl), (c.def_ 46 (d := d_law_power) rfl), (c.def_ 47 (d := d_law_is_int) rfl), (c.def_ 48 (d := d_law_triple_right) rfl), (c.def_ 49 (d := d_law_due) rfl), (c.def_ 50 (d := d_law_bent_triple) rfl), (c.def_ 51 (d := d_law_bent) rfl), (c.def_ 52 (d := d_law_right) rfl), (c.def_ 53 (d := d_law) rfl)⟩
end My

set_option Elab.async false
set_option linter.all false
set_option maxRecDepth 100000
set_option maxHeartbeats 4000000
namespace My
open G (InR)
structure SumOk (m : Int) (cs : List Int) : Prop where
  two : 2 ≤ m
  most : m ≤ 1000000000000000000000000000000
  inr : InR m cs
  len : cs.length ≤ 13
  fin : cut cs = cs
theorem SumOk.sml {m : Int} {cs : List Int} (h : SumOk m cs) : ∀ x ∈ cs, x.natAbs < 2 ^ 100 := fun x hx => by
  have h1 := h.inr x hx
  have h2 := h.most
  omega
theorem SumOk.of {m : Int} {xs : List Int} (h1 : 2 ≤ m) (h2 : m ≤ 1000000000000000000000000000000) (h3 : xs.length ≤ 13) : SumOk m (tr m xs) :=
  ⟨h1, h2, tr_in (by omega) xs, Nat.le_trans (tr_len m xs) h3, tr_cut m xs⟩
theorem SumOk.same {m : Int} {cs : List Int} (h : SumOk m cs) : tr m cs = cs := by
  unfold tr
  have e : cs.map (· % m) = cs := by
    have : cs.map (· % m) = cs.map id := List.map_congr_left fun x hx => Int.emod_eq_of_lt (h.inr x hx).1 (h.inr x hx).2
    rw [this, List.map_id]
  rw [e, h.fin]
end My

set_option Elab.async false
set_option linter.all false
set_option maxRecDepth 100000
set_option maxHeartbeats 4000000
namespace My
open G (InR)
/-- one row, and a multiple of another one -/
def ad (s : Int) : List Int → List Int → List Int
  | [], ys => ys.map (s * ·)
  | x :: xs, [] => x :: xs
  | x :: xs, y :: ys => (x + s * y) :: ad s xs ys
theorem ad_at (s : Int) : ∀ (xs ys : List Int) (i : Nat), (ad s xs ys).getD i 0 = xs.getD i 0 + s * ys.getD i 0
  | [], ys, i => by
    show (ys.map (s * ·)).getD i 0 = _
    rw [getD_map (f := (s * ·)) (Int.mul_zero s)]
    exact (Int.zero_add _).symm
  | x :: xs, [], i => by
    show (x :: xs).getD i 0 = _ + s * 0
    rw [Int.mul_zero, Int.add_zero]
  | x :: xs, y :: ys, 0 => rfl
  | x :: xs, y :: ys, i + 1 => ad_at s xs ys i
theorem VK_ad (s n : Int) : ∀ (xs ys : List Int) (k : Nat), VK k (ad s xs ys) n = VK k xs n + s * VK k ys n
  | [], ys, k => by
    have h : ∀ (zs : List Int) (k : Nat), VK k (zs.map (s * ·)) n = s * VK k zs n := fun zs => by
      induction zs with
      | nil => exact fun _ => (Int.mul_zero s).symm
      | cons z zs ih =>
        intro k
        show s * z * bin n k + VK (k + 1) (zs.map (s * ·)) n = s * (z * bin n k + VK (k + 1) zs n)
        rw [ih]
        grind
    show VK k (ys.map (s * ·)) n = 0 + _
    rw [h, Int.zero_add]
  | x :: xs, [], k => by
    show VK k (x :: xs) n = _ + s * 0
    rw [Int.mul_zero, Int.add_zero]
  | x :: xs, y :: ys, k => by
    show (x + s * y) * bin n k + VK (k + 1) (ad s xs ys) n = (x * bin n k + VK (k + 1) xs n) + s * (y * bin n k + VK (k + 1) ys n)
    rw [VK_ad s n xs ys (k + 1)]
    grind
theorem V_ad (s n : Int) (xs ys : List Int) : V (ad s xs ys) n = V xs n + s * V ys n := VK_ad s n xs ys 0
theorem dvd_of_vals {m : Int} : ∀ (cs : List Int), (∀ n : Nat, m ∣ V cs n) → ∀ i : Nat, m ∣ cs.getD i 0
  | [], _, i => by
    have e : ([] : List Int).getD i 0 = 0 := by simp
    rw [e]
    exact Int.dvd_zero m
  | c :: cs, h, i => by
    cases i with
    | zero =>
      have := h 0
      rwa [Int.natCast_zero, V_at0] at this
    | succ i =>
      refine dvd_of_vals cs (fun n => ?_) i
      have h1 := h (n + 1)
      rw [Int.natCast_add, show (((1 : Nat) : Int)) = 1 from rfl, V_up] at h1
      exact (Int.dvd_iff_dvd_of_dvd_add h1).mp (h n)
def dl (cs : List Int) : List Int := ad (-1) cs (mv cs (-1))
end My

set_option Elab.async false
set_option linter.all false
set_option maxRecDepth 100000
set_option maxHeartbeats 4000000
namespace My
open G (InR)
/-- the n-th differences are 0 -/
def Dg : Nat → (Int → Int) → Prop
  | 0, f => ∀ x, f x = 0
  | n + 1, f => Dg n (fun x => f (x + 1) - f x)
theorem Dg.zero : ∀ (n : Nat) {f : Int → Int}, (∀ x, f x = 0) → Dg n f
  | 0, _, h => h
  | n + 1, f, h => Dg.zero n fun x => by rw [h, h]; rfl
theorem Dg.add : ∀ (n : Nat) {f g : Int → Int}, Dg n f → Dg n g → Dg n (fun x => f x + g x)
  | 0, f, g, h, k => fun x => by show f x + g x = 0; rw [h, k]; rfl
  | n + 1, f, g, h, k => by
    have e : (fun x => f (x + 1) + g (x + 1) - (f x + g x)) = fun x => (f (x + 1) - f x) + (g (x + 1) - g x) := funext fun x => by omega
    show Dg n (fun x => f (x + 1) + g (x + 1) - (f x + g x))
    rw [e]
    exact Dg.add n h k
theorem Dg.neg : ∀ (n : Nat) {f : Int → Int}, Dg n f → Dg n (fun x => -f x)
  | 0, f, h => fun x => by show -f x = 0; rw [h]; rfl
  | n + 1, f, h => by
    have e : (fun x => -f (x + 1) - -f x) = fun x => -(f (x + 1) - f x) := funext fun x => by omega
    show Dg n (fun x => -f (x + 1) - -f x)
    rw [e]
    exact Dg.neg n h
theorem Dg.up : ∀ (n : Nat) {f : Int → Int}, Dg n f → Dg n (fun x => f (x + 1))
  | 0, f, h => fun x => h (x + 1)
  | n + 1, f, h => Dg.up n h
theorem Dg.mul : ∀ (k a b : Nat) {f g : Int → Int}, a + b = k → Dg (a + 1) f → Dg (b + 1) g → Dg (k + 1) (fun x => f x * g x)
  | k, a, b, f, g, e, hf, hg => by
    have s : (fun x => f (x + 1) * g (x + 1) - f x * g x) = fun x => (f (x + 1) - f x) * g (x + 1) + f x * (g (x + 1) - g x) := funext fun x => by grind
    show Dg k (fun x => f (x + 1) * g (x + 1) - f x * g x)
    rw [s]
    refine Dg.add k ?_ ?_
    · cases a with
      | zero => exact Dg.zero k fun x => by show (f (x + 1) - f x) * g (x + 1) = 0; rw [show f (x + 1) - f x = 0 from hf x, Int.zero_mul]
      | succ a =>
        obtain ⟨k', rfl⟩ : ∃ k', k = k' + 1 := ⟨k - 1, by omega⟩
        exact Dg.mul k' a b (by omega) hf (Dg.up (b + 1) hg)
    · cases b with
      | zero => exact Dg.zero k fun x => by show f x * (g (x + 1) - g x) = 0; rw [show g (x + 1) - g x = 0 from hg x, Int.mul_zero]
      | succ b =>
        obtain ⟨k', rfl⟩ : ∃ k', k = k' + 1 := ⟨k - 1, by omega⟩
        exact Dg.mul k' a b (by omega) hf hg
termination_by k => k
theorem Dg.V : ∀ cs : List Int, Dg cs.length (V cs)
  | [] => fun x => rfl
  | c :: cs => by
    have e : (fun x => My.V (c :: cs) (x + 1) - My.V (c :: cs) x) = My.V cs := funext fun x => by rw [V_up]; omega
    show Dg cs.length (fun x => My.V (c :: cs) (x + 1) - My.V (c :: cs) x)
    rw [e]
    exact Dg.V cs
theorem Dg.more : ∀ (n : Nat) {f : Int → Int}, Dg n f → Dg (n + 1) f
  | 0, f, h => fun x => by show f (x + 1) - f x = 0; rw [h, h]; rfl
  | n + 1, f, h => Dg.more n h
def turn (m : Int) (cs : List Int) : List Int := tr m (dv (row (fun b => V cs (0 - b)) cs.length))
end My

set_option Elab.async false
set_option linter.all false
set_option maxRecDepth 100000
set_option maxHeartbeats 4000000
namespace My
open G (InR)
/-- the terms, told by their places -/
theorem terms_at (n : Int) : ∀ (k : Nat) (cs : List Int), ((List.range cs.length).map fun i => cs.getD i 0 * bin n (k + i)).sum = VK k cs n
  | _, [] => rfl
  | k, c :: cs => by
    rw [List.length_cons, List.range_succ_eq_map, List.map_cons, List.sum_cons, List.map_map]
    have e : ((fun i => (c :: cs).getD i 0 * bin n (k + i)) ∘ Nat.succ) = fun i => cs.getD i 0 * bin n (k + 1 + i) := funext fun i => by
      show cs.getD i 0 * bin n (k + (i + 1)) = _
      rw [show k + (i + 1) = k + 1 + i by omega]
    rw [e, terms_at n (k + 1) cs]
    rfl
theorem drop_getD (cs : List Int) (r i : Nat) : (cs.drop r).getD i 0 = cs.getD (r + i) 0 := by
  rw [List.getD_eq_getElem?_getD, List.getD_eq_getElem?_getD, List.getElem?_drop]
/-- what a row comes to -/
def rowL (cs : List Int) (r : Nat) (N : Int) : Int := VK 1 (cs.drop (r + 1)) N
theorem rowL_terms (cs : List Int) (r : Nat) (N : Int) : ((List.range (cs.length - (r + 1))).map fun i => cs.getD (r + (1 + i)) 0 * bin N (1 + i)).sum = rowL cs r N := by
  have h := terms_at N 1 (cs.drop (r + 1))
  rw [List.length_drop] at h
  rw [show rowL cs r N = VK 1 (cs.drop (r + 1)) N from rfl, ← h]
  refine congrArg List.sum (List.map_congr_left fun i _ => ?_)
  rw [drop_getD, show r + 1 + i = r + (1 + i) by omega]
theorem V_drop (cs : List Int) (r : Nat) (N : Int) : V (cs.drop r) N = cs.getD r 0 + rowL cs r N := by
  unfold rowL
  by_cases h : r < cs.length
  · rw [List.drop_eq_getElem_cons h, V_cons, List.getD_eq_getElem?_getD, List.getElem?_eq_getElem h]
    rfl
  · rw [List.drop_eq_nil_of_le (by omega), List.drop_eq_nil_of_le (by omega), List.getD_eq_getElem?_getD, List.getElem?_eq_none (by omega)]
    rfl
theorem getD_rows (f : Nat → Int) (n i : Nat) : ((List.range n).map f).getD i 0 = if i < n then f i else 0 := by
  rw [List.getD_eq_getElem?_getD]
  by_cases h : i < n
  · rw [if_pos h, List.getElem?_map, List.getElem?_range h]
    rfl
  · rw [if_neg h, List.getElem?_eq_none (by rw [List.length_map, List.length_range]; omega)]
    rfl
theorem rowL_out {cs : List Int} {r : Nat} (h : cs.length ≤ r + 1) (N : Int) : rowL cs r N = 0 := by
  unfold rowL
  rw [List.drop_eq_nil_of_le h]
  rfl
theorem V_ext {xs ys : List Int} (h : ∀ i : Nat, xs.getD i 0 = ys.getD i 0) (n : Int) : V xs n = V ys n := by
  have := V_cg (m := 0) (xs := xs) (ys := ys) (fun i => by rw [h i, Int.sub_self]; exact Int.dvd_zero 0) n
  rwa [Int.emod_zero, Int.emod_zero] at this
/-- the rows are the coefficients of the difference -/
theorem V_rows (cs : List Int) (N n : Int) : V ((List.range (cs.length - 1)).map fun r => rowL cs r N) n = V cs (N + n) - V cs n := by
  rw [← mv_val, show V (mv cs N) n - V cs n = V (mv cs N) n + -1 * V cs n by omega, ← V_ad]
  refine V_ext (fun i => ?_) n
  rw [getD_rows, ad_at, mv_at, V_drop]
  by_cases h : i < cs.length - 1
  · rw [if_pos h]
    omega
  · rw [if_neg h, rowL_out (by omega)]
    omega
end My

set_option Elab.async false
set_option linter.all false
set_option maxRecDepth 100000
set_option maxHeartbeats 4000000
namespace My
open G (InR)
/-- N is a period -/
def Per (M : Nat) (cs : List Int) (N : Int) : Prop := ∀ n : Int, (M : Int) ∣ V cs (n + N) - V cs n
theorem per_rows {M : Nat} {cs : List Int} {N : Int} : Per M cs N ↔ ∀ r : Nat, r + 1 < cs.length → (M : Int) ∣ rowL cs r N := by
  refine ⟨fun h r hr => ?_, fun h n => ?_⟩
  · have := dvd_of_vals (m := (M : Int)) ((List.range (cs.length - 1)).map fun r => rowL cs r N) (fun n => by
      rw [V_rows, Int.add_comm N]
      exact h n) r
    rwa [getD_rows, if_pos (by omega)] at this
  · rw [Int.add_comm n N, ← V_rows]
    have e := V_cg (m := (M : Int)) (xs := (List.range (cs.length - 1)).map fun r => rowL cs r N) (ys := []) (fun i => by
      rw [getD_rows, show ([] : List Int).getD i 0 = 0 by simp, Int.sub_zero]
      by_cases hi : i < cs.length - 1
      · rw [if_pos hi]
        exact h i (by omega)
      · rw [if_neg hi]
        exact Int.dvd_zero _) n
    rw [V_nil, Int.zero_emod] at e
    exact Int.dvd_of_emod_eq_zero e
theorem Per.zero (M : Nat) (cs : List Int) : Per M cs 0 := fun n => by rw [Int.add_zero, Int.sub_self]; exact Int.dvd_zero _
theorem Per.add {M : Nat} {cs : List Int} {a b : Int} (h : Per M cs a) (k : Per M cs b) : Per M cs (a + b) := fun n => by
  have := Int.dvd_add (k (n + a)) (h n)
  rwa [show V cs (n + a + b) - V cs (n + a) + (V cs (n + a) - V cs n) = V cs (n + (a + b)) - V cs n by rw [← Int.add_assoc]; omega] at this
theorem Per.neg {M : Nat} {cs : List Int} {a : Int} (h : Per M cs a) : Per M cs (-a) := fun n => by
  have := Int.dvd_neg.mpr (h (n + -a))
  rwa [show n + -a + a = n by omega, Int.neg_sub] at this
theorem Per.mulN {M : Nat} {cs : List Int} {a : Int} (h : Per M cs a) : ∀ k : Nat, Per M cs (a * k)
  | 0 => by rw [Int.natCast_zero, Int.mul_zero]; exact .zero M cs
  | k + 1 => by
    rw [show a * ((k + 1 : Nat) : Int) = a * k + a by rw [Int.natCast_add, Int.mul_add]; omega]
    exact (h.mulN k).add h
theorem Per.mul {M : Nat} {cs : List Int} {a : Int} (h : Per M cs a) (k : Int) : Per M cs (a * k) := by
  rcases Int.natAbs_eq k with e | e
  · rw [e]
    exact h.mulN _
  · rw [e, Int.mul_neg]
    exact (h.mulN _).neg
theorem Per.dvd {M : Nat} {cs : List Int} {a b : Int} (h : Per M cs a) (k : a ∣ b) : Per M cs b := by
  obtain ⟨c, rfl⟩ := k
  exact h.mul c
theorem Per.mono {M m : Nat} {cs : List Int} {a : Int} (h : Per M cs a) (d : m ∣ M) : Per m cs a := fun n => Int.dvd_trans (Int.ofNat_dvd.mpr d) (h n)
/-- L is the least period: the periods are its multiples -/
def IsLp (M : Nat) (cs : List Int) (L : Nat) : Prop := 1 ≤ L ∧ ∀ N : Int, Per M cs N ↔ (L : Int) ∣ N
theorem IsLp.uniq {M : Nat} {cs : List Int} {L K : Nat} (h : IsLp M cs L) (k : IsLp M cs K) : L = K :=
  Nat.dvd_antisymm (Int.ofNat_dvd.mp ((h.2 K).mp ((k.2 K).mpr (Int.dvd_refl _)))) (Int.ofNat_dvd.mp ((k.2 L).mp ((h.2 L).mpr (Int.dvd_refl _))))
theorem lp_least {M : Nat} {cs : List Int} {L : Nat} (h1 : 1 ≤ L) (h2 : Per M cs L) (h3 : ∀ k : Nat, 1 ≤ k → k < L → ¬ Per M cs k) : IsLp M cs L := by
  refine ⟨h1, fun N => ⟨fun h => ?_, fun h => h2.dvd h⟩⟩
  have hr : Per M cs (N % L) := by
    have := h.add (h2.mul (-(N / L)))
    rwa [show N + (L : Int) * -(N / L) = N % L by have := Int.emod_add_mul_ediv N L; rw [Int.mul_neg]; omega] at this
  have n0 := Int.emod_nonneg N (show (L : Int) ≠ 0 by omega)
  have n1 := Int.emod_lt_of_pos N (show (0 : Int) < L by omega)
  by_cases hz : N % L = 0
  · exact Int.dvd_of_emod_eq_zero hz
  · have e : ((N % L).toNat : Int) = N % L := Int.toNat_of_nonneg n0
    rw [← e] at hr
    exact absurd hr (h3 _ (by omega) (by omega))
theorem lp_exists {M : Nat} {cs : List Int} {k : Nat} (h : Per M cs k) (hk : 1 ≤ k) : ∃ L, IsLp M cs L := by
  induction k using Nat.strongRecOn with
  | _ k ih =>
    by_cases hx : ∃ j : Nat, 1 ≤ j ∧ j < k ∧ Per M cs j
    · obtain ⟨j, j1, j2, j3⟩ := hx
      exact ih j j2 j3 j1
    · exact ⟨k, lp_least hk h fun j j1 j2 j3 => hx ⟨j, j1, j2, j3⟩⟩
theorem cop_dvd {G i : Nat} {x : Int} (h : Nat.Coprime G i) (d : (G : Int) ∣ (i : Int) * x) : (G : Int) ∣ x := by
  have h1 := Int.ofNat_dvd_left.mp d
  rw [Int.natAbs_mul, Int.natAbs_natCast] at h1
  exact Int.ofNat_dvd_left.mpr (h.dvd_of_dvd_mul_left h1)
theorem term_dvd {G : Nat} {N x : Int} {j : Nat} (hj : 1 ≤ j) (h : Nat.Coprime G j) (d : (G : Int) ∣ N * x) : (G : Int) ∣ x * bin N j := by
  obtain ⟨i, rfl⟩ : ∃ i, j = i + 1 := ⟨j - 1, by omega⟩
  refine cop_dvd h ?_
  have e := bin_less N i
  rw [show ((i + 1 : Nat) : Int) * (x * bin N (i + 1)) = x * (((i : Int) + 1) * bin N (i + 1)) by rw [Int.natCast_add]; grind, e, show x * (N * bin (N - 1) i) = N * x * bin (N - 1) i by grind]
  exact Int.dvd_mul_of_dvd_left d
theorem VK_terms {m n : Int} : ∀ (k : Nat) (cs : List Int), (∀ i : Nat, i < cs.length → m ∣ cs.getD i 0 * bin n (k + i)) → m ∣ VK k cs n
  | _, [], _ => Int.dvd_zero m
  | k, c :: cs, h => by
    refine Int.dvd_add (h 0 (Nat.zero_lt_succ _)) (VK_terms (k + 1) cs fun i hi => ?_)
    have := h (i + 1) (Nat.succ_lt_succ hi)
    rwa [show k + (i + 1) = k + 1 + i by omega] at this
theorem great_rows {G : Nat} {N : Int} : ∀ xs : List Int, (∀ j, 1 ≤ j → j ≤ xs.length → Nat.Coprime G j) → ((∀ k : Nat, k < xs.length → (G : Int) ∣ VK 1 (xs.drop k) N) ↔ ∀ x ∈ xs, (G : Int) ∣ N * x)
  | [], _ => ⟨fun _ x hx => (by cases hx), fun _ k hk => absurd hk (Nat.not_lt_zero k)⟩
  | x :: t, hc => by
    have ih := great_rows (N := N) t fun j h1 h2 => hc j h1 (by rw [List.length_cons]; omega)
    have tl : (∀ y ∈ t, (G : Int) ∣ N * y) → (G : Int) ∣ VK 2 t N := fun h => VK_terms 2 t fun i hi => term_dvd (by omega) (hc (2 + i) (by omega) (by rw [List.length_cons]; omega)) (h _ (by
      rw [List.getD_eq_getElem?_getD, List.getElem?_eq_getElem hi, Option.getD_some]
      exact List.getElem_mem hi))
    have e : VK 1 (x :: t) N = x * N + VK 2 t N := by
      show x * bin N 1 + VK 2 t N = _
      rw [show bin N 1 = N by
        show 1 * (N - ((0 : Nat) : Int)) / (((0 : Nat) : Int) + 1) = N
        rw [Int.natCast_zero, Int.sub_zero, Int.one_mul, Int.zero_add, Int.ediv_one]]
    refine ⟨fun h => ?_, fun h k hk => ?_⟩
    · have ht := ih.mp fun k hk => h (k + 1) (by rw [List.length_cons]; omega)
      have h0 := h 0 (Nat.zero_lt_succ _)
      rw [List.drop_zero, e] at h0
      have h1 : (G : Int) ∣ x * N := (Int.dvd_iff_dvd_of_dvd_add h0).mpr (tl ht)
      intro y hy
      rcases List.mem_cons.mp hy with rfl | hy
      · rw [Int.mul_comm]
        exact h1
      · exact ht y hy
    · cases k with
      | zero =>
        rw [List.drop_zero, e]
        refine Int.dvd_add ?_ (tl fun y hy => h y (List.mem_cons_of_mem _ hy))
        rw [Int.mul_comm]
        exact h x List.mem_cons_self
      | succ k => exact ih.mpr (fun y hy => h y (List.mem_cons_of_mem _ hy)) k (by rw [List.length_cons] at hk; omega)
theorem gcdL_mem : ∀ (ns : List Int) (m : Nat) (n : Int), n ∈ ns → gcdL m ns ∣ n.natAbs
  | x :: ns, m, n, h => by
    rw [gcdL_cons]
    rcases List.mem_cons.mp h with rfl | h
    · exact Nat.dvd_trans (gcdL_dvd ns _) (Nat.gcd_dvd_right _ _)
    · exact gcdL_mem ns _ n h
theorem gcdL_times {G k : Nat} : ∀ (ns : List Int) (m : Nat), G ∣ k * m → (∀ n ∈ ns, G ∣ k * n.natAbs) → G ∣ k * gcdL m ns
  | [], _, h, _ => h
  | x :: ns, m, h, hn => by
    rw [gcdL_cons]
    refine gcdL_times ns _ ?_ fun n hm => hn n (List.mem_cons_of_mem _ hm)
    rw [← Nat.gcd_mul_left]
    exact Nat.dvd_gcd h (hn x List.mem_cons_self)
/-- the least period modulo a part that shares nothing with the places -/
theorem lp_great {G : Nat} {cs : List Int} (hG : 1 ≤ G) (hc : ∀ j, 1 ≤ j → j ≤ cs.length - 1 → Nat.Coprime G j) : IsLp G cs (G / gcdL G (cs.drop 1)) := by
  have g1 := gcdL_pos hG (cs.drop 1)
  have gd := gcdL_dvd (cs.drop 1) G
  obtain ⟨q, hq⟩ := gd
  have eq : G / gcdL G (cs.drop 1) = q := by
    refine Nat.div_eq_of_eq_mul_right g1 hq
  rw [eq]
  have q1 : 1 ≤ q := by
    cases q with
    | zero => rw [Nat.mul_zero] at hq; omega
    | succ q => omega
  refine ⟨q1, fun N => ?_⟩
  have key : Per G cs N ↔ ∀ x ∈ cs.drop 1, (G : Int) ∣ N * x := by
    rw [per_rows, ← great_rows (cs.drop 1) (fun j h1 h2 => hc j h1 (by rw [List.length_drop] at h2; exact h2))]
    refine ⟨fun h k hk => ?_, fun h r hr => ?_⟩
    · rw [List.drop_drop]
      have := h k (by rw [List.length_drop] at hk; omega)
      unfold rowL at this
      rwa [Nat.add_comm k 1] at this
    · have := h r (by rw [List.length_drop]; omega)
      rw [List.drop_drop] at this
      unfold rowL
      rwa [Nat.add_comm r 1]
  rw [key]
  refine ⟨fun h => ?_, fun h x hx => ?_⟩
  · have h1 := gcdL_times (G := G) (k := N.natAbs) (cs.drop 1) G (Nat.dvd_mul_left _ _) fun x hx => by
      have := Int.ofNat_dvd_left.mp (h x hx)
      rwa [Int.natAbs_mul] at this
    refine Int.ofNat_dvd_left.mpr ?_
    refine Nat.dvd_of_mul_dvd_mul_left g1 ?_
    rw [← hq, Nat.mul_comm]
    exact h1
  · obtain ⟨d, hd⟩ := gcdL_mem (cs.drop 1) G x hx
    obtain ⟨a, ha⟩ := Int.ofNat_dvd_left.mp h
    refine Int.ofNat_dvd_left.mpr ?_
    rw [Int.natAbs_mul, hd, ha, show q * a * (gcdL G (cs.drop 1) * d) = (gcdL G (cs.drop 1) * q) * (a * d) by
      simp only [Nat.mul_comm, Nat.mul_left_comm, Nat.mul_assoc], ← hq]
    exact Nat.dvd_mul_right _ _
theorem pw_dvd {p : Nat} (hp : p ∈ PR) : ∀ (k d : Nat), d ∣ p ^ k → ∃ j, j ≤ k ∧ d = p ^ j
  | 0, d, h => ⟨0, Nat.le_refl 0, by rw [Nat.pow_zero] at h ⊢; exact Nat.dvd_one.mp h⟩
  | k + 1, d, h => by
    rcases pr_prime hp (Nat.gcd_dvd_right d p) with g | g
    · have h2 : d ∣ p ^ k := by
        rw [Nat.pow_succ] at h
        exact Nat.Coprime.dvd_of_dvd_mul_right g h
      obtain ⟨j, j1, j2⟩ := pw_dvd hp k d h2
      exact ⟨j, by omega, j2⟩
    · have h2 : p ∣ d := by rw [← g]; exact Nat.gcd_dvd_left d p
      obtain ⟨c, rfl⟩ := h2
      have p2 := (pr_two hp).1
      rw [Nat.pow_succ, Nat.mul_comm (p ^ k)] at h
      obtain ⟨j, j1, j2⟩ := pw_dvd hp k c (Nat.dvd_of_mul_dvd_mul_left (by omega) h)
      exact ⟨j + 1, by omega, by rw [j2, Nat.pow_succ, Nat.mul_comm]⟩
theorem pw_le {p : Nat} (hp : p ∈ PR) {i j : Nat} : p ^ i ∣ p ^ j ↔ i ≤ j := by
  have p2 := (pr_two hp).1
  refine ⟨fun h => ?_, fun h => Nat.pow_dvd_pow p h⟩
  have := Nat.le_of_dvd (Nat.pow_pos (by omega)) h
  exact (Nat.pow_le_pow_iff_right (by omega)).mp this
/-- what a power of p divides times a small number, a lesser one divides alone -/
theorem pw_small {p e : Nat} (hp : p ∈ PR) {i : Nat} (h1 : 1 ≤ i) (h2 : i ≤ 12) {x : Int} (h : ((p ^ (e + 3) : Nat) : Int) ∣ (i : Int) * x) : ((p ^ e : Nat) : Int) ∣ x := by
  have p2 := (pr_two hp).1
  have hz : x.natAbs = 0 ∨ 1 ≤ x.natAbs := by omega
  rcases hz with hz | hz
  · rw [Int.natAbs_eq_zero.mp hz]
    exact Int.dvd_zero _
  have h3 := Int.ofNat_dvd_left.mp h
  rw [Int.natAbs_mul, Int.natAbs_natCast] at h3
  obtain ⟨q, e1, q1⟩ := vl_spec p2 h1
  obtain ⟨r, e2, r1⟩ := vl_spec p2 hz
  have hi : vl p i ≤ 3 := by
    refine Nat.le_of_not_lt fun z => ?_
    have : 2 ^ 4 ≤ i := by
      rw [e1]
      refine Nat.le_trans (Nat.pow_le_pow_right (by decide) z) (Nat.le_trans (Nat.pow_le_pow_left p2 _) (Nat.le_mul_of_pos_right _ ?_))
      refine Nat.pos_of_ne_zero fun z2 => q1 ?_
      rw [z2, Nat.zero_mod]
    omega
  refine Int.ofNat_dvd_left.mpr ?_
  have c1 : Nat.Coprime q p := pr_no hp q1
  have c2 : Nat.Coprime r p := pr_no hp r1
  have h4 : p ^ (e + 3) ∣ p ^ (vl p i + vl p x.natAbs) := by
    have e3 : i * x.natAbs = p ^ (vl p i + vl p x.natAbs) * (q * r) := by
      rw [Nat.pow_add]
      calc i * x.natAbs = (p ^ vl p i * q) * (p ^ vl p x.natAbs * r) := by rw [← e1, ← e2]
        _ = _ := by simp only [Nat.mul_comm, Nat.mul_left_comm, Nat.mul_assoc]
    rw [e3] at h3
    exact Nat.Coprime.dvd_of_dvd_mul_right ((Nat.Coprime.mul_left c1 c2).symm.pow_left _) h3
  have h5 := (pw_le hp).mp h4
  rw [e2]
  exact Nat.dvd_trans (Nat.pow_dvd_pow p (by omega)) (Nat.dvd_mul_right _ _)
theorem pw_period {p : Nat} (hp : p ∈ PR) (e : Nat) {cs : List Int} (hl : cs.length ≤ 13) : Per (p ^ e) cs ((p ^ (e + 3) : Nat) : Int) := by
  rw [per_rows]
  intro r hr
  refine VK_terms 1 _ fun i hi => ?_
  rw [List.length_drop] at hi
  refine Int.dvd_mul_of_dvd_right ?_
  refine pw_small hp (i := 1 + i) (by omega) (by omega) ?_
  have e1 := bin_less ((p ^ (e + 3) : Nat) : Int) i
  rw [show ((1 + i : Nat) : Int) = (i : Int) + 1 by omega, show 1 + i = i + 1 by omega, e1]
  exact Int.dvd_mul_right _ _
theorem per_prod {l : List Nat} (hc : Cop l) {cs : List Int} {N : Int} : Per (prodN l) cs N ↔ ∀ d ∈ l, Per d cs N :=
  ⟨fun h d hd => h.mono (prod_dvd hd), fun h n => dvd_prod hc fun d hd => h d hd n⟩
theorem great_cop {n most : Nat} (hn : 1 ≤ n) (hm : most ≤ 12) {j : Nat} (h1 : 1 ≤ j) (h2 : j ≤ most) : Nat.Coprime (great n most) j := by
  have pr : ∀ p ∈ PR, p ≤ most → Nat.Coprime (great n most) p := fun p hp hle => by
    refine pr_no hp fun z => ?_
    by_cases h : n % p = 0
    · exact great_no hn (x := (p, vl p n)) (by
        unfold small
        exact List.mem_map.mpr ⟨p, List.mem_filter.mpr ⟨hp, by rw [decide_eq_true hle, decide_eq_true h] <;> rfl⟩, rfl⟩) z
    · refine h (Nat.mod_eq_zero_of_dvd (Nat.dvd_trans (Nat.dvd_of_mod_eq_zero z) ?_))
      exact ⟨_, great_mul most hn⟩
  have c : j = 1 ∨ j = 2 ∨ j = 3 ∨ j = 2 * 2 ∨ j = 5 ∨ j = 2 * 3 ∨ j = 7 ∨ j = 2 * (2 * 2) ∨ j = 3 * 3 ∨ j = 2 * 5 ∨ j = 11 ∨ j = 2 * (2 * 3) := by omega
  have P2 : 2 ≤ most → Nat.Coprime (great n most) 2 := pr 2 (by decide)
  have P3 : 3 ≤ most → Nat.Coprime (great n most) 3 := pr 3 (by decide)
  have P5 : 5 ≤ most → Nat.Coprime (great n most) 5 := pr 5 (by decide)
  have P7 : 7 ≤ most → Nat.Coprime (great n most) 7 := pr 7 (by decide)
  have P11 : 11 ≤ most → Nat.Coprime (great n most) 11 := pr 11 (by decide)
  rcases c with rfl | rfl | rfl | rfl | rfl | rfl | rfl | rfl | rfl | rfl | rfl | rfl
  · exact Nat.coprime_one_right _
  · exact P2 h2
  · exact P3 h2
  · exact (P2 (by omega)).mul_right (P2 (by omega))
  · exact P5 h2
  · exact (P2 (by omega)).mul_right (P3 (by omega))
  · exact P7 h2
  · exact (P2 (by omega)).mul_right ((P2 (by omega)).mul_right (P2 (by omega)))
  · exact (P3 (by omega)).mul_right (P3 (by omega))
  · exact (P2 (by omega)).mul_right (P5 (by omega))
  · exact P11 h2
  · exact (P2 (by omega)).mul_right ((P2 (by omega)).mul_right (P3 (by omega)))
theorem cop_sub : ∀ {l m : List Nat}, l.length = m.length → (∀ i x y : Nat, l[i]? = some x → m[i]? = some y → ∀ z : Nat, Nat.Coprime x z → Nat.Coprime y z) → Cop l → Cop m
  | [], [], _, _, h => h
  | [], _ :: _, h, _, _ => by simp at h
  | _ :: _, [], h, _, _ => by simp at h
  | x :: l, y :: m, hl, h, ⟨h1, h2⟩ => by
    refine ⟨fun z hz => ?_, cop_sub (l := l) (m := m) (by simpa using hl) (fun i a b ha hb => h (i + 1) a b ha hb) h2⟩
    obtain ⟨i, hi, rfl⟩ := List.mem_iff_getElem.mp hz
    have hi2 : i < l.length := by
      have := hl
      simp only [List.length_cons] at this
      omega
    have c1 := h1 l[i] (List.getElem_mem hi2)
    have c2 := h 0 x y rfl rfl _ c1
    exact (h (i + 1) l[i] m[i] (by rw [List.getElem?_cons_succ, List.getElem?_eq_getElem hi2]) (by rw [List.getElem?_cons_succ, List.getElem?_eq_getElem hi]) y c2.symm).symm
/-- the least period from those by the pieces -/
theorem lp_pieces {cs : List Int} : ∀ {l m : List Nat}, l.length = m.length → Cop l → Cop m → (∀ i d L : Nat, l[i]? = some d → m[i]? = some L → IsLp d cs L) → IsLp (prodN l) cs (prodN m) := fun {l m} hl hc hm h => by
  have pos : ∀ L ∈ m, 1 ≤ L := fun L hL => by
    obtain ⟨i, hi, rfl⟩ := List.mem_iff_getElem.mp hL
    exact (h i _ _ (List.getElem?_eq_getElem (by omega)) (List.getElem?_eq_getElem hi)).1
  refine ⟨?_, fun N => ?_⟩
  · have : ∀ k : List Nat, (∀ L ∈ k, 1 ≤ L) → 1 ≤ prodN k := fun k => by
      induction k with
      | nil => exact fun _ => Nat.le_refl 1
      | cons a k ih =>
        intro hk
        rw [prodN_cons]
        exact Nat.mul_pos (hk a List.mem_cons_self) (ih fun L hL => hk L (List.mem_cons_of_mem _ hL))
    exact this m pos
  · rw [per_prod hc]
    refine ⟨fun hp => dvd_prod hm fun L hL => ?_, fun hd d hdl => ?_⟩
    · obtain ⟨i, hi, rfl⟩ := List.mem_iff_getElem.mp hL
      have hi2 : i < l.length := by omega
      exact ((h i _ _ (List.getElem?_eq_getElem hi2) (List.getElem?_eq_getElem hi)).2 N).mp (hp _ (List.getElem_mem hi2))
    · obtain ⟨i, hi, rfl⟩ := List.mem_iff_getElem.mp hdl
      have hi2 : i < m.length := by omega
      refine ((h i _ _ (List.getElem?_eq_getElem hi) (List.getElem?_eq_getElem hi2)).2 N).mpr ?_
      exact Int.dvd_trans (Int.ofNat_dvd.mpr (prod_dvd (List.getElem_mem hi2))) hd
end My

set_option Elab.async false
set_option linter.all false
set_option maxRecDepth 100000
set_option maxHeartbeats 4000000
namespace My
open G (InR rgI)
end My

set_option Elab.async false
set_option linter.all false
set_option maxRecDepth 100000
set_option maxHeartbeats 4000000
namespace My
open G
/-- how often each number goes into their common divisor -/
def cmbW (a b : Nat) (s t u v : Int) : Int × Int := if h : b = 0 then (s, t) else cmbW b (a % b) u v (s - (a / b : Nat) * u) (t - (a / b : Nat) * v)
termination_by b
decreasing_by exact Nat.mod_lt _ (Nat.pos_of_ne_zero h)
theorem cmbW_0 {a : Nat} {s t u v : Int} : cmbW a 0 s t u v = (s, t) := by
  rw [cmbW, dif_pos rfl]
theorem cmbW_s {a b : Nat} {s t u v : Int} (h : b ≠ 0) : cmbW a b s t u v = cmbW b (a % b) u v (s - (a / b : Nat) * u) (t - (a / b : Nat) * v) := by
  rw [cmbW, dif_neg h]
def cmb (a b : Nat) : Int × Int := cmbW a b 1 0 0 1
theorem cmbW_ok {a0 b0 : Nat} : ∀ (b a : Nat) (s t u v : Int), Bz a0 b0 a b s t u v → (Nat.gcd a0 b0 : Int) = (cmbW a b s t u v).1 * a0 + (cmbW a b s t u v).2 * b0 ∧ (cmbW a b s t u v).1.natAbs ≤ b0 + 1 ∧ (cmbW a b s t u v).2.natAbs ≤ a0 + 1 := fun b => by
  induction b using Nat.strongRecOn with
  | ind b ih =>
    intro a s t u v z
    by_cases h : b = 0
    · subst h
      rw [cmbW_0]
      have e := z.end_ rfl
      have e1 := z.e1
      have m1 := z.m1
      rw [e] at e1
      exact ⟨e1, m1.1, m1.2.1⟩
    · rw [cmbW_s h]
      exact ih _ (Nat.mod_lt _ (Nat.pos_of_ne_zero h)) _ _ _ _ _ (z.step (Nat.pos_of_ne_zero h))
theorem cmb_ok (a b : Nat) : (Nat.gcd a b : Int) = (cmb a b).1 * a + (cmb a b).2 * b ∧ (cmb a b).1.natAbs ≤ b + 1 ∧ (cmb a b).2.natAbs ≤ a + 1 := cmbW_ok _ _ _ _ _ _ (Bz.start a b)
def shS (m : Nat) (x : Nat × List Int) (r : Int) : Nat × List Int :=
  (Nat.gcd x.1 (r % (m : Int)).toNat, x.2.map (fun y => y * (cmb x.1 (r % (m : Int)).toNat).1 % m) ++ [(cmb x.1 (r % (m : Int)).toNat).2 % m])
def shF (m : Nat) (ns : List Int) : Nat × List Int := ns.foldl (shS m) (m, [])
theorem shF_snoc (m : Nat) (ns : List Int) (r : Int) : shF m (ns ++ [r]) = shS m (shF m ns) r := by
  unfold shF
  rw [List.foldl_append]
  rfl
theorem shF_step {m : Nat} (hm : 1 ≤ m) {ns : List Int} (h : (shF m ns).1 = gcdL m ns ∧ MulOk m ns (shF m ns).2 (gcdL m ns)) (r : Int) : (shF m (ns ++ [r])).1 = gcdL m (ns ++ [r]) ∧ MulOk m (ns ++ [r]) (shF m (ns ++ [r])).2 (gcdL m (ns ++ [r])) := by
  obtain ⟨h1, h2, h3, h4⟩ := h
  have hgd : gcdL m ns ∣ m := gcdL_dvd _ m
  have hr0 := Int.emod_nonneg r (show (m : Int) ≠ 0 by omega)
  have hk : r % (m : Int) = ((r % (m : Int)).toNat : Nat) := by omega
  have e1 : (shF m (ns ++ [r])).1 = gcdL m (ns ++ [r]) := by
    rw [shF_snoc]
    unfold shS
    dsimp only
    rw [h1, gcdL_app, gcdL_cons, gcdL_nil]
    exact gcd_mod hgd hk
  refine ⟨e1, ?_⟩
  rw [← e1, shF_snoc]
  unfold shS
  dsimp only
  rw [h1]
  exact mulOk_step hm h2 h3 h4 (cmb_ok _ _).1 hk
theorem shF_ok {m : Nat} (hm : 1 ≤ m) : ∀ ns : List Int, (shF m ns).1 = gcdL m ns ∧ MulOk m ns (shF m ns).2 (gcdL m ns) := fun ns => by
  have key : ∀ i, i ≤ ns.length → (shF m (ns.take i)).1 = gcdL m (ns.take i) ∧ MulOk m (ns.take i) (shF m (ns.take i)).2 (gcdL m (ns.take i)) := fun i => by
    induction i with
    | zero =>
      intro _
      rw [List.take_zero]
      exact ⟨rfl, rfl, fun x hx => (by cases hx), ⟨-1, by show (0 : Int) - m = m * -1; omega⟩⟩
    | succ i ih =>
      intro hi
      obtain ⟨r, er⟩ : ∃ r, ns[i]? = some r := ⟨_, List.getElem?_eq_getElem (by omega)⟩
      have et : ns.take (i + 1) = ns.take i ++ [r] := by rw [List.take_succ, er] <;> rfl
      rw [et]
      exact shF_step hm (ih (by omega)) r
  have := key ns.length (Nat.le_refl _)
  rwa [List.take_length] at this
def mulF (m : Nat) (ns : List Int) : List Int := (shF m ns).2
theorem mulF_ok {m : Nat} (hm : 1 ≤ m) (ns : List Int) : MulOk m ns (mulF m ns) (gcdL m ns) := (shF_ok hm ns).2
end My

set_option Elab.async false
set_option linter.all false
set_option maxRecDepth 100000
set_option maxHeartbeats 0
namespace My
open PySem PySem.Spec PyProof.Rows L2 G

local macro_rules | `(tactic| walk_at "ws") => `(tactic| first
  | with_reducible refine s_set ?_
  | with_reducible refine s_if ?_
  | refine s_fldaug (by assumption) (by assumption) ?_
  | with_reducible refine s_ret ?_
  | with_reducible refine s_retN ?_
  | with_reducible refine s_drop ?_
  | with_reducible refine s_next ?_
  | with_reducible refine s_par ?_
  | with_reducible refine s_par3 ?_
  | refine s_fldN (by assumption) (by assumption) ?_
  | with_reducible refine s_asg ?_
  | refine s_raise1 ?_
  | refine s_raise2 ?_)
local macro_rules | `(tactic| walk_at "we") => `(tactic| first
  | ((with_reducible refine w_v (d := ?k2) ?k1 ?_); (case k1 => exact rfl))
  | ((with_reducible refine w_o (j := ?k2) ?k1 ?_); (case k1 => exact rfl))
  | ((guard_target = G.WE _ _ (tFld _ _ _) _ _ _ _); (refine w_fldN (by assumption) (by assumption) ?_))
  | ((guard_target = G.WE _ _ (tC (.ref _)) _ _ _ _); (refine w_ctup (by assumption) ?_))
  | with_reducible refine w_ci ?_
  | with_reducible refine w_op ?_
  | with_reducible refine w_call ?_
  | with_reducible refine w_cty ?_
  | with_reducible refine w_cb ?_
  | with_reducible refine w_cn ?_
  | with_reducible refine w_cs ?_
  | with_reducible refine w_cr ?_
  | with_reducible refine w_un ?_
  | with_reducible refine w_andV ?_
  | with_reducible refine w_orV ?_
  | with_reducible refine w_notV ?_
  | with_reducible refine w_ife ?_
  | with_reducible refine w_chain ?_
  | with_reducible refine w_tup ?_
  | with_reducible refine w_revL ?_
  | with_reducible refine w_slL ?_
  | with_reducible refine w_slT ?_
  | (guard_target = G.WE _ _ (tCall (lift _ (sp_draw _)) _ _ _) _ _ _ _; refine w_fn10 0 ?_)
  | (guard_target = G.WE _ _ (tCall (lift _ (sp_pick _)) _ _ _) _ _ _ _; refine w_fn10 0 ?_)
  | (guard_target = G.WE _ _ (tCall (lift _ (sp_w_coefs _)) _ _ _) _ _ _ _; refine w_fn10 0 ?_)
  | (guard_target = G.WE _ _ (tCall (lift _ (sp_l_drawn _)) _ _ _) _ _ _ _; refine w_fn10 0 ?_)
  | (guard_target = G.WE _ _ (tCall (lift _ (sp_l_right _)) _ _ _) _ _ _ _; refine w_fn10 0 ?_)
  | (guard_target = G.WE _ _ (tCall (lift _ (sp_l_btri _)) _ _ _) _ _ _ _; refine w_fn10 0 ?_)
  | (guard_target = G.WE _ _ (tCall (lift _ (sp_l_bent _)) _ _ _) _ _ _ _; refine w_fn10 0 ?_)
  | (guard_target = G.WE _ _ (tMeth _ _ (lift _ (sp_w_next _)) _ _ _ _) _ _ _ _; refine w_methO 0 ?_)
  | (guard_target = G.WE _ _ (tMeth _ _ (lift _ (sp_w_refuse _)) _ _ _ _) _ _ _ _; refine w_methO 0 ?_)
  | (guard_target = G.WE _ _ (tMeth _ _ (lift _ (sp_w_word _)) _ _ _ _) _ _ _ _; refine w_methO 0 ?_)
  | (guard_target = G.WE _ _ (tMeth _ _ (lift _ (sp_w_number _)) _ _ _ _) _ _ _ _; refine w_methO 0 ?_)
  | (guard_target = G.WE _ _ (tMeth _ _ (lift _ (sp_w_end _)) _ _ _ _) _ _ _ _; refine w_methO 0 ?_)
  | (guard_target = G.WE _ _ (tMake _ (lift _ (sp_w_init _)) _ _ _) _ _ _ _; refine w_makeO ?_)
  | with_reducible refine w_fn0 ?_
  | with_reducible refine w_fnS0 ?_
  | with_reducible refine w_meth0 ?_
  | with_reducible refine w_make0 ?_
  | with_reducible refine w_bmL ?_
  | with_reducible refine w_bmL0 ?_
  | with_reducible refine w_lst ?_
  | with_reducible refine w_callKX ?_
  | with_reducible refine w_makeKX ?_
  | with_reducible refine w_makeX ?_
  | with_reducible refine w_smethX ?_
  | with_reducible refine w_smethK ?_
  | with_reducible refine w_smethK0 ?_
  | with_reducible refine w_fnV ?_
  | with_reducible refine w_fnX ?_
  | with_reducible refine w_fnSX ?_
  | with_reducible refine w_methX ?_
  | with_reducible refine w_callX ?_
  | with_reducible refine w_methK ?_
  | with_reducible refine w_callK2 ?_
  | with_reducible refine w_callI ?_
  | with_reducible refine w_prop ?_
  | with_reducible refine w_dic0 ?_
  | with_reducible refine w_jcons ?_
  | with_reducible refine w_jnil ?_
  | with_reducible refine w_join ?_
  | with_reducible refine w_split ?_
  | with_reducible refine w_smeth ?_
  | with_reducible refine w_fnKr ?_)
local macro_rules | `(tactic| walk_at "wt") => `(tactic| first
  | with_reducible refine w_test ?_
  | with_reducible refine w_B ?_
  | with_reducible refine w_and ?_
  | with_reducible refine w_or ?_
  | with_reducible refine w_not ?_)
local macro_rules | `(tactic| walk_at "wa") => `(tactic| first
  | with_reducible refine w_cons ?_
  | with_reducible refine w_nil ?_
  | with_reducible refine w_star ?_)
local macro_rules | `(tactic| walk_at "wr") => `(tactic| first
  | with_reducible refine w_add ?_
  | with_reducible refine w_sub ?_
  | with_reducible refine w_lt ?_
  | with_reducible refine w_le ?_
  | with_reducible refine w_gt ?_
  | with_reducible refine w_ge ?_
  | with_reducible refine w_eqI ?_
  | with_reducible refine w_neI ?_
  | with_reducible refine w_isN ?_
  | with_reducible refine w_notN ?_
  | ((with_reducible refine w_mod ?k1 ?_); (case k1 => first | decide | omega))
  | ((with_reducible refine w_mul ?k1 ?_); (case k1 => first | exact Or.inl ⟨by decide, by decide⟩ | exact Or.inr ⟨by decide, by decide⟩ | exact Or.inl ⟨by omega, by omega⟩ | exact Or.inr ⟨by omega, by omega⟩))
  | ((with_reducible refine w_pow ?k1 ?_); (case k1 => first | exact ⟨by decide, by decide, by decide⟩ | exact ⟨by omega, by omega, by omega⟩))
  | ((with_reducible refine w_fdivW ?k1 ?_); (case k1 => exact divW_ok (by first | decide | omega) (by first | decide | omega)))
  | ((with_reducible refine w_mulW ?k1 ?_); (case k1 => exact mulW_ok ⟨by omega, by omega⟩ ⟨by omega, by omega⟩))
  | ((guard_target = G.WR _ (rIxT _) _ _ _ _); (refine w_ixT (by first | exact atI_0 | exact atI_1 | exact atI_2 | exact atI_3 | exact atI_4 | exact atI_5 | exact atI_6 | assumption) ?_))
  | ((guard_target = G.WR _ (rIxL _) _ _ _ _); (refine w_ixL (by first | exact lstD_v | exact lstD_o rfl) (by first | exact atI_0 | exact atI_1 | exact atI_2 | exact atI_3 | exact atI_4 | exact atI_5 | exact atI_6 | assumption) ?_)))
local macro_rules | `(tactic| walk_at "wc") => `(tactic| first
  | with_reducible refine c_int ?_
  | with_reducible refine c_intB ?_
  | with_reducible refine c_abs ?_
  | ((guard_target = G.WC _ (G.rLen _) _ _ _); (refine c_lenL (by first | exact lstD_v | exact lstD_o rfl) ?_))
  | with_reducible refine c_lenT ?_
  | ((guard_target = G.WC _ (G.rListOf _) _ _ _); (refine c_listL (by first | exact lstD_v | exact lstD_o rfl) ?_))
  | with_reducible refine c_listT ?_
  | ((guard_target = G.WC _ (G.rTupOf _) _ _ _); (refine c_tupL (by first | exact lstD_v | exact lstD_o rfl) ?_))
  | with_reducible refine c_tupT ?_)
local macro_rules | `(tactic| walk_at "e") => `(tactic| first
  | (guard_target = G.WE _ _ _ _ _ _ _; walk_at "we")
  | (guard_target = G.WS _ _ _ _ _ _; walk_at "ws")
  | (guard_target = G.WA _ _ _ _ _ _ _; walk_at "wa")
  | (guard_target = G.WR _ _ _ _ _ _; walk_at "wr")
  | (guard_target = G.WT _ _ _ _ _ _ _; walk_at "wt")
  | (guard_target = G.WC _ _ _ _ _; walk_at "wc")
  | (guard_target = G.WU _ _ _ _ _; with_reducible refine w_neg ?_)
  | (guard_target = G.WG _ _ _ _ _ _ _; first | with_reducible refine g_name ?_ | with_reducible refine g_setL ?_ | refine g_pair rfl ?_ | refine g_trip rfl ?_ | refine g_quad rfl ?_)
  | (guard_target = G.WO _ _ _ _ _ _ _; first | with_reducible refine o_none ?_ | with_reducible refine o_some ?_)
  | with_reducible refine tt_ ?_
  | with_reducible refine ff_ ?_
  | with_reducible refine ntt_ ?_
  | with_reducible refine nff_ ?_
  | ((guard_target = ((!G.isNon _) = true → _) ∧ _); (first | refine bnF rfl ?_ | refine bnT rfl ?_))
  | ((guard_target = (G.isNon _ = true → _) ∧ _); (first | refine bF rfl ?_ | refine bT rfl ?_))
  | (guard_target = Exists _; first
    | refine ⟨_, rfl, rfl, rfl, ?_⟩
    | refine ⟨_, _, _, rfl, rfl, rfl, Nat.le_of_ble_eq_true rfl, ?_⟩
    | refine ⟨_, _, _, rfl, rfl, rfl, ?_⟩
    | refine ⟨_, _, rfl, rfl, Nat.le_of_ble_eq_true rfl, ?_⟩
    | refine ⟨_, rfl, Nat.le_of_ble_eq_true rfl, Nat.le_of_ble_eq_true rfl, ?_⟩
    | refine ⟨_, _, _, _, _, rfl, rfl, rfl, rfl, rfl, ?_⟩
    | refine ⟨_, _, _, rfl, rfl, rfl, Nat.le_of_ble_eq_true rfl, ?_⟩
    | refine ⟨_, _, rfl, rfl, rfl, ?_⟩
    | refine ⟨_, _, _, rfl, ?_⟩
    | refine ⟨_, _, (by first | exact insD_v | exact insD_o rfl), rfl, ?_⟩
    | refine ⟨_, _, rfl, ?_⟩
    | refine ⟨_, rfl, rfl, ?_⟩
    | refine ⟨_, rfl, Nat.le_of_ble_eq_true rfl, ?_⟩
    | refine ⟨_, (by first | exact lstD_v | exact lstD_o rfl), ?_⟩
    | refine ⟨_, rfl, ?_⟩))
local macro_rules | `(tactic| walk_at "o") => `(tactic| first | with_reducible refine w_lstO ?_ | walk_at "e")
local macro_rules | `(tactic| walk_at "g") => `(tactic| first | walk_at "e" | with_reducible refine s_seq ?_)
local macro_rules | `(tactic| walk_at "n") => `(tactic| (with_reducible refine s_seq ?_); (repeat walk_at "e"))

def sp_is_integer (K : PySem.W.Frag) : SpD := fun ts O P _ => ∃ d b, ts = [.v d] ∧ O = [] ∧ IntQ K d b ∧ P (.v (.bl b)) []
theorem sp_is_integer_len {K : PySem.W.Frag} {ts O P X} (h : sp_is_integer K ts O P X) : ts.length = 1 := by
  obtain ⟨d, b, rfl, _⟩ := h
  rfl
theorem u_is_integer {K : PySem.W.Frag} {P : PT'} {X : XX} {d : D} {b : Bool} (h : IntQ K d b) (k : P (.v (.bl b)) []) : sp_is_integer K [.v d] [] P X := ⟨d, b, rfl, rfl, h, k⟩
/-- whether a value is an integer between two bounds -/
def BtwQ (K : PySem.W.Frag) (d : D) (lo hi : Int) (b : Bool) : Prop := (∃ n, d = .int n ∧ b = (decide (lo ≤ n) && decide (n ≤ hi))) ∨ (IntQ K d false ∧ b = false)
theorem btw_int {K : PySem.W.Frag} {n lo hi : Int} (h1 : lo ≤ n) (h2 : n ≤ hi) : BtwQ K (.int n) lo hi true := .inl ⟨n, rfl, by rw [decide_eq_true h1, decide_eq_true h2] <;> rfl⟩
def sp_is_between (K : PySem.W.Frag) : SpD := fun ts O P _ => ∃ d lo hi b, ts = [.v d, .v (.int lo), .v (.int hi)] ∧ O = [] ∧ BtwQ K d lo hi b ∧ P (.v (.bl b)) []
theorem sp_is_between_len {K : PySem.W.Frag} {ts O P X} (h : sp_is_between K ts O P X) : ts.length = 3 := by
  obtain ⟨d, lo, hi, b, rfl, _⟩ := h
  rfl
theorem u_is_between {K : PySem.W.Frag} {P : PT'} {X : XX} {d : D} {lo hi : Int} {b : Bool} (h : BtwQ K d lo hi b) (k : P (.v (.bl b)) []) : sp_is_between K [.v d, .v (.int lo), .v (.int hi)] [] P X := ⟨d, lo, hi, b, rfl, rfl, h, k⟩
def sp_fits_modulus (K : PySem.W.Frag) : SpD := fun ts O P _ => ∃ d b, ts = [.v d] ∧ O = [] ∧ BtwQ K d 2 1000000000000000000000000000000 b ∧ P (.v (.bl b)) []
theorem sp_fits_modulus_len {K : PySem.W.Frag} {ts O P X} (h : sp_fits_modulus K ts O P X) : ts.length = 1 := by
  obtain ⟨d, b, rfl, _⟩ := h
  rfl
theorem u_fits_modulus {K : PySem.W.Frag} {P : PT'} {X : XX} {d : D} {b : Bool} (h : BtwQ K d 2 1000000000000000000000000000000 b) (k : P (.v (.bl b)) []) : sp_fits_modulus K [.v d] [] P X := ⟨d, b, rfl, rfl, h, k⟩
def sp_binomial (K : PySem.W.Frag) : SpD := fun ts O P _ => ∃ (n : Int) (j : Nat), ts = [.v (.int n), .v (.int j)] ∧ O = [] ∧ j ≤ 12 ∧ n.natAbs + 12 < 2 ^ 230 ∧ P (.v (.int (bin n j))) []
theorem sp_binomial_len {K : PySem.W.Frag} {ts O P X} (h : sp_binomial K ts O P X) : ts.length = 2 := by
  obtain ⟨n, j, rfl, _⟩ := h
  rfl
def sp_power_of (K : PySem.W.Frag) : SpD := fun ts O P _ => ∃ (b t : Nat), ts = [.v (.int b), .v (.int t)] ∧ O = [] ∧ b < 2 ^ 64 ∧ t ≤ 1000 ∧ P (.v (.int (b ^ t : Nat))) []
theorem sp_power_of_len {K : PySem.W.Frag} {ts O P X} (h : sp_power_of K ts O P X) : ts.length = 2 := by
  obtain ⟨b, t, rfl, _⟩ := h
  rfl
def sp_times_in (K : PySem.W.Frag) : SpD := fun ts O P _ => ∃ (n p : Nat), ts = [.v (.int n), .v (.int p)] ∧ O = [] ∧ 1 ≤ n ∧ 2 ≤ p ∧ p < 2 ^ 64 ∧ P (.v (.int (vl p n))) []
theorem sp_times_in_len {K : PySem.W.Frag} {ts O P X} (h : sp_times_in K ts O P X) : ts.length = 2 := by
  obtain ⟨n, p, rfl, _⟩ := h
  rfl
def smD (x : Nat × Nat) : D := .tup [.int x.1, .int x.2]
def sp_small_in (K : PySem.W.Frag) : SpD := fun ts O P _ => ∃ (n m : Nat), ts = [.v (.int n), .v (.int m)] ∧ O = [] ∧ 1 ≤ n ∧ n < 2 ^ 200 ∧ P (.v (.lst ((small n m).map smD))) []
theorem sp_small_in_len {K : PySem.W.Frag} {ts O P X} (h : sp_small_in K ts O P X) : ts.length = 2 := by
  obtain ⟨n, m, rfl, _⟩ := h
  rfl
def sp_great_in (K : PySem.W.Frag) : SpD := fun ts O P _ => ∃ (n m : Nat), ts = [.v (.int n), .v (.int m)] ∧ O = [] ∧ 1 ≤ n ∧ n < 2 ^ 200 ∧ P (.v (.int (great n m))) []
theorem sp_great_in_len {K : PySem.W.Frag} {ts O P X} (h : sp_great_in K ts O P X) : ts.length = 2 := by
  obtain ⟨n, m, rfl, _⟩ := h
  rfl
def sp_combined (K : PySem.W.Frag) : SpD := fun ts O P _ => ∃ (a b : Nat), ts = [.v (.int a), .v (.int b)] ∧ O = [] ∧ a < 2 ^ 200 ∧ b < 2 ^ 200 ∧ P (.v (.tup [.int (Nat.gcd a b), .int (cmb a b).1, .int (cmb a b).2])) []
theorem sp_combined_len {K : PySem.W.Frag} {ts O P X} (h : sp_combined K ts O P X) : ts.length = 2 := by
  obtain ⟨a, b, rfl, _⟩ := h
  rfl

def sp_shared_in (K : PySem.W.Frag) : SpD := fun ts O P _ => ∃ (m : Nat) (ns : List Int), ts = [.v (.int m), .v (.tup (nums ns))] ∧ O = [] ∧ 1 ≤ m ∧ m ≤ 1000000000000000000000000000000 ∧ ns.length ≤ 100 ∧ P (.v (.tup [.int (gcdL m ns), .tup (nums (mulF m ns))])) []
theorem sp_shared_in_len {K : PySem.W.Frag} {ts O P X} (h : sp_shared_in K ts O P X) : ts.length = 2 := by
  obtain ⟨m, ns, rfl, _⟩ := h
  rfl
theorem intQ_int_no {K : PySem.W.Frag} {n : Int} (h : IntQ K (.int n) false) : False := by
  obtain ⟨t, b1, b2, ht, h1, h2, e⟩ := h
  cases ht
  rw [kit_ty (b := "int") (r := true) (by decide +kernel)] at h1
  rw [kit_ty (b := "bool") (r := false) (by decide +kernel)] at h2
  cases h1
  cases h2
  cases e
/-- an integer, or known to be none -/
def Kn (K : PySem.W.Frag) (d : D) : Prop := (∃ n : Int, d = .int n) ∨ IntQ K d false
def KnB (m : Int) (d : D) : Bool := match d with
  | .int n => decide (0 ≤ n) && decide (n ≤ m - 1)
  | _ => false
theorem knB_no {K : PySem.W.Frag} {m : Int} {d : D} (h : IntQ K d false) : KnB m d = false := by
  cases d with
  | int n => exact (intQ_int_no h).elim
  | _ => rfl
theorem kn_btw {K : PySem.W.Frag} {m : Int} {d : D} (h : Kn K d) : BtwQ K d 0 (m - 1) (KnB m d) := by
  rcases h with ⟨n, rfl⟩ | h
  · exact .inl ⟨n, rfl, rfl⟩
  · exact .inr ⟨h, knB_no h⟩
theorem kn_int {K : PySem.W.Frag} (n : Int) : Kn K (.int n) := .inl ⟨n, rfl⟩
def TupNo (K : PySem.W.Frag) (d : D) : Prop := ∃ t, TyD K d t ∧ PySem.W.kitOne K t (.type "tuple") = some false
def MulQ (K : PySem.W.Frag) (d : D) (n m : Int) (b : Bool) : Prop := (TupNo K d ∧ b = false) ∨ (∃ ds : List D, d = .tup ds ∧ ds.length ≤ 1000 ∧ (∀ x ∈ ds, Kn K x) ∧ b = (decide ((ds.length : Int) = n) && ds.all (KnB m)))
def sp_are_multipliers (K : PySem.W.Frag) : SpD := fun ts O P _ => ∃ (d : D) (n m : Int) (b : Bool), ts = [.v d, .v (.int n), .v (.int m)] ∧ O = [] ∧ MulQ K d n m b ∧ P (.v (.bl b)) []
theorem sp_are_multipliers_len {K : PySem.W.Frag} {ts O P X} (h : sp_are_multipliers K ts O P X) : ts.length = 3 := by
  obtain ⟨d, n, m, b, rfl, _⟩ := h
  rfl

open My (V VK mv tr cut dv row diff bin SumOk)
def sumD (K : PySem.W.Frag) (m : Int) (cs : List Int) : D := .ins (He.ga K "Sum") [("modulus", .int m), ("coefs", .tup (nums cs))]
def Sml (b : Nat) (xs : List Int) : Prop := ∀ x ∈ xs, x.natAbs < 2 ^ b
/-- what a sum is handed to be reckoned with: an integer, or a sum -/
def TakeQ (K : PySem.W.Frag) (m : Int) (d : D) (xs : List Int) : Prop := (∃ k : Int, d = .int k ∧ xs = [k] ∧ k.natAbs < 2 ^ 140) ∨ (d = sumD K m xs ∧ SumOk m xs)
theorem TakeQ.sml {K : PySem.W.Frag} {m : Int} {d : D} {xs : List Int} (h : TakeQ K m d xs) : Sml 140 xs := by
  rcases h with ⟨k, _, rfl, hk⟩ | ⟨_, hk⟩
  · intro x hx
    rw [List.mem_singleton.mp hx]
    exact hk
  · intro x hx
    exact Nat.lt_of_lt_of_le (hk.sml x hx) (Nat.pow_le_pow_right (by decide) (by decide))
theorem TakeQ.len {K : PySem.W.Frag} {m : Int} {d : D} {xs : List Int} (h : TakeQ K m d xs) : xs.length ≤ 13 := by
  rcases h with ⟨k, _, rfl, hk⟩ | ⟨_, hk⟩
  · exact (by decide : 1 ≤ 13)
  · exact hk.len
def sp_s_trimmed (K : PySem.W.Frag) : SpD := fun ts O P _ => ∃ (m : Int) (xs : List Int), ts = [.v (.int m), .v (.tup (nums xs))] ∧ O = [] ∧ 2 ≤ m ∧ xs.length ≤ 100 ∧ P (.v (.tup (nums (tr m xs)))) []
theorem sp_s_trimmed_len {K : PySem.W.Frag} {ts O P X} (h : sp_s_trimmed K ts O P X) : ts.length = 2 := by
  obtain ⟨m, xs, rfl, _⟩ := h
  rfl
def sp_s_init (K : PySem.W.Frag) : SpD := fun ts O P _ => ∃ (m : Int) (xs : List Int), ts = [.own 0, .v (.int m), .v (.tup (nums xs))] ∧ O = [.ins (He.ga K "Sum") []] ∧ 2 ≤ m ∧ m ≤ 1000000000000000000000000000000 ∧ xs.length ≤ 13 ∧ P (.v .non) [.ins (He.ga K "Sum") [("modulus", .int m), ("coefs", .tup (nums (tr m xs)))]]
theorem unv_nums : ∀ xs : List Int, unv ((nums xs).map T.v ++ []) = some (nums xs) := fun xs => by
  have := unv_vs (ds := nums xs) (ys := []) (es := []) rfl
  rwa [List.append_nil (nums xs)] at this
/-- Sum(m, ..) -/
theorem u_make {K : PySem.W.Frag} {P : PT'} {O : List OD} {m : Int} (xs : List Int) (m1 : 2 ≤ m) (m2 : m ≤ 1000000000000000000000000000000) (hl : xs.length ≤ 13) (k : P (.v (sumD K m (tr m xs))) O) :
    ∃ ds, unv (.v (.int m) :: ((nums xs).map T.v ++ [])) = some ds ∧ 1 ≤ ds.length ∧ ds.length ≤ 1000000 ∧ sp_s_init K (.own 0 :: ((ds.take 1).map T.v ++ [.v (.tup (ds.drop 1))])) [.ins (He.ga K "Sum") []] (fun t O' => t = .v .non ∧ ∃ fs, O' = [.ins (He.ga K "Sum") fs] ∧ P (.v (.ins (He.ga K "Sum") fs)) O) (fun _ _ _ => False) := by
  refine ⟨.int m :: nums xs, ?_, ?_, ?_, m, xs, rfl, rfl, m1, m2, hl, rfl, _, rfl, k⟩
  · show (unv ((nums xs).map T.v ++ [])).map (D.int m :: ·) = _
    rw [unv_nums] <;> rfl
  · rw [List.length_cons]
    omega
  · rw [List.length_cons, nums_len]
    omega
theorem u_init {K : PySem.W.Frag} {Q : List (Str × D) → Prop} {m : Int} (xs : List Int) (m1 : 2 ≤ m) (m2 : m ≤ 1000000000000000000000000000000) (hl : xs.length ≤ 13) (k : Q [("modulus", .int m), ("coefs", .tup (nums (tr m xs)))]) :
    sp_s_init K [.own 0, .v (.int m), .v (.tup (nums xs))] [.ins (He.ga K "Sum") []] (fun t O' => t = .v .non ∧ ∃ fs, O' = [.ins (He.ga K "Sum") fs] ∧ Q fs) (fun _ _ _ => False) := ⟨m, xs, rfl, rfl, m1, m2, hl, rfl, _, rfl, k⟩
theorem nums_last {zs : List Int} {z : Int} : (nums (zs ++ [z]))[(nums (zs ++ [z])).length - 1]? = some (.int z) := by
  rw [← nums_app, List.length_append, List.length_singleton, Nat.add_sub_cancel, List.getElem?_append_right (Nat.le_refl _), Nat.sub_self] <;> rfl
theorem nums_pop {zs : List Int} {z : Int} : (nums (zs ++ [z])).dropLast = nums zs := by
  rw [← nums_app, List.dropLast_concat]
theorem nums_drop {xs : List Int} {n : Nat} : (nums xs).drop n = nums (xs.drop n) := by
  unfold nums
  rw [List.map_drop]
theorem max_len (n : Nat) : (if ((n : Nat) : Int) - 1 > 0 then ((n : Nat) : Int) - 1 else 0) = ((n - 1 : Nat) : Int) := by
  by_cases h : ((n : Nat) : Int) - 1 > 0
  · rw [if_pos h]
    omega
  · rw [if_neg h]
    omega
def sp_s_deg (K : PySem.W.Frag) : SpD := fun ts O P _ => ∃ (m : Int) (cs : List Int), ts = [.v (sumD K m cs)] ∧ O = [] ∧ P (.v (.int ((cs.length - 1 : Nat) : Int))) []
theorem sp_s_deg_len {K : PySem.W.Frag} {ts O P X} (h : sp_s_deg K ts O P X) : ts.length = 1 := by
  obtain ⟨m, cs, rfl, _⟩ := h
  rfl
theorem cut_tail (cs : List Int) : cutD (nums cs) (some 1) none = nums (cs.drop 1) := by
  cases cs with
  | nil => rfl
  | cons c r => exact (cutD_drop (n := 1) (by rw [nums_len, List.length_cons]; omega)).trans nums_drop
theorem atI_getD {xs : List Int} {i : Nat} (h : i < xs.length) : atI (nums xs) (i : Int) = some (.int (xs.getD i 0)) := by
  obtain ⟨x, h1, h2⟩ := atI_nums (ns := xs) (i := (i : Int)) (by omega) (by omega)
  rw [h1, List.getD_eq_getElem?_getD, show xs[i]? = some x from h2] <;> rfl
theorem getD_out {xs : List Int} {i : Nat} (h : xs.length ≤ i) : xs.getD i 0 = 0 := by
  rw [List.getD_eq_getElem?_getD, List.getElem?_eq_none h] <;> rfl
theorem getD_sml {b : Nat} {xs : List Int} (h : Sml b xs) (i : Nat) : (xs.getD i 0).natAbs < 2 ^ b := by
  by_cases hi : i < xs.length
  · rw [List.getD_eq_getElem?_getD, List.getElem?_eq_getElem hi]
    exact h _ (List.getElem_mem hi)
  · rw [getD_out (by omega)]
    exact Nat.two_pow_pos b
def sumRows (cs : List Int) : List Str := if cs = [] then ["0"] else cs.map fun c => Str.ofString (toString c)
theorem sumRows_len {cs : List Int} (h : ∀ c ∈ cs, Sm c) (hl : cs.length ≤ 13) : ((sumRows cs).map (·.length)).sum ≤ 2700 ∧ (sumRows cs).length ≤ 13 := by
  unfold sumRows
  by_cases h0 : cs = []
  · rw [if_pos h0]
    exact ⟨by decide, by decide⟩
  · rw [if_neg h0]
    have := texts_len h
    rw [List.length_map]
    exact ⟨by omega, hl⟩
theorem join_le (sep : Str) (ys : List Str) : (Txt.join sep ys).length ≤ (ys.map (·.length)).sum + ys.length * sep.length := by
  unfold Txt.join
  rw [StrLaws.glued_eq_join]
  exact StrLaws.join_length_le sep ys
def wd (ws : List Str) (k : Nat) : List (Str × D) := [("line", .int 0), ("words", .lst (ws.map D.str)), ("read_so_far", .int (k : Nat))]
def wdO (K : PySem.W.Frag) (ws : List Str) (k : Nat) : OD := .ins (He.ga K "Words") (wd ws k)
def sp_w_written (K : PySem.W.Frag) : SpD := fun ts O P _ => ∃ n : Nat, ts = [.v (.str (numS n))] ∧ O = [] ∧ n < 10 ^ 40 ∧ P (.v (.bl true)) []
theorem sp_w_written_len {K : PySem.W.Frag} {ts O P X} (h : sp_w_written K ts O P X) : ts.length = 1 := by
  obtain ⟨n, rfl, _⟩ := h
  rfl
def sp_w_init (K : PySem.W.Frag) : SpD := fun ts O P _ => ∃ t : Str, ts = [.own 0, .v (.int 0), .v (.str t)] ∧ O = [.ins (He.ga K "Words") []] ∧ t.length + 2 ≤ sizeLine ∧ P (.v .non) [wdO K (Txt.split t " ") 0]
theorem sp_w_init_len {K : PySem.W.Frag} {ts O P X} (h : sp_w_init K ts O P X) : ts.length = 3 := by
  obtain ⟨t, rfl, _⟩ := h
  rfl
def orNon : Option Str → D
  | some w => .str w
  | none => .non
def sp_w_next (K : PySem.W.Frag) : SpD := fun ts O P _ => ∃ (ws : List Str) (k : Nat), ts = [.own 0] ∧ O = [wdO K ws k] ∧ P (.v (orNon ws[k]?)) [wdO K ws k]
theorem sp_w_next_len {K : PySem.W.Frag} {ts O P X} (h : sp_w_next K ts O P X) : ts.length = 1 := by
  obtain ⟨ws, k, rfl, _⟩ := h
  rfl
def sp_w_refuse (K : PySem.W.Frag) : SpD := fun ts O P _ => ts.length = 1 ∧ False
theorem sp_w_refuse_len {K : PySem.W.Frag} {ts O P X} (h : sp_w_refuse K ts O P X) : ts.length = 1 := h.1
def sp_w_word (K : PySem.W.Frag) : SpD := fun ts O P _ => ∃ (ws : List Str) (k : Nat) (w : Str) (menu : List Str), ts = [.own 0, .v (.tup (menu.map D.str))] ∧ O = [wdO K ws k] ∧ ws[k]? = some w ∧ inV (.str w) (menu.map L2.V.str) = true ∧ P (.v (.str w)) [wdO K ws (k + 1)]
theorem sp_w_word_len {K : PySem.W.Frag} {ts O P X} (h : sp_w_word K ts O P X) : ts.length = 2 := by
  obtain ⟨ws, k, w, menu, rfl, _⟩ := h
  rfl
def sp_w_number (K : PySem.W.Frag) : SpD := fun ts O P _ => ∃ (ws : List Str) (k : Nat) (n : Nat) (lo hi : Int), ts = [.own 0, .v (.int lo), .v (.int hi)] ∧ O = [wdO K ws k] ∧ ws[k]? = some (numS n) ∧ n < 10 ^ 40 ∧ lo ≤ n ∧ (n : Int) ≤ hi ∧ P (.v (.int (n : Nat))) [wdO K ws (k + 1)]
theorem sp_w_number_len {K : PySem.W.Frag} {ts O P X} (h : sp_w_number K ts O P X) : ts.length = 3 := by
  obtain ⟨ws, k, n, lo, hi, rfl, _⟩ := h
  rfl
def sp_w_end (K : PySem.W.Frag) : SpD := fun ts O P _ => ∃ (ws : List Str) (k : Nat), ts = [.own 0] ∧ O = [wdO K ws k] ∧ ws.length ≤ k ∧ P (.v .non) [wdO K ws k]
theorem sp_w_end_len {K : PySem.W.Frag} {ts O P X} (h : sp_w_end K ts O P X) : ts.length = 1 := by
  obtain ⟨ws, k, rfl, _⟩ := h
  rfl

def textOf (m : Int) (cs : List Int) : Str := (("modulo " : Str) ++ Str.ofString (toString m) ++ (" : " : Str)) ++ Txt.join (" " : Str) (sumRows cs)
/-- the coefficients as they are written -/
def wrote (cs : List Int) : List Nat := if cs = [] then [0] else cs.map Int.toNat
theorem numS_of {c : Int} (h : 0 ≤ c) : Str.ofString (toString c) = numS c.toNat := by
  unfold numS
  rw [Int.toNat_of_nonneg h]
theorem wrote_rows {cs : List Int} (h : ∀ c ∈ cs, 0 ≤ c) : sumRows cs = (wrote cs).map numS := by
  unfold sumRows wrote
  by_cases h0 : cs = []
  · rw [if_pos h0, if_pos h0]
    show [("0" : Str)] = [numS 0]
    rw [numS_zero]
  · rw [if_neg h0, if_neg h0, List.map_map]
    exact List.map_congr_left fun c hc => numS_of (h c hc)
theorem split_text {m : Int} (hm : 0 ≤ m) {ws : List Str} (hne : ws ≠ []) (hf : ∀ w ∈ ws, 32 ∉ TL.tl w) : Txt.split ((("modulo " : Str) ++ Str.ofString (toString m) ++ (" : " : Str)) ++ Txt.join (" " : Str) ws) (" " : Str) = ("modulo" : Str) :: numS m.toNat :: (":" : Str) :: ws := by
  have e32 : TL.tl (" " : Str) = [32] := by decide +kernel
  have e : ((("modulo " : Str) ++ Str.ofString (toString m) ++ (" : " : Str)) ++ Txt.join (" " : Str) ws) = Txt.join (" " : Str) (("modulo" : Str) :: numS m.toNat :: (":" : Str) :: ws) := by
    refine TL.ext_tl ?_
    rw [TL.tl_append, TL.tl_append, TL.tl_append, TL.join_eq, TL.join_eq, TL.tl_join, TL.tl_join, numS_of hm, e32]
    cases ws with
    | nil => exact absurd rfl hne
    | cons w r =>
      show _ = TL.tl "modulo" ++ ([32] ++ (TL.tl (numS m.toNat) ++ ([32] ++ (TL.tl ":" ++ ([32] ++ TL.joinL [32] ((w :: r).map TL.tl))))))
      rw [show TL.tl "modulo " = TL.tl "modulo" ++ [32] by decide +kernel, show TL.tl " : " = [32] ++ (TL.tl ":" ++ [32]) by decide +kernel]
      simp only [List.append_assoc]
  rw [e]
  refine TL.split_join (s := 32) (S := []) e32 (by decide +kernel) (by intro z; cases z) fun w hw => ?_
  rcases List.mem_cons.mp hw with rfl | hw
  · decide +kernel
  rcases List.mem_cons.mp hw with rfl | hw
  · exact numS_free _
  rcases List.mem_cons.mp hw with rfl | hw
  · decide +kernel
  exact hf w hw
theorem split_textOf {m : Int} {cs : List Int} (ok : SumOk m cs) : Txt.split (textOf m cs) (" " : Str) = ("modulo" : Str) :: numS m.toNat :: (":" : Str) :: (wrote cs).map numS := by
  have h2 := ok.two
  unfold textOf
  rw [wrote_rows fun c hc => (ok.inr c hc).1]
  refine split_text (by omega) ?_ fun w hw => ?_
  · unfold wrote
    by_cases h0 : cs = []
    · rw [if_pos h0]
      exact fun z => by cases z
    · rw [if_neg h0]
      exact fun z => h0 (List.map_eq_nil_iff.mp (List.map_eq_nil_iff.mp z))
  · obtain ⟨n, _, rfl⟩ := List.mem_map.mp hw
    exact numS_free n
def sp_w_coefs (K : PySem.W.Frag) : SpD := fun ts O P _ => ∃ (pre : List Str) (m : Int) (ns : List Nat), ts = [.own 0, .v (.int m)] ∧ O = [wdO K (pre ++ ns.map numS) pre.length] ∧ ns ≠ [] ∧ ns.length ≤ 13 ∧ m ≤ 1000000000000000000000000000000 ∧ (∀ n ∈ ns, (n : Int) < m) ∧ (1 < ns.length → ns.getLast? ≠ some 0) ∧ P (.v (.lst (nums (ns.map fun n : Nat => (n : Int))))) [wdO K (pre ++ ns.map numS) (pre.length + ns.length)]
theorem sp_w_coefs_len {K : PySem.W.Frag} {ts O P X} (h : sp_w_coefs K ts O P X) : ts.length = 2 := by
  obtain ⟨pre, m, ns, rfl, _⟩ := h
  rfl
def sp_s_read (K : PySem.W.Frag) : SpD := fun ts O P _ => ∃ (m : Int) (cs : List Int), ts = [.v (.str (textOf m cs))] ∧ O = [] ∧ SumOk m cs ∧ P (.v (sumD K m cs)) []
theorem sp_s_read_len {K : PySem.W.Frag} {ts O P X} (h : sp_s_read K ts O P X) : ts.length = 1 := by
  obtain ⟨m, cs, rfl, _⟩ := h
  rfl
theorem textOf_len {m : Int} {cs : List Int} (ok : SumOk m cs) : (textOf m cs).length ≤ 4000 := by
  have ok1 := ok.two
  have ok2 := ok.most
  have sm : ∀ c ∈ cs, Sm c := fun c hc => Nat.lt_of_lt_of_le (ok.sml c hc) (Nat.pow_le_pow_right (by decide) (by decide))
  have smm : Sm m := by unfold Sm; omega
  obtain ⟨r1, r2⟩ := sumRows_len sm ok.len
  have t1 := text_len smm
  have j1 := join_le (" " : Str) (sumRows cs)
  have e1 : (" " : Str).length = 1 := by decide
  have e7 : ("modulo " : Str).length = 7 := by decide
  have e3 : (" : " : Str).length = 3 := by decide
  rw [e1] at j1
  unfold textOf
  rw [Str.length_append, Str.length_append, Str.length_append, e7, e3]
  omega
theorem get_pre {pre : List Str} {ns : List Nat} {i n : Nat} (h : ns[i]? = some n) : (pre ++ ns.map numS)[pre.length + i]? = some (numS n) := by
  rw [List.getElem?_append_right (by omega), Nat.add_sub_cancel_left, List.getElem?_map, h] <;> rfl

def sp_p_need (K : PySem.W.Frag) : SpD := fun ts O P _ => ∃ (m : Int) (cs : List Int), ts = [.v (sumD K m cs)] ∧ O = [] ∧ P (.v .non) []
theorem sp_p_need_len {K : PySem.W.Frag} {ts O P X} (h : sp_p_need K ts O P X) : ts.length = 1 := by
  obtain ⟨m, cs, rfl, _⟩ := h
  rfl
def sp_p_leftin (K : PySem.W.Frag) : SpD := fun ts O P _ => ∃ (cs : List Int) (r : Nat) (N : Int), ts = [.v (.tup (nums cs)), .v (.int (r : Nat)), .v (.int N)] ∧ O = [] ∧ cs.length ≤ 13 ∧ Sml 140 cs ∧ r < 1000 ∧ N.natAbs + 12 < 2 ^ 230 ∧ P (.v (.int (My.rowL cs r N))) []
theorem sp_p_leftin_len {K : PySem.W.Frag} {ts O P X} (h : sp_p_leftin K ts O P X) : ts.length = 3 := by
  obtain ⟨cs, r, N, rfl, _⟩ := h
  rfl
theorem sc_is_integer : FnScope ["value"] ["value"] (defScope (top 4)) := ⟨rfl, rfl, rfl, by decide +kernel, rfl, by decide +kernel, by decide +kernel⟩
theorem ok_is_integer {P : Program} {w : World} {K : PySem.W.Frag} {mg : Str → Option Value} {base : Heap} (T : Tx K mg)  : Fn P w K mg base 1 (He.fAd K ("is_integer", none)) ["value"] (sp_is_integer K) := by
  obtain ⟨fd, F⟩ := T.d_is_integer
  refine ⟨fd, F.ok sc_is_integer (lift_len ?_) (fun cdv A outer s H vs Q E hr h => ?_), F.bindsN fun _ _ _ _ _ _ us hl => (match us, hl with | [_], _ => rfl), F.kp, lk_of F⟩
  · intro ts O P X h
    exact sp_is_integer_len h
  · have hu := hr.units
    refine ⟨_, (PSs.nox (pss_one (ps_ret (pe_and (pe_callB (call_isiK K) (by rfl) T.n_isinstance boot_isinstance (pa_cons (pv 0) (pa_cons (pe_bltn (v := .ty "int") (by rfl) T.n_int boot_int rfl) pa_nil))) (pe_one (pe_not (pe_callB (call_isiK K) (by rfl) T.n_isinstance boot_isinstance (pa_cons (pv 0) (pa_cons (pe_bltn (v := .ty "bool") (by rfl) T.n_bool boot_bool rfl) pa_nil))))))))), enter h fun ts O P X h _ => ?_⟩
    try dsimp only [cxOf, Cx.nox, Cx.wish]
    
    obtain ⟨d, b, rfl, rfl, ⟨t, b1, b2, ht, h1, h2, rfl⟩, p⟩ := h
    show WS _ _ _ _ [.v d] _
    repeat walk_at "g"
    refine c_isi ht (.ty _) h1 ?_
    refine ⟨_, rfl, fun e => ?_, fun e => ?_⟩
    · subst e
      repeat walk_at "g"
      refine c_isi ht (.ty _) h2 ?_
      refine ⟨_, rfl, ?_⟩
      exact ⟨rfl, p⟩
    · subst e
      exact ⟨rfl, p⟩
theorem sc_is_between : FnScope ["value", "low", "high"] ["value", "low", "high"] (defScope (top 5)) := ⟨rfl, rfl, rfl, by decide +kernel, rfl, by decide +kernel, by decide +kernel⟩
theorem ok_is_between {P : Program} {w : World} {K : PySem.W.Frag} {mg : Str → Option Value} {base : Heap} (T : Tx K mg) (h_is_integer : Fn P w K mg base 1 (He.fAd K ("is_integer", none)) ["value"] (sp_is_integer K)) : Fn P w K mg base 2 (He.fAd K ("is_between", none)) ["value", "low", "high"] (sp_is_between K) := by
  obtain ⟨_, F_is_integer, b_is_integer, kp_is_integer, lk_is_integer⟩ := h_is_integer
  obtain ⟨fd, F⟩ := T.d_is_between
  refine ⟨fd, F.ok sc_is_between (lift_len ?_) (fun cdv A outer s H vs Q E hr h => ?_), F.bindsN fun _ _ _ _ _ _ us hl => (match us, hl with | [_, _, _], _ => rfl), F.kp, lk_of F⟩
  · intro ts O P X h
    exact sp_is_between_len h
  · have hu := hr.units
    refine ⟨_, (PSs.nox (pss_one (ps_ret (pe_and (pe_call F_is_integer (hr.mono (by decide)) (by rfl) T.g_is_integer kp_is_integer b_is_integer .nil passL (pa_cons (pv 0) pa_nil)) (pe_one (pe_chain op_le op_le (pv 1) (pv 0) (pv 2))))))), enter h fun ts O P X h _ => ?_⟩
    try dsimp only [cxOf, Cx.nox, Cx.wish]
    
    obtain ⟨d, lo, hi, b, rfl, rfl, hb, p⟩ := h
    show WS _ _ _ _ [.v d, .v (.int lo), .v (.int hi)] _
    repeat walk_at "g"
    rcases hb with ⟨n, rfl, rfl⟩ | ⟨hd, rfl⟩
    · refine u_is_integer intQ_int ⟨⟨_, rfl⟩, ?_⟩
      refine ⟨_, rfl, tt_ ?_⟩
      repeat walk_at "g"
      refine br (fun h1 => ?_) (fun h1 => ?_)
      · repeat walk_at "g"
        rw [decide_eq_true h1, Bool.true_and] at p
        exact ⟨rfl, p⟩
      · rw [decide_eq_false h1, Bool.false_and] at p
        exact ⟨rfl, p⟩
    · refine u_is_integer hd ⟨⟨_, rfl⟩, ?_⟩
      refine ⟨_, rfl, ff_ ?_⟩
      exact ⟨rfl, p⟩
theorem sc_fits_modulus : FnScope ["value"] ["value"] (defScope (top 6)) := ⟨rfl, rfl, rfl, by decide +kernel, rfl, by decide +kernel, by decide +kernel⟩
theorem ok_fits_modulus {P : Program} {w : World} {K : PySem.W.Frag} {mg : Str → Option Value} {base : Heap} (T : Tx K mg) (h_is_between : Fn P w K mg base 2 (He.fAd K ("is_between", none)) ["value", "low", "high"] (sp_is_between K)) : Fn P w K mg base 3 (He.fAd K ("fits_modulus", none)) ["value"] (sp_fits_modulus K) := by
  obtain ⟨_, F_is_between, b_is_between, kp_is_between, lk_is_between⟩ := h_is_between
  obtain ⟨fd, F⟩ := T.d_fits_modulus
  obtain ⟨_, T_i_MOST_MODULUS⟩ := T.i_MOST_MODULUS_
  refine ⟨fd, F.ok sc_fits_modulus (lift_len ?_) (fun cdv A outer s H vs Q E hr h => ?_), F.bindsN fun _ _ _ _ _ _ us hl => (match us, hl with | [_], _ => rfl), F.kp, lk_of F⟩
  · intro ts O P X h
    exact sp_fits_modulus_len h
  · have hu := hr.units
    refine ⟨_, (PSs.nox (pss_one (ps_ret (pe_call F_is_between (hr.mono (by decide)) (by rfl) T.g_is_between kp_is_between b_is_between .nil passL (pa_cons (pv 0) (pa_cons pe_int (pa_cons (pe_glob (v := .int 1000000000000000000000000000000) (by rfl) T_i_MOST_MODULUS ⟨_, rfl⟩) pa_nil))))))), enter h fun ts O P X h _ => ?_⟩
    try dsimp only [cxOf, Cx.nox, Cx.wish]
    
    obtain ⟨d, b, rfl, rfl, hb, p⟩ := h
    show WS _ _ _ _ [.v d] _
    repeat walk_at "g"
    refine u_is_between hb ⟨⟨_, rfl⟩, ?_⟩
    exact ⟨rfl, p⟩
theorem sc_law_pen : FnScope ["_law_script"] ["_law_script"] (defScope (top 57)) := ⟨rfl, rfl, rfl, by decide +kernel, rfl, by decide +kernel, by decide +kernel⟩
theorem ok_law_pen {P : Program} {w : World} {K : PySem.W.Frag} {mg : Str → Option Value} {base : Heap} (T : Tx K mg)  : FnRaw P w K mg base 1 (He.fAd K ("_law_pen", none)) ["_law_script"] (penSp K 63) := by
  obtain ⟨fd, F⟩ := T.d_law_pen
  refine ⟨fd, F.ok sc_law_pen ?_ (fun cdv A outer s H vs Q E hr h => ?_), F.bindsN fun _ _ _ _ _ _ us hl => (match us, hl with | [_], _ => rfl), F.kp, lk_of F⟩
  · intro vs H Q E h
    exact penSp_len h
  · have hu := hr.units
    refine ⟨_, (PSs.nox (pss_one (ps_ret (pe_lst (pa_cons (pe_callTy (cr_listK K) (by rfl) T.n_list boot_list (pa_cons (pe_slice (sl_listK K) (pv 0) po_none (po_some pe_int)) pa_nil)) (pa_cons pe_int (pa_cons pe_int pa_nil))))))), ?_⟩
    try dsimp only [cxOf, Cx.nox, Cx.wish]
    
    obtain ⟨a, cs, rfl, hs, q⟩ := h
    refine ⟨.ref a, rfl, 63, rfl, a, _, rfl, hs, fun s0 e0 => ⟨s0, _, rfl, .inl (SqL.of upd_same), fun l e1 => ⟨Nat.le_of_ble_eq_true rfl, fun p e2 => q s0 l p e0 e1 e2⟩⟩⟩
theorem sc_law_draw : FnScope ["_law_pen_here", "_law_many", "_law_digit", "_law_at", "_law_cell", "_law_great", "_law_mixed"] ["_law_pen_here", "_law_many"] (defScope (top 58)) := ⟨rfl, rfl, rfl, by decide +kernel, rfl, by decide +kernel, by decide +kernel⟩
theorem ok_law_draw {P : Program} {w : World} {K : PySem.W.Frag} {mg : Str → Option Value} {base : Heap} (T : Tx K mg)  : Fn P w K mg base 1 (He.fAd K ("_law_draw", none)) ["_law_pen_here", "_law_many"] (sp_draw K) := by
  obtain ⟨fd, F⟩ := T.d_law_draw
  refine ⟨fd, F.ok sc_law_draw (lift_len ?_) (fun cdv A outer s H vs Q E hr h => ?_), F.bindsN fun _ _ _ _ _ _ us hl => (match us, hl with | [_, _], _ => rfl), F.kp, lk_of F⟩
  · intro ts O P X h
    exact sp_draw_len h
  · have hu := hr.units
    refine ⟨_, (PSs.nox (pss_cons (ps_if (pt_cmpR op_gt (pe_ix (ix_listK K) (pv 0) pe_int (fun _ _ => rfl)) pe_int (nomark _))
    (pss_cons (ps_set (i := 2) sc_law_draw.nd rfl (.inl rfl) (pe_op op_mod (pe_callTy call_int1 (by rfl) T.n_int boot_int (pa_cons (pe_ix (ix_listK K) (pv 0) pe_int (fun _ _ => rfl)) pa_nil)) (pv 1)))
    (pss_cons (ps_asg (pe_op op_fdivW (pe_callTy call_int1 (by rfl) T.n_int boot_int (pa_cons (pe_ix (ix_listK K) (pv 0) pe_int (fun _ _ => rfl)) pa_nil)) (pv 1)) (pg_sub (pv 0) pe_int set_list))
    (pss_one (ps_ret (pv 2)))))
    pss_nil)
    (pss_cons (ps_set (i := 3) sc_law_draw.nd rfl (.inl rfl) (pe_ix (ix_listK K) (pv 0) pe_int (fun _ _ => rfl)))
    (pss_cons (ps_asg (pe_op op_add (pv 3) pe_int) (pg_sub (pv 0) pe_int set_list))
    (pss_cons (ps_set (i := 4) sc_law_draw.nd rfl (.inl rfl) (pe_op op_add (pe_op op_mul pe_int (pv 3)) pe_int))
    (pss_cons (ps_if (pt_cmpR (op_neDK K hu) (pe_ix (ix_listK K) (pv 0) pe_int (fun _ _ => rfl)) (pe_lst pa_nil) (nomark _))
    (pss_one (ps_set (i := 4) sc_law_draw.nd rfl (.inl rfl) (pe_ix (ix_listK K) (pe_ix (ix_listK K) (pv 0) pe_int (fun _ _ => rfl)) (pe_op op_mod (pe_callTy call_int1 (by rfl) T.n_int boot_int (pa_cons (pv 3) pa_nil)) (pe_callB (cr_lenK K) (by rfl) T.n_len boot_len (pa_cons (pe_ix (ix_listK K) (pv 0) pe_int (fun _ _ => rfl)) pa_nil))) (fun _ _ => rfl))))
    pss_nil)
    (pss_cons (ps_if (PW.pt (pw_and (pt_cmpR op_lt (pv 3) (pe_callB (cr_lenK K) (by rfl) T.n_len boot_len (pa_cons (pe_ix (ix_listK K) (pv 0) pe_int (fun _ _ => rfl)) pa_nil)) (nomark _)) (pw_and1 (pt_cmpR op_ge (pe_callB call_abs (by rfl) T.n_abs boot_abs (pa_cons (pv 4) pa_nil)) (pe_op op_pow pe_int pe_int) (nomark _)))))
    (pss_cons (ps_set (i := 5) sc_law_draw.nd rfl (.inl rfl) (pe_op op_add (pe_op op_mul pe_int (pe_op op_sub (pe_callB call_abs (by rfl) T.n_abs boot_abs (pa_cons (pv 4) pa_nil)) (pe_op op_pow pe_int pe_int))) (pe_callTy call_int1 (by rfl) T.n_int boot_int (pa_cons (pe_cmpR op_lt (pv 4) pe_int (nomark _)) pa_nil))))
    (pss_cons (ps_asg (pe_op op_fdivW (pe_callTy call_int1 (by rfl) T.n_int boot_int (pa_cons (pv 5) pa_nil)) (pv 1)) (pg_sub (pv 0) pe_int set_list))
    (pss_one (ps_ret (pe_op op_mod (pe_callTy call_int1 (by rfl) T.n_int boot_int (pa_cons (pv 5) pa_nil)) (pv 1))))))
    pss_nil)
    (pss_cons (ps_set (i := 6) sc_law_draw.nd rfl (.inl rfl) (pe_op op_mod (pe_callTy call_int1 (by rfl) T.n_int boot_int (pa_cons (pe_op op_pow (pe_op op_add (pe_op op_add (pe_op op_mod (pe_callTy call_int1 (by rfl) T.n_int boot_int (pa_cons (pv 4) pa_nil)) pe_int) (pe_op op_mul pe_int (pv 3))) pe_int) pe_int) pa_nil)) pe_int))
    (pss_cons (ps_set (i := 6) sc_law_draw.nd rfl (.inl rfl) (pe_op op_mod (pe_callTy call_int1 (by rfl) T.n_int boot_int (pa_cons (pe_op op_pow (pe_op op_add (pe_op op_add (pe_op op_mulW (pv 6) (pe_op op_add (pe_op op_mul pe_int (pv 3)) pe_int)) (pe_op op_mulW (pe_op op_mul pe_int (pv 3)) (pv 3))) pe_int) pe_int) pa_nil)) pe_int))
    (pss_one (ps_ret (pe_op op_mod (pe_callTy call_int1 (by rfl) T.n_int boot_int (pa_cons (pe_op op_fdivW (pv 6) pe_int) pa_nil)) (pv 1))))))))))))), enter h fun ts O P X h _ => ?_⟩
    try dsimp only [cxOf, Cx.nox, Cx.wish]
    
    obtain ⟨n, p, m, rfl, rfl, hp, hn, h1, h2, k⟩ := h
    obtain ⟨cs, at_, g, rfl, ha, han, hg⟩ := hp
    show WS _ _ _ _ [.own 0, .v (.int m), .no, .no, .no, .no, .no] _
    repeat walk_at "g"
    refine br (fun hgt => ?_) (fun hgt => ?_)
    · repeat walk_at "g"
      exact ⟨rfl, k _ _ ⟨cs, at_, g / m, rfl, ha, by omega, Int.ediv_nonneg hg (by omega)⟩ (Int.emod_nonneg _ (by omega)) (Int.emod_lt_of_pos _ (by omega))⟩
    · repeat walk_at "e"
      walk_at "n"
      walk_at "n"
      walk_at "n"
      refine s_cut (fun ts' O' => ∃ c, ts' = [.own 0, .v (.int m), .no, .v (.int at_), .v (.int c), .no, .no] ∧ O' = [.lst [.lst (nums cs), .int (at_ + 1), .int g]]) ?_ ?_
      · repeat walk_at "g"
        refine w_neD valD_v valD_v pl_numsL pl_nilL ?_
        rw [eqD_nilL]
        refine ⟨_, rfl, nbr (fun hc => ?_) (fun hc => ?_)⟩
        · repeat walk_at "g"
          have hl : (0 : Int) < (nums cs).length := by
            rw [nums_len]
            have := List.length_pos_iff.mpr hc
            omega
          repeat walk_at "g"
          obtain ⟨x, hx, _⟩ := atI_nums (ns := cs) (i := at_ % ((nums cs).length : Int)) (Int.emod_nonneg _ (by omega)) (by rw [← nums_len]; exact Int.emod_lt_of_pos _ hl)
          refine w_ixL lstD_v hx ?_
          exact ⟨_, rfl, rfl⟩
        · repeat walk_at "g"
          exact rfl
      · rintro _ _ ⟨c, rfl, rfl⟩
        refine s_cut (fun ts' O' => ts' = [.own 0, .v (.int m), .no, .v (.int at_), .v (.int c), .no, .no] ∧ O' = [.lst [.lst (nums cs), .int (at_ + 1), .int g]]) ?_ ?_
        · repeat walk_at "e"
          refine br (fun _ => ?_) (fun _ => ff_ ?_)
          · repeat walk_at "e"
            refine br (fun hc => ?_) (fun _ => ?_)
            · repeat walk_at "g"
              have hgr : 0 ≤ 2 * ((if c < 0 then -c else c) - 10 ^ Int.toNat 18) + (if decide (c < 0) = true then 1 else 0) := by
                have e18 : (10 : Int) ^ Int.toNat 18 = 1000000000000000000 := by decide
                rw [e18] at hc ⊢
                split <;> split <;> omega
              exact ⟨rfl, k _ _ ⟨cs, at_ + 1, _, rfl, by omega, by omega, Int.ediv_nonneg hgr (by omega)⟩ (Int.emod_nonneg _ (by omega)) (Int.emod_lt_of_pos _ (by omega))⟩
            · repeat walk_at "e"
              exact ⟨rfl, rfl⟩
          · repeat walk_at "e"
            exact ⟨rfl, rfl⟩
        · rintro _ _ ⟨rfl, rfl⟩
          refine s_cut (fun ts' O' => ∃ x, 0 ≤ x ∧ x < 2147483587 ∧ ts' = [.own 0, .v (.int m), .no, .v (.int at_), .v (.int c), .no, .v (.int x)] ∧ O' = [.lst [.lst (nums cs), .int (at_ + 1), .int g]]) ?_ ?_
          · repeat walk_at "e"
            exact ⟨_, Int.emod_nonneg _ (by decide), Int.emod_lt_of_pos _ (by decide), rfl, rfl⟩
          · rintro _ _ ⟨x, hx0, hx1, rfl, rfl⟩
            have b1 := mulB (x := x) (y := 2 * at_ + 179) hx0 (Int.le_of_lt hx1) (by omega) (show 2 * at_ + 179 ≤ 2000000 + 179 by omega)
            have b2 := mulB (x := 52679 * at_) (y := at_) (by omega) (show 52679 * at_ ≤ 52679 * 1000000 by omega) ha (show at_ ≤ 1000000 by omega)
            refine s_cut (fun ts' O' => ∃ x, 0 ≤ x ∧ x < 2147483563 ∧ ts' = [.own 0, .v (.int m), .no, .v (.int at_), .v (.int c), .no, .v (.int x)] ∧ O' = [.lst [.lst (nums cs), .int (at_ + 1), .int g]]) ?_ ?_
            · repeat walk_at "e"
              exact ⟨_, Int.emod_nonneg _ (by decide), Int.emod_lt_of_pos _ (by decide), rfl, rfl⟩
            · rintro _ _ ⟨y, hy0, hy1, rfl, rfl⟩
              repeat walk_at "e"
              exact ⟨rfl, k _ _ ⟨cs, at_ + 1, g, rfl, by omega, by omega, hg⟩ (Int.emod_nonneg _ (by omega)) (Int.emod_lt_of_pos _ (by omega))⟩
theorem sc_law_pick : FnScope ["_law_pen_here", "_law_some"] ["_law_pen_here", "_law_some"] (defScope (top 59)) := ⟨rfl, rfl, rfl, by decide +kernel, rfl, by decide +kernel, by decide +kernel⟩
theorem ok_law_pick {P : Program} {w : World} {K : PySem.W.Frag} {mg : Str → Option Value} {base : Heap} (T : Tx K mg) (h_law_draw : Fn P w K mg base 1 (He.fAd K ("_law_draw", none)) ["_law_pen_here", "_law_many"] (sp_draw K)) : Fn P w K mg base 2 (He.fAd K ("_law_pick", none)) ["_law_pen_here", "_law_some"] (sp_pick K) := by
  obtain ⟨_, F_law_draw, b_law_draw, kp_law_draw, lk_law_draw⟩ := h_law_draw
  obtain ⟨fd, F⟩ := T.d_law_pick
  refine ⟨fd, F.ok sc_law_pick (lift_len ?_) (fun cdv A outer s H vs Q E hr h => ?_), F.bindsN fun _ _ _ _ _ _ us hl => (match us, hl with | [_, _], _ => rfl), F.kp, lk_of F⟩
  · intro ts O P X h
    exact sp_pick_len h
  · have hu := hr.units
    refine ⟨_, (PSs.nox (pss_one (ps_ret (pe_ix (ix_listK K) (pv 1) (pe_call F_law_draw (hr.mono (by decide)) (by rfl) T.g__law_draw kp_law_draw b_law_draw .nil passL (pa_cons (pv 0) (pa_cons (pe_callB (cr_lenK K) (by rfl) T.n_len boot_len (pa_cons (pv 1) pa_nil)) pa_nil))) (fun _ _ => rfl))))), enter h fun ts O P X h _ => ?_⟩
    try dsimp only [cxOf, Cx.nox, Cx.wish]
    
    obtain ⟨n, p, ds, rfl, rfl, hp, hn, h1, h2, k⟩ := h
    show WS _ _ _ _ [.own 0, .v (.lst ds)] _
    repeat walk_at "g"
    refine u_draw hp hn ?_ ?_ fun p' r hp' h3 h4 => ⟨_, rfl, nno, ?_⟩
    · omega
    · omega
    obtain ⟨d, e1, e2⟩ := atI_pos h3 h4
    refine w_ixL lstD_v e1 ?_
    exact ⟨rfl, k _ _ _ hp' e2⟩
theorem sc_binomial : FnScope ["n", "j", "found", "k"] ["n", "j"] (defScope (top 22)) := ⟨rfl, rfl, rfl, by decide +kernel, rfl, by decide +kernel, by decide +kernel⟩
theorem ok_binomial {P : Program} {w : World} {K : PySem.W.Frag} {mg : Str → Option Value} {base : Heap} (T : Tx K mg)  : Fn P w K mg base 1 (He.fAd K ("binomial", none)) ["n", "j"] (sp_binomial K) := by
  obtain ⟨fd, F⟩ := T.d_binomial
  refine ⟨fd, F.ok sc_binomial (lift_len ?_) (fun cdv A outer s H vs Q E hr h => ?_), F.bindsN fun _ _ _ _ _ _ us hl => (match us, hl with | [_, _], _ => rfl), F.kp, lk_of F⟩
  · intro ts O P X h
    exact sp_binomial_len h
  · have hu := hr.units
    refine ⟨_, (PSs.nox (pss_cons (ps_set (i := 2) sc_binomial.nd rfl (.inl rfl) pe_int)
    (pss_cons (ps_for PassesOwn.never rfl (pi_range1 (by rfl) T.n_range (pa_cons (pv 1) pa_nil)) (pg_name (i := 3) sc_binomial.nd rfl (.inl rfl))
    (pss_one (ps_set (i := 2) sc_binomial.nd rfl (.inl rfl) (pe_op op_fdivW (pe_op op_mulW (pv 2) (pe_op op_sub (pv 0) (pv 3))) (pe_op op_add (pv 3) pe_int)))))
    (pss_one (ps_ret (pv 2)))))), enter h fun ts O P X h _ => ?_⟩
    try dsimp only [cxOf, Cx.nox, Cx.wish]
    
    obtain ⟨n, j, rfl, rfl, hj, hn, p⟩ := h
    show WS _ _ _ _ [.v (.int n), .v (.int j), .no, .no] _
    walk_at "n"
    refine s_seq ?_
    refine s_forE ?_
    refine i_rng1 ?_
    repeat walk_at "e"
    refine ⟨by omega, ?_⟩
    rw [Int.toNat_natCast]
    refine for_R1 (fun i ts' O' => ∃ a : G.T, O' = [] ∧ ts' = [.v (.int n), .v (.int j), .v (.int (bin n i)), a]) ⟨_, rfl, rfl⟩ ?_ ?_
    · rintro i _ _ hi ⟨a, rfl, rfl⟩
      refine g_name ?_
      have hb := bin_bd hn i (by omega)
      repeat walk_at "e"
      refine w_mulW (mul_okP hb (b := 231) (by omega) (by omega)) ?_
      repeat walk_at "e"
      exact ⟨_, rfl, rfl⟩
    · rintro _ _ ⟨a, rfl, rfl⟩
      repeat walk_at "e"
      exact ⟨rfl, p⟩
theorem sc_power_of : FnScope ["number", "times", "found", "turn"] ["number", "times"] (defScope (top 23)) := ⟨rfl, rfl, rfl, by decide +kernel, rfl, by decide +kernel, by decide +kernel⟩
theorem ok_power_of {P : Program} {w : World} {K : PySem.W.Frag} {mg : Str → Option Value} {base : Heap} (T : Tx K mg)  : Fn P w K mg base 1 (He.fAd K ("power_of", none)) ["number", "times"] (sp_power_of K) := by
  obtain ⟨fd, F⟩ := T.d_power_of
  refine ⟨fd, F.ok sc_power_of (lift_len ?_) (fun cdv A outer s H vs Q E hr h => ?_), F.bindsN fun _ _ _ _ _ _ us hl => (match us, hl with | [_, _], _ => rfl), F.kp, lk_of F⟩
  · intro ts O P X h
    exact sp_power_of_len h
  · have hu := hr.units
    refine ⟨_, (PSs.nox (pss_cons (ps_set (i := 2) sc_power_of.nd rfl (.inl rfl) pe_int)
    (pss_cons (ps_for PassesOwn.never rfl (pi_range1 (by rfl) T.n_range (pa_cons (pv 1) pa_nil)) (pg_name (i := 3) sc_power_of.nd rfl (.inl rfl))
    (pss_one (ps_set (i := 2) sc_power_of.nd rfl (.inl rfl) (pe_op op_mulW (pv 2) (pv 0)))))
    (pss_one (ps_ret (pv 2)))))), enter h fun ts O P X h _ => ?_⟩
    try dsimp only [cxOf, Cx.nox, Cx.wish]
    
    obtain ⟨b, t, rfl, rfl, hb, ht, p⟩ := h
    show WS _ _ _ _ [.v (.int b), .v (.int t), .no, .no] _
    walk_at "n"
    refine s_seq ?_
    refine s_forE ?_
    refine i_rng1 ?_
    repeat walk_at "e"
    refine ⟨by omega, ?_⟩
    rw [Int.toNat_natCast]
    refine for_R1 (fun i ts' O' => ∃ a : G.T, O' = [] ∧ ts' = [.v (.int b), .v (.int t), .v (.int (b ^ i : Nat)), a]) ⟨_, rfl, rfl⟩ ?_ ?_
    · rintro i _ _ hi ⟨a, rfl, rfl⟩
      refine g_name ?_
      repeat walk_at "e"
      refine w_mulW (mul_okP (a := 64 * i + 1) (b := 64) (by rw [Int.natAbs_natCast]; exact pow_lt2 hb i) (by omega) (by omega)) ?_
      rw [← Int.natCast_mul, ← Nat.pow_succ]
      exact ⟨_, rfl, rfl⟩
    · rintro _ _ ⟨a, rfl, rfl⟩
      repeat walk_at "e"
      exact ⟨rfl, p⟩
theorem sc_times_in : FnScope ["number", "prime", "found"] ["number", "prime"] (defScope (top 24)) := ⟨rfl, rfl, rfl, by decide +kernel, rfl, by decide +kernel, by decide +kernel⟩
theorem ok_times_in {P : Program} {w : World} {K : PySem.W.Frag} {mg : Str → Option Value} {base : Heap} (T : Tx K mg)  : Fn P w K mg base 1 (He.fAd K ("times_in", none)) ["number", "prime"] (sp_times_in K) := by
  obtain ⟨fd, F⟩ := T.d_times_in
  refine ⟨fd, F.ok sc_times_in (lift_len ?_) (fun cdv A outer s H vs Q E hr h => ?_), F.bindsN fun _ _ _ _ _ _ us hl => (match us, hl with | [_, _], _ => rfl), F.kp, lk_of F⟩
  · intro ts O P X h
    exact sp_times_in_len h
  · have hu := hr.units
    refine ⟨_, (PSs.nox (pss_cons (ps_set (i := 2) sc_times_in.nd rfl (.inl rfl) pe_int)
    (pss_cons (ps_while PassesOwn.never (pt_cmpR op_eq (pe_op op_mod (pv 0) (pv 1)) pe_int (nomark _))
    (pss_one (ps_par (i := 0) (j := 2) rfl sc_times_in.nd rfl rfl (by decide) rfl rfl (pa_cons (pe_op op_fdivW (pv 0) (pv 1)) (pa_cons (pe_op op_add (pv 2) pe_int) pa_nil)) rfl)))
    (pss_one (ps_ret (pv 2)))))), enter h fun ts O P X h _ => ?_⟩
    try dsimp only [cxOf, Cx.nox, Cx.wish]
    
    obtain ⟨n, p', rfl, rfl, hn, hp, hp2, p⟩ := h
    show WS _ _ _ _ [.v (.int n), .v (.int p'), .no] _
    walk_at "n"
    refine s_seq ?_
    refine s_while (fun m ts' O' => ∃ t : Nat, O' = [] ∧ ts' = [.v (.int m), .v (.int p'), .v (.int t)] ∧ n = p' ^ t * m ∧ 1 ≤ m) n ⟨0, rfl, rfl, by simp, hn⟩ ?_
    rintro m _ _ ⟨t, rfl, rfl, he, hm⟩
    repeat walk_at "e"
    refine br (fun h0 => ?_) (fun h0 => ?_)
    · obtain ⟨k, rfl⟩ : p' ∣ m := by
        have := Int.dvd_of_emod_eq_zero h0
        exact Int.natCast_dvd_natCast.mp this
      repeat walk_at "e"
      have hk : 1 ≤ k := by
        rcases Nat.eq_zero_or_pos k with rfl | hk
        · rw [Nat.mul_zero] at hm; omega
        · exact hk
      refine ⟨k, ?_, t + 1, rfl, ?_, ?_, hk⟩
      · have := Nat.mul_le_mul_right k hp
        omega
      · rw [Int.natCast_mul, Int.mul_ediv_cancel_left _ (show (p' : Int) ≠ 0 by omega)]
        exact rfl
      · rw [he, Nat.pow_succ, Nat.mul_assoc]
    · repeat walk_at "e"
      have e := vl_eq hp hn he (fun z => h0 (by rw [← Int.natCast_emod, z]; exact rfl))
      rw [e] at p
      exact ⟨rfl, p⟩
theorem sc_small_in : FnScope ["number", "most", ".0", "prime"] ["number", "most"] (defScope (top 25)) := ⟨rfl, rfl, rfl, by decide +kernel, rfl, by decide +kernel, by decide +kernel⟩
theorem ok_small_in {P : Program} {w : World} {K : PySem.W.Frag} {mg : Str → Option Value} {base : Heap} (T : Tx K mg) (h_times_in : Fn P w K mg base 1 (He.fAd K ("times_in", none)) ["number", "prime"] (sp_times_in K)) : Fn P w K mg base 2 (He.fAd K ("small_in", none)) ["number", "most"] (sp_small_in K) := by
  obtain ⟨_, F_times_in, b_times_in, kp_times_in, lk_times_in⟩ := h_times_in
  obtain ⟨fd, F⟩ := T.d_small_in
  have ct_PRIMES := T.ct_PRIMES
  refine ⟨fd, F.ok sc_small_in (lift_len ?_) (fun cdv A outer s H vs Q E hr h => ?_), F.bindsN fun _ _ _ _ _ _ us hl => (match us, hl with | [_, _], _ => rfl), F.kp, lk_of F⟩
  · intro ts O P X h
    exact sp_small_in_len h
  · have hu := hr.units
    refine ⟨_, (PSs.nox (pss_one (ps_ret (pe_lc (own := [(".0", 2), ("prime", 3)]) rfl sc_small_in.nd (pi_tupK K (pe_glob (v := .ref (He.ga K "PRIMES")) (by rfl) T.g_PRIMES rfl)) (blkOk_by (own := [(".0", 2), ("prime", 3)]) (N := ["number", "most", ".0", "prime"]) (sc := defScope (top 25)) (by decide +kernel)) (fun _ _ _ _ _ => (pg_name (i := 3) sc_small_in.nd rfl (.inl rfl))) (fun _ _ _ _ _ => (pts_one (PW.pt (pw_and (pt_cmpR op_le (pv 3) (pv 1) (nomark _)) (pw_and1 (pt_cmpR op_eq (pe_op op_mod (pv 0) (pv 3)) pe_int (nomark _))))))) (fun _ _ _ _ _ => (pe_tup (pa_cons (pv 3) (pa_cons (pe_call F_times_in (hr.mono (by decide)) (by rfl) T.g_times_in kp_times_in b_times_in .nil passL (pa_cons (pv 0) (pa_cons (pv 3) pa_nil))) pa_nil)))))))), enter h fun ts O P X h _ => ?_⟩
    try dsimp only [cxOf, Cx.nox, Cx.wish]
    
    obtain ⟨n, m, rfl, rfl, hn, hn2, p⟩ := h
    show WS _ _ _ _ [.v (.int n), .v (.int m), .no, .no] _
    repeat walk_at "e"
    refine w_lcF1 ?_ (by decide)
    refine i_tup ?_
    repeat walk_at "e"
    refine lcF_A PR (fun p => .int (p : Nat)) (fun p => decide (p ≤ m) && decide (n % p = 0)) (fun p => smD (p, vl p n)) (by decide) (fun q acc hq => ?_) ?_
    · obtain ⟨q1, q2⟩ := pr_two hq
      refine g_name ?_
      have e1 : decide ((n : Int) % (q : Nat) = 0) = decide (n % q = 0) := by
        rw [← Int.natCast_emod]
        by_cases h : n % q = 0
        · rw [decide_eq_true h, h]
          exact rfl
        · rw [decide_eq_false h]
          exact decide_eq_false (by omega)
      have e2 : decide ((q : Int) ≤ (m : Nat)) = decide (q ≤ m) := by
        by_cases h : q ≤ m
        · rw [decide_eq_true h]
          exact decide_eq_true (by omega)
        · rw [decide_eq_false h]
          exact decide_eq_false (by omega)
      repeat walk_at "e"
      rw [e2]
      by_cases hqm : q ≤ m
      · rw [decide_eq_true hqm]
        repeat walk_at "e"
        rw [e1]
        refine ⟨(Bool.true_and _).symm, rfl, fun _ => ?_⟩
        repeat walk_at "e"
        refine ⟨n, q, rfl, rfl, hn, q1, by omega, ⟨⟨_, rfl⟩, ?_⟩⟩
        repeat walk_at "e"
        exact ⟨rfl, rfl⟩
      · rw [decide_eq_false hqm]
        repeat walk_at "e"
        exact ⟨(Bool.false_and _).symm, rfl, fun z => (by rw [Bool.false_and] at z; cases z)⟩
    · have e : ((PR.filter fun p => decide (p ≤ m) && decide (n % p = 0)).map fun p => smD (p, vl p n)) = (small n m).map smD := by
        unfold small
        rw [List.map_map]
        exact rfl
      rw [e]
      exact ⟨rfl, p⟩
theorem sc_great_in : FnScope ["number", "most", "prime", "times"] ["number", "most"] (defScope (top 26)) := ⟨rfl, rfl, rfl, by decide +kernel, rfl, by decide +kernel, by decide +kernel⟩
theorem ok_great_in {P : Program} {w : World} {K : PySem.W.Frag} {mg : Str → Option Value} {base : Heap} (T : Tx K mg) (h_small_in : Fn P w K mg base 2 (He.fAd K ("small_in", none)) ["number", "most"] (sp_small_in K)) (h_power_of : Fn P w K mg base 1 (He.fAd K ("power_of", none)) ["number", "times"] (sp_power_of K)) : Fn P w K mg base 3 (He.fAd K ("great_in", none)) ["number", "most"] (sp_great_in K) := by
  obtain ⟨_, F_small_in, b_small_in, kp_small_in, lk_small_in⟩ := h_small_in
  obtain ⟨_, F_power_of, b_power_of, kp_power_of, lk_power_of⟩ := h_power_of
  obtain ⟨fd, F⟩ := T.d_great_in
  refine ⟨fd, F.ok sc_great_in (lift_len ?_) (fun cdv A outer s H vs Q E hr h => ?_), F.bindsN fun _ _ _ _ _ _ us hl => (match us, hl with | [_, _], _ => rfl), F.kp, lk_of F⟩
  · intro ts O P X h
    exact sp_great_in_len h
  · have hu := hr.units
    refine ⟨_, (PSs.nox (pss_cons (ps_for PassesOwn.never rfl (pi_listK K (pe_call F_small_in (hr.mono (by decide)) (by rfl) T.g_small_in kp_small_in b_small_in .nil passL (pa_cons (pv 0) (pa_cons (pv 1) pa_nil)))) (pg_tupK K (n := 2) rfl (pgs_cons (pg_name (i := 2) sc_great_in.nd rfl (.inl rfl)) (pgs_cons (pg_name (i := 3) sc_great_in.nd rfl (.inl rfl)) pgs_nil)))
    (pss_one (ps_set (i := 0) sc_great_in.nd rfl (.inl rfl) (pe_op op_fdivW (pv 0) (pe_call F_power_of (hr.mono (by decide)) (by rfl) T.g_power_of kp_power_of b_power_of .nil passL (pa_cons (pv 2) (pa_cons (pv 3) pa_nil)))))))
    (pss_one (ps_ret (pv 0))))), enter h fun ts O P X h _ => ?_⟩
    try dsimp only [cxOf, Cx.nox, Cx.wish]
    
    obtain ⟨n, m, rfl, rfl, hn, hn2, p⟩ := h
    show WS _ _ _ _ [.v (.int n), .v (.int m), .no, .no] _
    refine s_seq ?_
    refine s_forE ?_
    refine i_list ?_
    repeat walk_at "e"
    refine ⟨n, m, rfl, rfl, hn, hn2, ⟨⟨_, rfl⟩, ?_⟩⟩
    repeat walk_at "e"
    refine for_A (fun i ts' O' => ∃ (a b : G.T), O' = [] ∧ ts' = [.v (.int (((small n m).take i).foldl cutP n : Nat)), .v (.int m), a, b]) ⟨_, _, rfl, rfl⟩ ?_ ?_
    · rintro i x _ _ hi hx ⟨a, b, rfl, rfl⟩
      have hm := List.mem_of_getElem? hx
      obtain ⟨d1, d2⟩ := small_dvd hn hm
      obtain ⟨k1, _, _, k4⟩ := small_mem hm
      have k2 := pr_two k1
      have hle := Nat.le_of_dvd hn d2
      have ht : x.2 ≤ 1000 := by
        have : x.2 < 2 ^ x.2 := Nat.lt_two_pow_self
        have h2 : 2 ^ x.2 ≤ x.1 ^ x.2 := Nat.pow_le_pow_left k2.1 _
        have h3 : 2 ^ x.2 < 2 ^ 200 := by omega
        have := (Nat.pow_lt_pow_iff_right (show 1 < 2 by decide)).mp h3
        omega
      refine g_pair rfl ?_
      repeat walk_at "e"
      refine ⟨x.1, x.2, rfl, rfl, by omega, ht, ⟨⟨_, rfl⟩, ?_⟩⟩
      repeat walk_at "e"
      rw [← Int.natCast_ediv, List.take_succ, hx, Option.toList_some, List.foldl_append]
      exact ⟨_, _, rfl, rfl⟩
    · rintro _ _ ⟨a, b, rfl, rfl⟩
      rw [List.take_length]
      repeat walk_at "e"
      exact ⟨rfl, p⟩
theorem sc_combined : FnScope ["one", "other", "first", "second", "mine", "its", "times"] ["one", "other"] (defScope (top 27)) := ⟨rfl, rfl, rfl, by decide +kernel, rfl, by decide +kernel, by decide +kernel⟩
theorem ok_combined {P : Program} {w : World} {K : PySem.W.Frag} {mg : Str → Option Value} {base : Heap} (T : Tx K mg)  : Fn P w K mg base 1 (He.fAd K ("combined", none)) ["one", "other"] (sp_combined K) := by
  obtain ⟨fd, F⟩ := T.d_combined
  refine ⟨fd, F.ok sc_combined (lift_len ?_) (fun cdv A outer s H vs Q E hr h => ?_), F.bindsN fun _ _ _ _ _ _ us hl => (match us, hl with | [_, _], _ => rfl), F.kp, lk_of F⟩
  · intro ts O P X h
    exact sp_combined_len h
  · have hu := hr.units
    refine ⟨_, (PSs.nox (pss_cons (ps_asg (pe_tup (pa_cons pe_int (pa_cons pe_int (pa_cons pe_int (pa_cons pe_int pa_nil))))) (pg_tupK K (n := 4) rfl (pgs_cons (pg_name (i := 2) sc_combined.nd rfl (.inl rfl)) (pgs_cons (pg_name (i := 3) sc_combined.nd rfl (.inl rfl)) (pgs_cons (pg_name (i := 4) sc_combined.nd rfl (.inl rfl)) (pgs_cons (pg_name (i := 5) sc_combined.nd rfl (.inl rfl)) pgs_nil))))))
    (pss_cons (ps_while PassesOwn.never (pt_cmpR op_gt (pv 1) pe_int (nomark _))
    (pss_cons (ps_set (i := 6) sc_combined.nd rfl (.inl rfl) (pe_op op_fdivW (pv 0) (pv 1)))
    (pss_cons (ps_par (i := 0) (j := 1) rfl sc_combined.nd rfl rfl (by decide) rfl rfl (pa_cons (pv 1) (pa_cons (pe_op op_sub (pv 0) (pe_op op_mulW (pv 6) (pv 1))) pa_nil)) rfl)
    (pss_cons (ps_par (i := 2) (j := 4) rfl sc_combined.nd rfl rfl (by decide) rfl rfl (pa_cons (pv 4) (pa_cons (pe_op op_sub (pv 2) (pe_op op_mulW (pv 6) (pv 4))) pa_nil)) rfl)
    (pss_one (ps_par (i := 3) (j := 5) rfl sc_combined.nd rfl rfl (by decide) rfl rfl (pa_cons (pv 5) (pa_cons (pe_op op_sub (pv 3) (pe_op op_mulW (pv 6) (pv 5))) pa_nil)) rfl))))))
    (pss_one (ps_ret (pe_tup (pa_cons (pv 0) (pa_cons (pv 2) (pa_cons (pv 3) pa_nil))))))))), enter h fun ts O P X h _ => ?_⟩
    try dsimp only [cxOf, Cx.nox, Cx.wish]
    
    obtain ⟨a, b, rfl, rfl, ha, hb, p⟩ := h
    show WS _ _ _ _ [.v (.int a), .v (.int b), .no, .no, .no, .no, .no] _
    walk_at "n"
    refine s_seq ?_
    refine s_while (fun m ts' O' => ∃ (x : Nat) (s t u v : Int) (c : G.T), O' = [] ∧ ts' = [.v (.int x), .v (.int m), .v (.int s), .v (.int t), .v (.int u), .v (.int v), c] ∧ Bz a b x m s t u v ∧ cmbW x m s t u v = cmb a b ∧ x < 2 ^ 200 ∧ m < 2 ^ 200) b ⟨a, 1, 0, 0, 1, _, rfl, rfl, Bz.start a b, rfl, ha, hb⟩ ?_
    rintro m _ _ ⟨x, s', t', u, v, c, rfl, rfl, hz, hcm, hx, hm⟩
    repeat walk_at "e"
    refine br (fun h0 => ?_) (fun h0 => ?_)
    · have hq : x / m ≤ x := Nat.div_le_self x m
      have hq2 : x % m < m := Nat.mod_lt _ (by omega)
      have hb1 := hz.m1.2.2
      have e1 : (x : Int) / (m : Nat) = ((x / m : Nat) : Int) := (Int.natCast_ediv x m).symm
      have e2 : (x : Int) - ((x / m : Nat) : Int) * (m : Nat) = ((x % m : Nat) : Int) := by
        have := Nat.div_add_mod x m
        rw [Nat.mul_comm] at this
        have h2 : ((x / m * m + x % m : Nat) : Int) = (x : Int) := by rw [this]
        rw [Int.natCast_add, Int.natCast_mul] at h2
        omega
      walk_at "n"
      rw [e1]
      generalize hqd : ((x / m : Nat) : Int) = q
      have hq0 : 0 ≤ q ∧ q < 2 ^ 200 := by
        rw [← hqd]
        exact ⟨Int.natCast_nonneg _, by have : x / m < 2 ^ 200 := by omega
                                        exact_mod_cast this⟩
      walk_at "n"
      walk_at "n"
      repeat walk_at "e"
      rw [← hqd, e2]
      exact ⟨x % m, hq2, m, _, _, _, _, _, rfl, rfl, hz.step (by omega), ((cmbW_s (a := x) (b := m) (by omega)).symm.trans hcm), hm, by omega⟩
    · repeat walk_at "e"
      obtain rfl : m = 0 := by omega
      have e := hz.end_ rfl
      have e1 := hz.e1
      have m1 := hz.m1
      rw [e] at e1 ⊢
      rw [cmbW_0] at hcm
      rw [← hcm] at p
      exact ⟨rfl, p⟩
theorem sc_shared_in : FnScope ["modulus", "numbers", "divisor", "found", "number", "old", "new", ".0", "many"] ["modulus", "numbers"] (defScope (top 28)) := ⟨rfl, rfl, rfl, by decide +kernel, rfl, by decide +kernel, by decide +kernel⟩
theorem ok_shared_in {P : Program} {w : World} {K : PySem.W.Frag} {mg : Str → Option Value} {base : Heap} (T : Tx K mg) (h_combined : Fn P w K mg base 1 (He.fAd K ("combined", none)) ["one", "other"] (sp_combined K)) : Fn P w K mg base 2 (He.fAd K ("shared_in", none)) ["modulus", "numbers"] (sp_shared_in K) := by
  obtain ⟨_, F_combined, b_combined, kp_combined, lk_combined⟩ := h_combined
  obtain ⟨fd, F⟩ := T.d_shared_in
  refine ⟨fd, F.ok sc_shared_in (lift_len ?_) (fun cdv A outer s H vs Q E hr h => ?_), F.bindsN fun _ _ _ _ _ _ us hl => (match us, hl with | [_, _], _ => rfl), F.kp, lk_of F⟩
  · intro ts O P X h
    exact sp_shared_in_len h
  · have hu := hr.units
    refine ⟨_, (PSs.nox (pss_cons (ps_par (i := 2) (j := 3) rfl sc_shared_in.nd rfl rfl (by decide) rfl rfl (pa_cons (pv 0) (pa_cons (pe_lst pa_nil) pa_nil)) rfl)
    (pss_cons (ps_for PassesOwn.never rfl (pi_tupK K (pv 1)) (pg_name (i := 4) sc_shared_in.nd rfl (.inl rfl))
    (pss_cons (ps_asg (pe_call F_combined (hr.mono (by decide)) (by rfl) T.g_combined kp_combined b_combined .nil passL (pa_cons (pv 2) (pa_cons (pe_op op_mod (pv 4) (pv 0)) pa_nil))) (pg_tupK K (n := 3) rfl (pgs_cons (pg_name (i := 2) sc_shared_in.nd rfl (.inl rfl)) (pgs_cons (pg_name (i := 5) sc_shared_in.nd rfl (.inr rfl)) (pgs_cons (pg_name (i := 6) sc_shared_in.nd rfl (.inl rfl)) pgs_nil)))))
    (pss_one (ps_set (i := 3) sc_shared_in.nd rfl (.inl rfl) (pe_op op_cat (pe_lc (own := [(".0", 7), ("many", 8)]) rfl sc_shared_in.nd (pi_listK K (pv 3)) (blkOk_by (own := [(".0", 7), ("many", 8)]) (N := ["modulus", "numbers", "divisor", "found", "number", "old", "new", ".0", "many"]) (sc := defScope (top 28)) (by decide +kernel)) (fun _ _ _ _ _ => (pg_name (i := 8) sc_shared_in.nd rfl (.inl rfl))) (fun _ _ _ _ _ => pts_nil) (fun _ _ _ _ _ => (pe_op op_mod (pe_op op_mulW (pv 8) (pv 5)) (pv 0)))) (pe_lst (pa_cons (pe_op op_mod (pv 6) (pv 0)) pa_nil)))))))
    (pss_one (ps_ret (pe_tup (pa_cons (pv 2) (pa_cons (pe_callTy (cr_tupK K) (by rfl) T.n_tuple boot_tuple (pa_cons (pv 3) pa_nil)) pa_nil)))))))), enter h fun ts O P X h _ => ?_⟩
    try dsimp only [cxOf, Cx.nox, Cx.wish]
    
    obtain ⟨m, ns, rfl, rfl, hm, hm2, hl, p⟩ := h
    show WS _ _ _ _ [.v (.int m), .v (.tup (nums ns)), .no, .no, .no, .no, .no, .no, .no] _
    walk_at "n"
    refine s_seq ?_
    refine s_forE ?_
    refine i_tup ?_
    repeat walk_at "e"
    refine for_N (fun i ts' O' => ∃ (g : Nat) (ms : List Int) (a b c d e : G.T), O' = [] ∧ ts' = [.v (.int m), .v (.tup (nums ns)), .v (.int g), .v (.lst (nums ms)), a, b, c, d, e] ∧ g = (shF m (ns.take i)).1 ∧ ms = (shF m (ns.take i)).2) ⟨m, [], _, _, _, _, _, rfl, rfl, rfl, rfl⟩ ?_ ?_
    · rintro i r _ _ hi er ⟨g, ms, a, b, c, d, e, rfl, rfl, hg, hms⟩
      have et : ns.take (i + 1) = ns.take i ++ [r] := by rw [List.take_succ, er] <;> rfl
      obtain ⟨k1, k2, k3, k4⟩ := shF_ok hm (ns.take i)
      have h1 : ms.length = (ns.take i).length := by rw [hms]; exact k2
      have h2 : InR m ms := by rw [hms]; exact k3
      have hgd : g ∣ m := by rw [hg, k1]; exact gcdL_dvd _ m
      have hgm : g ≤ m := Nat.le_of_dvd hm hgd
      have hr0 := Int.emod_nonneg r (show (m : Int) ≠ 0 by omega)
      have hr1 := Int.emod_lt_of_pos r (show (0 : Int) < m by omega)
      obtain ⟨k, hk⟩ : ∃ k : Nat, r % (m : Int) = k := ⟨(r % (m : Int)).toNat, by omega⟩
      refine g_name ?_
      walk_at "n"
      rw [hk]
      refine ⟨g, k, rfl, rfl, by omega, by omega, ⟨⟨_, rfl⟩, ?_⟩⟩
      obtain ⟨s', hs'⟩ : ∃ s', s' = (cmb g k).1 := ⟨_, rfl⟩
      obtain ⟨t', ht'⟩ : ∃ t', t' = (cmb g k).2 := ⟨_, rfl⟩
      obtain ⟨_, hs, ht⟩ := cmb_ok g k
      rw [← hs'] at hs
      rw [← ht'] at ht
      rw [← hs', ← ht']
      refine g_trip rfl ?_
      repeat walk_at "e"
      refine w_lc1 ?_ (by decide)
      refine i_list ?_
      repeat walk_at "e"
      have hml : ms.length ≤ 100 := by rw [h1, List.length_take]; omega
      refine lc_A ms D.int (fun x => .int (x * s' % m)) (by omega) (fun x acc hx => ?_) ?_
      · obtain ⟨x1, x2⟩ := h2 x hx
        refine g_name ?_
        repeat walk_at "e"
        exact ⟨rfl, rfl⟩
      repeat walk_at "e"
      refine w_catL lstD_v lstD_v (by rw [List.length_map, List.length_singleton]; omega) ?_
      rw [show ms.map (fun x => D.int (x * s' % m)) ++ [D.int (t' % m)] = nums (ms.map (fun x => x * s' % m) ++ [t' % m]) by unfold nums; rw [List.map_append, List.map_map] <;> rfl]
      have ek : (r % (m : Int)).toNat = k := by omega
      exact ⟨Nat.gcd g k, _, _, _, _, _, _, rfl, rfl, by rw [et, shF_snoc, shS, ← hg, ek] <;> rfl, by rw [et, shF_snoc, shS, ← hg, ← hms, ek, hs', ht'] <;> rfl⟩
    · rintro _ _ ⟨g, ms, a, b, c, d, e, rfl, rfl, hg, hms⟩
      rw [List.take_length] at hg hms
      rw [(shF_ok hm ns).1] at hg
      have e2 : ms = mulF m ns := hms
      subst hg e2
      repeat walk_at "e"
      exact ⟨rfl, p⟩
theorem sc_are_multipliers : FnScope ["value", "many", "modulus", ".0", "one"] ["value", "many", "modulus"] (defScope (top 29)) := ⟨rfl, rfl, rfl, by decide +kernel, rfl, by decide +kernel, by decide +kernel⟩
theorem ok_are_multipliers {P : Program} {w : World} {K : PySem.W.Frag} {mg : Str → Option Value} {base : Heap} (T : Tx K mg) (h_is_between : Fn P w K mg base 2 (He.fAd K ("is_between", none)) ["value", "low", "high"] (sp_is_between K)) : Fn P w K mg base 3 (He.fAd K ("are_multipliers", none)) ["value", "many", "modulus"] (sp_are_multipliers K) := by
  obtain ⟨_, F_is_between, b_is_between, kp_is_between, lk_is_between⟩ := h_is_between
  obtain ⟨fd, F⟩ := T.d_are_multipliers
  refine ⟨fd, F.ok sc_are_multipliers (lift_len ?_) (fun cdv A outer s H vs Q E hr h => ?_), F.bindsN fun _ _ _ _ _ _ us hl => (match us, hl with | [_, _, _], _ => rfl), F.kp, lk_of F⟩
  · intro ts O P X h
    exact sp_are_multipliers_len h
  · have hu := hr.units
    refine ⟨_, (PSs.nox (pss_one (ps_ret (pe_and (pe_callB (call_isiK K) (by rfl) T.n_isinstance boot_isinstance (pa_cons (pv 0) (pa_cons (pe_bltn (v := .ty "tuple") (by rfl) T.n_tuple boot_tuple rfl) pa_nil))) (pe_and (pe_cmpR op_eq (pe_callB (cr_lenK K) (by rfl) T.n_len boot_len (pa_cons (pv 0) pa_nil)) (pv 1) (nomark _)) (pe_one (pe_callB (cr_allK K rfl) (by rfl) T.n_all boot_all (pa_cons (pe_lc (own := [(".0", 3), ("one", 4)]) rfl sc_are_multipliers.nd (pi_tupK K (pv 0)) (blkOk_by (own := [(".0", 3), ("one", 4)]) (N := ["value", "many", "modulus", ".0", "one"]) (sc := defScope (top 29)) (by decide +kernel)) (fun _ _ _ _ _ => (pg_name (i := 4) sc_are_multipliers.nd rfl (.inl rfl))) (fun _ _ _ _ _ => pts_nil) (fun _ _ _ _ _ => (pe_call F_is_between (hr.mono (by decide)) (by rfl) T.g_is_between kp_is_between b_is_between .nil passL (pa_cons (pv 4) (pa_cons pe_int (pa_cons (pe_op op_sub (pv 2) pe_int) pa_nil)))))) pa_nil)))))))), enter h fun ts O P X h _ => ?_⟩
    try dsimp only [cxOf, Cx.nox, Cx.wish]
    
    obtain ⟨d, n, m, b, rfl, rfl, h, p⟩ := h
    show WS _ _ _ _ [.v d, .v (.int n), .v (.int m), .no, .no] _
    repeat walk_at "e"
    rcases h with ⟨⟨t, ht, hk⟩, rfl⟩ | ⟨ds, rfl, hl, hk, rfl⟩
    · refine c_isi ht (.ty _) hk ?_
      repeat walk_at "e"
      exact ⟨rfl, p⟩
    · refine c_isi (.tup _) (.ty _) (kit_ty (r := true) (by decide +kernel)) ?_
      repeat walk_at "e"
      refine br (fun h1 => ?_) (fun h1 => ?_)
      · rw [decide_eq_true h1, Bool.true_and] at p
        obtain ⟨es, rfl⟩ : ∃ es : List D, ds = es.map id := ⟨ds, (List.map_id _).symm⟩
        rw [List.map_id] at hk
        rw [List.length_map] at hl
        repeat walk_at "e"
        refine w_lc1 ?_ (by decide)
        refine i_tup ?_
        repeat walk_at "e"
        refine lc_A es id (fun x => .bl (KnB m x)) (by omega) (fun x acc hx => ?_) ?_
        · refine g_name ?_
          repeat walk_at "e"
          exact u_is_between (kn_btw (hk x hx)) ⟨⟨_, rfl⟩, rfl, rfl⟩
        have e : (es.map fun x => D.bl (KnB m x)) = (es.map (KnB m)).map D.bl := by rw [List.map_map] <;> rfl
        rw [e]
        repeat walk_at "e"
        refine c_all lstD_v ?_
        have e2 : (es.map (KnB m)).all id = (es.map id).all (KnB m) := by rw [List.all_map, List.all_map] <;> rfl
        rw [e2]
        exact ⟨rfl, p⟩
      · rw [decide_eq_false h1, Bool.false_and] at p
        exact ⟨rfl, p⟩
end My

set_option Elab.async false
set_option linter.all false
set_option maxRecDepth 100000
set_option maxHeartbeats 0
namespace My
open PySem PySem.Spec PyProof.Rows L2 G

local macro_rules | `(tactic| walk_at "ws") => `(tactic| first
  | with_reducible refine s_set ?_
  | with_reducible refine s_if ?_
  | refine s_fldaug (by assumption) (by assumption) ?_
  | with_reducible refine s_ret ?_
  | with_reducible refine s_retN ?_
  | with_reducible refine s_drop ?_
  | with_reducible refine s_next ?_
  | with_reducible refine s_par ?_
  | with_reducible refine s_par3 ?_
  | refine s_fldN (by assumption) (by assumption) ?_
  | with_reducible refine s_asg ?_
  | refine s_raise1 ?_
  | refine s_raise2 ?_)
local macro_rules | `(tactic| walk_at "we") => `(tactic| first
  | ((with_reducible refine w_v (d := ?k2) ?k1 ?_); (case k1 => exact rfl))
  | ((with_reducible refine w_o (j := ?k2) ?k1 ?_); (case k1 => exact rfl))
  | ((guard_target = G.WE _ _ (tFld _ _ _) _ _ _ _); (refine w_fldN (by assumption) (by assumption) ?_))
  | ((guard_target = G.WE _ _ (tC (.ref _)) _ _ _ _); (refine w_ctup (by assumption) ?_))
  | with_reducible refine w_ci ?_
  | with_reducible refine w_op ?_
  | with_reducible refine w_call ?_
  | with_reducible refine w_cty ?_
  | with_reducible refine w_cb ?_
  | with_reducible refine w_cn ?_
  | with_reducible refine w_cs ?_
  | with_reducible refine w_cr ?_
  | with_reducible refine w_un ?_
  | with_reducible refine w_andV ?_
  | with_reducible refine w_orV ?_
  | with_reducible refine w_notV ?_
  | with_reducible refine w_ife ?_
  | with_reducible refine w_chain ?_
  | with_reducible refine w_tup ?_
  | with_reducible refine w_revL ?_
  | with_reducible refine w_slL ?_
  | with_reducible refine w_slT ?_
  | (guard_target = G.WE _ _ (tCall (lift _ (sp_draw _)) _ _ _) _ _ _ _; refine w_fn10 0 ?_)
  | (guard_target = G.WE _ _ (tCall (lift _ (sp_pick _)) _ _ _) _ _ _ _; refine w_fn10 0 ?_)
  | (guard_target = G.WE _ _ (tCall (lift _ (sp_w_coefs _)) _ _ _) _ _ _ _; refine w_fn10 0 ?_)
  | (guard_target = G.WE _ _ (tCall (lift _ (sp_l_drawn _)) _ _ _) _ _ _ _; refine w_fn10 0 ?_)
  | (guard_target = G.WE _ _ (tCall (lift _ (sp_l_right _)) _ _ _) _ _ _ _; refine w_fn10 0 ?_)
  | (guard_target = G.WE _ _ (tCall (lift _ (sp_l_btri _)) _ _ _) _ _ _ _; refine w_fn10 0 ?_)
  | (guard_target = G.WE _ _ (tCall (lift _ (sp_l_bent _)) _ _ _) _ _ _ _; refine w_fn10 0 ?_)
  | (guard_target = G.WE _ _ (tMeth _ _ (lift _ (sp_w_next _)) _ _ _ _) _ _ _ _; refine w_methO 0 ?_)
  | (guard_target = G.WE _ _ (tMeth _ _ (lift _ (sp_w_refuse _)) _ _ _ _) _ _ _ _; refine w_methO 0 ?_)
  | (guard_target = G.WE _ _ (tMeth _ _ (lift _ (sp_w_word _)) _ _ _ _) _ _ _ _; refine w_methO 0 ?_)
  | (guard_target = G.WE _ _ (tMeth _ _ (lift _ (sp_w_number _)) _ _ _ _) _ _ _ _; refine w_methO 0 ?_)
  | (guard_target = G.WE _ _ (tMeth _ _ (lift _ (sp_w_end _)) _ _ _ _) _ _ _ _; refine w_methO 0 ?_)
  | (guard_target = G.WE _ _ (tMake _ (lift _ (sp_w_init _)) _ _ _) _ _ _ _; refine w_makeO ?_)
  | with_reducible refine w_fn0 ?_
  | with_reducible refine w_fnS0 ?_
  | with_reducible refine w_meth0 ?_
  | with_reducible refine w_make0 ?_
  | with_reducible refine w_bmL ?_
  | with_reducible refine w_bmL0 ?_
  | with_reducible refine w_lst ?_
  | with_reducible refine w_callKX ?_
  | with_reducible refine w_makeKX ?_
  | with_reducible refine w_makeX ?_
  | with_reducible refine w_smethX ?_
  | with_reducible refine w_smethK ?_
  | with_reducible refine w_smethK0 ?_
  | with_reducible refine w_fnV ?_
  | with_reducible refine w_fnX ?_
  | with_reducible refine w_fnSX ?_
  | with_reducible refine w_methX ?_
  | with_reducible refine w_callX ?_
  | with_reducible refine w_methK ?_
  | with_reducible refine w_callK2 ?_
  | with_reducible refine w_callI ?_
  | with_reducible refine w_prop ?_
  | with_reducible refine w_dic0 ?_
  | with_reducible refine w_jcons ?_
  | with_reducible refine w_jnil ?_
  | with_reducible refine w_join ?_
  | with_reducible refine w_split ?_
  | with_reducible refine w_smeth ?_
  | with_reducible refine w_fnKr ?_)
local macro_rules | `(tactic| walk_at "wt") => `(tactic| first
  | with_reducible refine w_test ?_
  | with_reducible refine w_B ?_
  | with_reducible refine w_and ?_
  | with_reducible refine w_or ?_
  | with_reducible refine w_not ?_)
local macro_rules | `(tactic| walk_at "wa") => `(tactic| first
  | with_reducible refine w_cons ?_
  | with_reducible refine w_nil ?_
  | with_reducible refine w_star ?_)
local macro_rules | `(tactic| walk_at "wr") => `(tactic| first
  | with_reducible refine w_add ?_
  | with_reducible refine w_sub ?_
  | with_reducible refine w_lt ?_
  | with_reducible refine w_le ?_
  | with_reducible refine w_gt ?_
  | with_reducible refine w_ge ?_
  | with_reducible refine w_eqI ?_
  | with_reducible refine w_neI ?_
  | with_reducible refine w_isN ?_
  | with_reducible refine w_notN ?_
  | ((with_reducible refine w_mod ?k1 ?_); (case k1 => first | decide | omega))
  | ((with_reducible refine w_mul ?k1 ?_); (case k1 => first | exact Or.inl ⟨by decide, by decide⟩ | exact Or.inr ⟨by decide, by decide⟩ | exact Or.inl ⟨by omega, by omega⟩ | exact Or.inr ⟨by omega, by omega⟩))
  | ((with_reducible refine w_pow ?k1 ?_); (case k1 => first | exact ⟨by decide, by decide, by decide⟩ | exact ⟨by omega, by omega, by omega⟩))
  | ((with_reducible refine w_fdivW ?k1 ?_); (case k1 => exact divW_ok (by first | decide | omega) (by first | decide | omega)))
  | ((with_reducible refine w_mulW ?k1 ?_); (case k1 => exact mulW_ok ⟨by omega, by omega⟩ ⟨by omega, by omega⟩))
  | ((guard_target = G.WR _ (rIxT _) _ _ _ _); (refine w_ixT (by first | exact atI_0 | exact atI_1 | exact atI_2 | exact atI_3 | exact atI_4 | exact atI_5 | exact atI_6 | assumption) ?_))
  | ((guard_target = G.WR _ (rIxL _) _ _ _ _); (refine w_ixL (by first | exact lstD_v | exact lstD_o rfl) (by first | exact atI_0 | exact atI_1 | exact atI_2 | exact atI_3 | exact atI_4 | exact atI_5 | exact atI_6 | assumption) ?_)))
local macro_rules | `(tactic| walk_at "wc") => `(tactic| first
  | with_reducible refine c_int ?_
  | with_reducible refine c_intB ?_
  | with_reducible refine c_abs ?_
  | ((guard_target = G.WC _ (G.rLen _) _ _ _); (refine c_lenL (by first | exact lstD_v | exact lstD_o rfl) ?_))
  | with_reducible refine c_lenT ?_
  | ((guard_target = G.WC _ (G.rListOf _) _ _ _); (refine c_listL (by first | exact lstD_v | exact lstD_o rfl) ?_))
  | with_reducible refine c_listT ?_
  | ((guard_target = G.WC _ (G.rTupOf _) _ _ _); (refine c_tupL (by first | exact lstD_v | exact lstD_o rfl) ?_))
  | with_reducible refine c_tupT ?_)
local macro_rules | `(tactic| walk_at "e") => `(tactic| first
  | (guard_target = G.WE _ _ _ _ _ _ _; walk_at "we")
  | (guard_target = G.WS _ _ _ _ _ _; walk_at "ws")
  | (guard_target = G.WA _ _ _ _ _ _ _; walk_at "wa")
  | (guard_target = G.WR _ _ _ _ _ _; walk_at "wr")
  | (guard_target = G.WT _ _ _ _ _ _ _; walk_at "wt")
  | (guard_target = G.WC _ _ _ _ _; walk_at "wc")
  | (guard_target = G.WU _ _ _ _ _; with_reducible refine w_neg ?_)
  | (guard_target = G.WG _ _ _ _ _ _ _; first | with_reducible refine g_name ?_ | with_reducible refine g_setL ?_ | refine g_pair rfl ?_ | refine g_trip rfl ?_ | refine g_quad rfl ?_)
  | (guard_target = G.WO _ _ _ _ _ _ _; first | with_reducible refine o_none ?_ | with_reducible refine o_some ?_)
  | with_reducible refine tt_ ?_
  | with_reducible refine ff_ ?_
  | with_reducible refine ntt_ ?_
  | with_reducible refine nff_ ?_
  | ((guard_target = ((!G.isNon _) = true → _) ∧ _); (first | refine bnF rfl ?_ | refine bnT rfl ?_))
  | ((guard_target = (G.isNon _ = true → _) ∧ _); (first | refine bF rfl ?_ | refine bT rfl ?_))
  | (guard_target = Exists _; first
    | refine ⟨_, rfl, rfl, rfl, ?_⟩
    | refine ⟨_, _, _, rfl, rfl, rfl, Nat.le_of_ble_eq_true rfl, ?_⟩
    | refine ⟨_, _, _, rfl, rfl, rfl, ?_⟩
    | refine ⟨_, _, rfl, rfl, Nat.le_of_ble_eq_true rfl, ?_⟩
    | refine ⟨_, rfl, Nat.le_of_ble_eq_true rfl, Nat.le_of_ble_eq_true rfl, ?_⟩
    | refine ⟨_, _, _, _, _, rfl, rfl, rfl, rfl, rfl, ?_⟩
    | refine ⟨_, _, _, rfl, rfl, rfl, Nat.le_of_ble_eq_true rfl, ?_⟩
    | refine ⟨_, _, rfl, rfl, rfl, ?_⟩
    | refine ⟨_, _, _, rfl, ?_⟩
    | refine ⟨_, _, (by first | exact insD_v | exact insD_o rfl), rfl, ?_⟩
    | refine ⟨_, _, rfl, ?_⟩
    | refine ⟨_, rfl, rfl, ?_⟩
    | refine ⟨_, rfl, Nat.le_of_ble_eq_true rfl, ?_⟩
    | refine ⟨_, (by first | exact lstD_v | exact lstD_o rfl), ?_⟩
    | refine ⟨_, rfl, ?_⟩))
local macro_rules | `(tactic| walk_at "o") => `(tactic| first | with_reducible refine w_lstO ?_ | walk_at "e")
local macro_rules | `(tactic| walk_at "g") => `(tactic| first | walk_at "e" | with_reducible refine s_seq ?_)
local macro_rules | `(tactic| walk_at "n") => `(tactic| (with_reducible refine s_seq ?_); (repeat walk_at "e"))
theorem sc_is_written : FnScope ["word", ".0", "sign"] ["word"] (defScope (top 8)) := ⟨rfl, rfl, rfl, by decide +kernel, rfl, by decide +kernel, by decide +kernel⟩
theorem ok_is_written {P : Program} {w : World} {K : PySem.W.Frag} {mg : Str → Option Value} {base : Heap} (T : Tx K mg)  : Fn P w K mg base 1 (He.fAd K ("is_written", none)) ["word"] (sp_w_written K) := by
  obtain ⟨fd, F⟩ := T.d_is_written
  obtain ⟨_, T_i_MOST_DIGITS⟩ := T.i_MOST_DIGITS_
  refine ⟨fd, F.ok sc_is_written (lift_len ?_) (fun cdv A outer s H vs Q E hr h => ?_), F.bindsN fun _ _ _ _ _ _ us hl => (match us, hl with | [_], _ => rfl), F.kp, lk_of F⟩
  · intro ts O P X h
    exact sp_w_written_len h
  · have hu := hr.units
    refine ⟨_, (PSs.nox (pss_cons (ps_if (PW.pt (pw_or (pt_not (pt_chain op_le op_le pe_int (pe_callB (cr_lenK K) (by rfl) T.n_len boot_len (pa_cons (pv 0) pa_nil)) (pe_glob (v := .int 40) (by rfl) T_i_MOST_DIGITS ⟨_, rfl⟩))) (pw_or1 (pt_not (pt_val (pe_callB (cr_allK K rfl) (by rfl) T.n_all boot_all (pa_cons (pe_lc (own := [(".0", 1), ("sign", 2)]) rfl sc_is_written.nd (pi_str (pv 0)) (blkOk_by (own := [(".0", 1), ("sign", 2)]) (N := ["word", ".0", "sign"]) (sc := defScope (top 8)) (by decide +kernel)) (fun _ _ _ _ _ => (pg_name (i := 2) sc_is_written.nd rfl (.inl rfl))) (fun _ _ _ _ _ => pts_nil) (fun _ _ _ _ _ => (pe_cmpR op_inSign (pv 2) pe_str (by with_unfolding_all rfl)))) pa_nil)))))))
    (pss_one (ps_ret pe_bl))
    pss_nil)
    (pss_one (ps_ret (pe_or (pe_cmpR op_eq (pv 0) pe_str (nomark _)) (pe_one (pe_cmpR op_ne (pe_ix ix_str (pv 0) pe_int (fun _ _ => rfl)) pe_str (nomark _)))))))), enter h fun ts O P X h _ => ?_⟩
    try dsimp only [cxOf, Cx.nox, Cx.wish]
    
    obtain ⟨n, rfl, rfl, hn, p⟩ := h
    obtain ⟨l1, l2⟩ := numS_len hn
    show WS _ _ _ _ [.v (.str (numS n)), .no, .no] _
    refine s_cut (fun ts' O' => O' = [] ∧ ∃ a b : G.T, ts' = [.v (.str (numS n)), a, b]) ?_ ?_
    · repeat walk_at "e"
      refine c_lenS (Nat.le_trans l1 (Nat.le_of_ble_eq_true rfl)) ?_
      repeat walk_at "e"
      rw [decide_eq_true (show (1 : Int) ≤ (numS n).length by omega)]
      repeat walk_at "e"
      rw [decide_eq_true (show ((numS n).length : Int) ≤ 40 by omega)]
      repeat walk_at "e"
      refine w_lc1 ?_ (by decide)
      refine i_str ?_
      repeat walk_at "e"
      refine lc_A (numS n).cps.toList (fun c => D.str ⟨#[c]⟩) (fun _ => .bl true) (by rw [Array.length_toList]; exact Nat.le_trans l1 (by decide)) (fun c acc hc => ?_) ?_
      · refine g_name ?_
        repeat walk_at "e"
        refine w_inSign ?_
        rw [decide_eq_true (numS_signs n c hc)]
        exact ⟨rfl, rfl⟩
      have e : ((numS n).cps.toList.map fun _ => D.bl true) = ((numS n).cps.toList.map fun _ => true).map D.bl := by rw [List.map_map] <;> rfl
      rw [e]
      repeat walk_at "e"
      refine c_all lstD_v ?_
      have e2 : ((numS n).cps.toList.map fun _ => true).all id = true := by
        rw [List.all_eq_true]
        intro x hx
        obtain ⟨_, _, rfl⟩ := List.mem_map.mp hx
        rfl
      rw [e2]
      repeat walk_at "e"
      exact ⟨rfl, _, _, rfl⟩
    rintro _ _ ⟨rfl, a, b, rfl⟩
    repeat walk_at "e"
    by_cases h0 : n = 0
    · subst h0
      rw [numS_zero]
      refine w_eq rfl rfl rfl ?_
      rw [decide_eq_true rfl]
      repeat walk_at "e"
      exact ⟨rfl, p⟩
    · refine w_eq rfl rfl rfl ?_
      rw [decide_eq_false (fun z => numS_ne h0 (by injection z))]
      repeat walk_at "e"
      obtain ⟨c, r, e1, hc⟩ := numL_head n h0
      have e2 : atI (numS n).cps.toList 0 = some c := by
        rw [numS_tl, e1]
        exact atI_0
      refine w_ixS (Nat.le_trans l1 (Nat.le_of_ble_eq_true rfl)) e2 ?_
      repeat walk_at "e"
      refine w_ne rfl rfl rfl ?_
      rw [decide_eq_false (fun z => (by
        have z2 : (⟨#[c]⟩ : Str) = "0" := by injection z
        have z3 : [c] = [48] := congrArg (fun s : Str => s.cps.toList) z2
        exact hc (by injection z3)))]
      exact ⟨rfl, p⟩
theorem sc_WordsU_initU : FnScope ["self", "line", "text"] ["self", "line", "text"] (defScope (inClass (top 31) 0)) := ⟨rfl, rfl, rfl, by decide +kernel, rfl, by decide +kernel, by decide +kernel⟩
theorem ok_WordsU_initU {P : Program} {w : World} {K : PySem.W.Frag} {mg : Str → Option Value} {base : Heap} (T : Tx K mg)  : Fn P w K mg base 1 (He.fAd K ("Words", some "__init__")) ["self", "line", "text"] (sp_w_init K) := by
  obtain ⟨fd, F⟩ := T.d_WordsU_initU
  have hc_Words := T.cl_Words
  have hn_Words_line := T.na_Words_line
  have hc_Words := T.cl_Words
  have hn_Words_read_so_far := T.na_Words_read_so_far
  have hc_Words := T.cl_Words
  have hn_Words_words := T.na_Words_words
  refine ⟨fd, F.ok sc_WordsU_initU (lift_len ?_) (fun cdv A outer s H vs Q E hr h => ?_), F.bindsN fun _ _ _ _ _ _ us hl => (match us, hl with | [_, _, _], _ => rfl), F.kp, lk_of F⟩
  · intro ts O P X h
    exact sp_w_init_len h
  · have hu := hr.units
    refine ⟨_, (PSs.nox (pss_cons (ps_if (pt_not (pt_val (pe_callB (call_isiK K) (by rfl) T.n_isinstance boot_isinstance (pa_cons (pv 2) (pa_cons (pe_bltn (v := .ty "str") (by rfl) T.n_str boot_str rfl) pa_nil)))))
    (pss_one ps_never)
    pss_nil)
    (pss_cons (ps_fld (pv 0) (pv 1) rfl)
    (pss_cons (ps_fld (pv 0) (pe_splitK (pv 2) pe_str) rfl)
    (pss_one (ps_fld (pv 0) pe_int rfl)))))), enter h fun ts O P X h _ => ?_⟩
    try dsimp only [cxOf, Cx.nox, Cx.wish]
    
    obtain ⟨t, rfl, rfl, hl, p⟩ := h
    show WS _ _ _ _ [.own 0, .v (.int 0), .v (.str t)] _
    walk_at "n"
    refine c_isi (.str _) (.ty _) (kit_ty (b := "str") (r := true) (by decide +kernel)) ?_
    repeat walk_at "g"
    refine ⟨hl, ?_⟩
    repeat walk_at "g"
    exact ⟨rfl, p⟩
theorem sc_Words_next_word : FnScope ["self"] ["self"] (defScope (inClass (top 31) 1)) := ⟨rfl, rfl, rfl, by decide +kernel, rfl, by decide +kernel, by decide +kernel⟩
theorem ok_Words_next_word {P : Program} {w : World} {K : PySem.W.Frag} {mg : Str → Option Value} {base : Heap} (T : Tx K mg)  : Fn P w K mg base 1 (He.fAd K ("Words", some "next_word")) ["self"] (sp_w_next K) := by
  obtain ⟨fd, F⟩ := T.d_Words_next_word
  have hc_Words := T.cl_Words
  have hn_Words_read_so_far := T.na_Words_read_so_far
  have hc_Words := T.cl_Words
  have hn_Words_words := T.na_Words_words
  refine ⟨fd, F.ok sc_Words_next_word (lift_len ?_) (fun cdv A outer s H vs Q E hr h => ?_), F.bindsN fun _ _ _ _ _ _ us hl => (match us, hl with | [_], _ => rfl), F.kp, lk_of F⟩
  · intro ts O P X h
    exact sp_w_next_len h
  · have hu := hr.units
    refine ⟨_, (PSs.nox (pss_one (ps_ret (pe_ifExp (pt_cmpR op_lt (pe_fldK K (pv 0)) (pe_callB (cr_lenK K) (by rfl) T.n_len boot_len (pa_cons (pe_fldK K (pv 0)) pa_nil)) (nomark _)) (pe_ix (ix_listK K) (pe_fldK K (pv 0)) (pe_fldK K (pv 0)) (fun _ _ => rfl)) pe_non)))), enter h fun ts O P X h _ => ?_⟩
    try dsimp only [cxOf, Cx.nox, Cx.wish]
    
    obtain ⟨ws, k, rfl, rfl, p⟩ := h
    show WS _ _ _ [.ins (He.ga K "Words") (wd ws k)] [.own 0] _
    repeat walk_at "e"
    rw [List.length_map]
    refine br (fun h0 => ?_) (fun h0 => ?_)
    · have hk : k < ws.length := by omega
      rw [List.getElem?_eq_getElem hk] at p
      repeat walk_at "e"
      refine w_ixL lstD_v (atI_nat (j := k) (by rw [List.getElem?_map, List.getElem?_eq_getElem hk] <;> rfl)) ?_
      exact ⟨rfl, p⟩
    · rw [List.getElem?_eq_none (by omega)] at p
      repeat walk_at "e"
      exact ⟨rfl, p⟩
theorem sc_Words_refuse : FnScope ["self"] ["self"] (defScope (inClass (top 31) 2)) := ⟨rfl, rfl, rfl, by decide +kernel, rfl, by decide +kernel, by decide +kernel⟩
theorem ok_Words_refuse {P : Program} {w : World} {K : PySem.W.Frag} {mg : Str → Option Value} {base : Heap} (T : Tx K mg)  : Fn P w K mg base 1 (He.fAd K ("Words", some "refuse")) ["self"] (sp_w_refuse K) := by
  obtain ⟨fd, F⟩ := T.d_Words_refuse
  refine ⟨fd, F.ok sc_Words_refuse (lift_len ?_) (fun cdv A outer s H vs Q E hr h => ?_), F.bindsN fun _ _ _ _ _ _ us hl => (match us, hl with | [_], _ => rfl), F.kp, lk_of F⟩
  · intro ts O P X h
    exact sp_w_refuse_len h
  · have hu := hr.units
    refine ⟨_, (PSs.nox (pss_one ps_never)), enter h fun ts O P X h _ => ?_⟩
    try dsimp only [cxOf, Cx.nox, Cx.wish]
    exact h.2.elim
theorem sc_Words_take_word : FnScope ["self", "menu", "found"] ["self", "menu"] (defScope (inClass (top 31) 3)) := ⟨rfl, rfl, rfl, by decide +kernel, rfl, by decide +kernel, by decide +kernel⟩
theorem ok_Words_take_word {P : Program} {w : World} {K : PySem.W.Frag} {mg : Str → Option Value} {base : Heap} (T : Tx K mg) (h_Words_next_word : Fn P w K mg base 1 (He.fAd K ("Words", some "next_word")) ["self"] (sp_w_next K)) (h_Words_refuse : Fn P w K mg base 1 (He.fAd K ("Words", some "refuse")) ["self"] (sp_w_refuse K)) : Fn P w K mg base 2 (He.fAd K ("Words", some "take_word")) ["self", "menu"] (sp_w_word K) := by
  obtain ⟨_, F_Words_next_word, b_Words_next_word, kp_Words_next_word, lk_Words_next_word⟩ := h_Words_next_word
  obtain ⟨_, F_Words_refuse, b_Words_refuse, kp_Words_refuse, lk_Words_refuse⟩ := h_Words_refuse
  obtain ⟨fd, F⟩ := T.d_Words_take_word
  have hc_Words := T.cl_Words
  have hn_Words_read_so_far := T.na_Words_read_so_far
  refine ⟨fd, F.ok sc_Words_take_word (lift_len ?_) (fun cdv A outer s H vs Q E hr h => ?_), F.bindsN fun _ _ _ _ _ _ us hl => (match us, hl with | [_, _], _ => rfl), F.kp, lk_of F⟩
  · intro ts O P X h
    exact sp_w_word_len h
  · have hu := hr.units
    refine ⟨_, (PSs.nox (pss_cons (ps_set (i := 2) sc_Words_take_word.nd rfl (.inl rfl) (pe_meth0 (pv 0) T.cl_Words T.me_Words_next_word F_Words_next_word (hr.mono (by decide)) b_Words_next_word .nil passL))
    (pss_cons (ps_if (PW.pt (pw_or (pt_cmpR op_isN1 (pv 2) pe_non (nomark _)) (pw_or1 (pt_cmpR (op_notInK K) (pv 2) (pv 1) (by with_unfolding_all rfl)))))
    (pss_one (ps_expr (pe_meth0 (pv 0) T.cl_Words T.me_Words_refuse F_Words_refuse (hr.mono (by decide)) b_Words_refuse .nil passL)))
    pss_nil)
    (pss_cons (ps_fldaug (pv 0) pe_int in_add)
    (pss_one (ps_ret (pv 2))))))), enter h fun ts O P X h _ => ?_⟩
    try dsimp only [cxOf, Cx.nox, Cx.wish]
    
    obtain ⟨ws, k, w, menu, rfl, rfl, hw, hm, p⟩ := h
    show WS _ _ _ [.ins (He.ga K "Words") (wd ws k)] [.own 0, .v (.tup (menu.map D.str)), .no] _
    walk_at "n"
    refine ⟨ws, k, rfl, rfl, ⟨_, rfl, rfl, ?_⟩⟩
    rw [hw]
    walk_at "n"
    refine w_inT ?_
    rw [if_pos rfl, hm]
    repeat walk_at "e"
    walk_at "n"
    exact ⟨rfl, p⟩
theorem sc_Words_take_number : FnScope ["self", "least", "most", "found"] ["self", "least", "most"] (defScope (inClass (top 31) 4)) := ⟨rfl, rfl, rfl, by decide +kernel, rfl, by decide +kernel, by decide +kernel⟩
theorem ok_Words_take_number {P : Program} {w : World} {K : PySem.W.Frag} {mg : Str → Option Value} {base : Heap} (T : Tx K mg) (h_Words_next_word : Fn P w K mg base 1 (He.fAd K ("Words", some "next_word")) ["self"] (sp_w_next K)) (h_is_written : Fn P w K mg base 1 (He.fAd K ("is_written", none)) ["word"] (sp_w_written K)) (h_Words_refuse : Fn P w K mg base 1 (He.fAd K ("Words", some "refuse")) ["self"] (sp_w_refuse K)) : Fn P w K mg base 2 (He.fAd K ("Words", some "take_number")) ["self", "least", "most"] (sp_w_number K) := by
  obtain ⟨_, F_Words_next_word, b_Words_next_word, kp_Words_next_word, lk_Words_next_word⟩ := h_Words_next_word
  obtain ⟨_, F_is_written, b_is_written, kp_is_written, lk_is_written⟩ := h_is_written
  obtain ⟨_, F_Words_refuse, b_Words_refuse, kp_Words_refuse, lk_Words_refuse⟩ := h_Words_refuse
  obtain ⟨fd, F⟩ := T.d_Words_take_number
  have hc_Words := T.cl_Words
  have hn_Words_read_so_far := T.na_Words_read_so_far
  refine ⟨fd, F.ok sc_Words_take_number (lift_len ?_) (fun cdv A outer s H vs Q E hr h => ?_), F.bindsN fun _ _ _ _ _ _ us hl => (match us, hl with | [_, _, _], _ => rfl), F.kp, lk_of F⟩
  · intro ts O P X h
    exact sp_w_number_len h
  · have hu := hr.units
    refine ⟨_, (PSs.nox (pss_cons (ps_set (i := 3) sc_Words_take_number.nd rfl (.inl rfl) (pe_meth0 (pv 0) T.cl_Words T.me_Words_next_word F_Words_next_word (hr.mono (by decide)) b_Words_next_word .nil passL))
    (pss_cons (ps_if (PW.pt (pw_or (pt_cmpR op_isN1 (pv 3) pe_non (nomark _)) (pw_or (pt_not (pt_val (pe_call F_is_written (hr.mono (by decide)) (by rfl) T.g_is_written kp_is_written b_is_written .nil passL (pa_cons (pv 3) pa_nil)))) (pw_or1 (pt_not (pt_chain op_le op_le (pv 1) (pe_callTy call_intS (by rfl) T.n_int boot_int (pa_cons (pv 3) pa_nil)) (pv 2)))))))
    (pss_one (ps_expr (pe_meth0 (pv 0) T.cl_Words T.me_Words_refuse F_Words_refuse (hr.mono (by decide)) b_Words_refuse .nil passL)))
    pss_nil)
    (pss_cons (ps_fldaug (pv 0) pe_int in_add)
    (pss_one (ps_ret (pe_callTy call_intS (by rfl) T.n_int boot_int (pa_cons (pv 3) pa_nil)))))))), enter h fun ts O P X h _ => ?_⟩
    try dsimp only [cxOf, Cx.nox, Cx.wish]
    
    obtain ⟨ws, k, n, lo, hi, rfl, rfl, hw, hn, h1, h2, p⟩ := h
    obtain ⟨l1, l2⟩ := numS_len hn
    show WS _ _ _ [.ins (He.ga K "Words") (wd ws k)] [.own 0, .v (.int lo), .v (.int hi), .no] _
    walk_at "n"
    refine ⟨ws, k, rfl, rfl, ⟨_, rfl, rfl, ?_⟩⟩
    rw [hw]
    walk_at "n"
    refine ⟨n, rfl, rfl, hn, ⟨⟨_, rfl⟩, ?_⟩⟩
    repeat walk_at "e"
    refine c_intS (numS_int hn) (Nat.le_trans l1 (by decide)) ?_
    repeat walk_at "e"
    rw [decide_eq_true h1]
    repeat walk_at "e"
    rw [decide_eq_true h2]
    repeat walk_at "e"
    walk_at "n"
    refine c_intS (numS_int hn) (Nat.le_trans l1 (by decide)) ?_
    exact ⟨rfl, p⟩
theorem sc_Words_take_end : FnScope ["self"] ["self"] (defScope (inClass (top 31) 7)) := ⟨rfl, rfl, rfl, by decide +kernel, rfl, by decide +kernel, by decide +kernel⟩
theorem ok_Words_take_end {P : Program} {w : World} {K : PySem.W.Frag} {mg : Str → Option Value} {base : Heap} (T : Tx K mg) (h_Words_next_word : Fn P w K mg base 1 (He.fAd K ("Words", some "next_word")) ["self"] (sp_w_next K)) (h_Words_refuse : Fn P w K mg base 1 (He.fAd K ("Words", some "refuse")) ["self"] (sp_w_refuse K)) : Fn P w K mg base 2 (He.fAd K ("Words", some "take_end")) ["self"] (sp_w_end K) := by
  obtain ⟨_, F_Words_next_word, b_Words_next_word, kp_Words_next_word, lk_Words_next_word⟩ := h_Words_next_word
  obtain ⟨_, F_Words_refuse, b_Words_refuse, kp_Words_refuse, lk_Words_refuse⟩ := h_Words_refuse
  obtain ⟨fd, F⟩ := T.d_Words_take_end
  refine ⟨fd, F.ok sc_Words_take_end (lift_len ?_) (fun cdv A outer s H vs Q E hr h => ?_), F.bindsN fun _ _ _ _ _ _ us hl => (match us, hl with | [_], _ => rfl), F.kp, lk_of F⟩
  · intro ts O P X h
    exact sp_w_end_len h
  · have hu := hr.units
    refine ⟨_, (PSs.nox (pss_one (ps_if (pt_cmpR op_notN1 (pe_meth0 (pv 0) T.cl_Words T.me_Words_next_word F_Words_next_word (hr.mono (by decide)) b_Words_next_word .nil passL) pe_non (nomark _))
    (pss_one (ps_expr (pe_meth0 (pv 0) T.cl_Words T.me_Words_refuse F_Words_refuse (hr.mono (by decide)) b_Words_refuse .nil passL)))
    pss_nil))), enter h fun ts O P X h _ => ?_⟩
    try dsimp only [cxOf, Cx.nox, Cx.wish]
    
    obtain ⟨ws, k, rfl, rfl, hk, p⟩ := h
    show WS _ _ _ [.ins (He.ga K "Words") (wd ws k)] [.own 0] _
    repeat walk_at "e"
    refine ⟨ws, k, rfl, rfl, ⟨_, rfl, rfl, ?_⟩⟩
    rw [List.getElem?_eq_none hk]
    repeat walk_at "e"
    exact ⟨rfl, p⟩
end My

set_option Elab.async false
set_option linter.all false
set_option maxRecDepth 100000
set_option maxHeartbeats 0
namespace My
open PySem PySem.Spec PyProof.Rows L2 G

local macro_rules | `(tactic| walk_at "ws") => `(tactic| first
  | with_reducible refine s_set ?_
  | with_reducible refine s_if ?_
  | refine s_fldaug (by assumption) (by assumption) ?_
  | with_reducible refine s_ret ?_
  | with_reducible refine s_retN ?_
  | with_reducible refine s_drop ?_
  | with_reducible refine s_next ?_
  | with_reducible refine s_par ?_
  | with_reducible refine s_par3 ?_
  | refine s_fldN (by assumption) (by assumption) ?_
  | with_reducible refine s_asg ?_
  | refine s_raise1 ?_
  | refine s_raise2 ?_)
local macro_rules | `(tactic| walk_at "we") => `(tactic| first
  | ((with_reducible refine w_v (d := ?k2) ?k1 ?_); (case k1 => exact rfl))
  | ((with_reducible refine w_o (j := ?k2) ?k1 ?_); (case k1 => exact rfl))
  | ((guard_target = G.WE _ _ (tFld _ _ _) _ _ _ _); (refine w_fldN (by assumption) (by assumption) ?_))
  | ((guard_target = G.WE _ _ (tC (.ref _)) _ _ _ _); (refine w_ctup (by assumption) ?_))
  | with_reducible refine w_ci ?_
  | with_reducible refine w_op ?_
  | with_reducible refine w_call ?_
  | with_reducible refine w_cty ?_
  | with_reducible refine w_cb ?_
  | with_reducible refine w_cn ?_
  | with_reducible refine w_cs ?_
  | with_reducible refine w_cr ?_
  | with_reducible refine w_un ?_
  | with_reducible refine w_andV ?_
  | with_reducible refine w_orV ?_
  | with_reducible refine w_notV ?_
  | with_reducible refine w_ife ?_
  | with_reducible refine w_chain ?_
  | with_reducible refine w_tup ?_
  | with_reducible refine w_revL ?_
  | with_reducible refine w_slL ?_
  | with_reducible refine w_slT ?_
  | (guard_target = G.WE _ _ (tCall (lift _ (sp_draw _)) _ _ _) _ _ _ _; refine w_fn10 0 ?_)
  | (guard_target = G.WE _ _ (tCall (lift _ (sp_pick _)) _ _ _) _ _ _ _; refine w_fn10 0 ?_)
  | (guard_target = G.WE _ _ (tCall (lift _ (sp_w_coefs _)) _ _ _) _ _ _ _; refine w_fn10 0 ?_)
  | (guard_target = G.WE _ _ (tCall (lift _ (sp_l_drawn _)) _ _ _) _ _ _ _; refine w_fn10 0 ?_)
  | (guard_target = G.WE _ _ (tCall (lift _ (sp_l_right _)) _ _ _) _ _ _ _; refine w_fn10 0 ?_)
  | (guard_target = G.WE _ _ (tCall (lift _ (sp_l_btri _)) _ _ _) _ _ _ _; refine w_fn10 0 ?_)
  | (guard_target = G.WE _ _ (tCall (lift _ (sp_l_bent _)) _ _ _) _ _ _ _; refine w_fn10 0 ?_)
  | (guard_target = G.WE _ _ (tMeth _ _ (lift _ (sp_w_next _)) _ _ _ _) _ _ _ _; refine w_methO 0 ?_)
  | (guard_target = G.WE _ _ (tMeth _ _ (lift _ (sp_w_refuse _)) _ _ _ _) _ _ _ _; refine w_methO 0 ?_)
  | (guard_target = G.WE _ _ (tMeth _ _ (lift _ (sp_w_word _)) _ _ _ _) _ _ _ _; refine w_methO 0 ?_)
  | (guard_target = G.WE _ _ (tMeth _ _ (lift _ (sp_w_number _)) _ _ _ _) _ _ _ _; refine w_methO 0 ?_)
  | (guard_target = G.WE _ _ (tMeth _ _ (lift _ (sp_w_end _)) _ _ _ _) _ _ _ _; refine w_methO 0 ?_)
  | (guard_target = G.WE _ _ (tMake _ (lift _ (sp_w_init _)) _ _ _) _ _ _ _; refine w_makeO ?_)
  | with_reducible refine w_fn0 ?_
  | with_reducible refine w_fnS0 ?_
  | with_reducible refine w_meth0 ?_
  | with_reducible refine w_make0 ?_
  | with_reducible refine w_bmL ?_
  | with_reducible refine w_bmL0 ?_
  | with_reducible refine w_lst ?_
  | with_reducible refine w_callKX ?_
  | with_reducible refine w_makeKX ?_
  | with_reducible refine w_makeX ?_
  | with_reducible refine w_smethX ?_
  | with_reducible refine w_smethK ?_
  | with_reducible refine w_smethK0 ?_
  | with_reducible refine w_fnV ?_
  | with_reducible refine w_fnX ?_
  | with_reducible refine w_fnSX ?_
  | with_reducible refine w_methX ?_
  | with_reducible refine w_callX ?_
  | with_reducible refine w_methK ?_
  | with_reducible refine w_callK2 ?_
  | with_reducible refine w_callI ?_
  | with_reducible refine w_prop ?_
  | with_reducible refine w_dic0 ?_
  | with_reducible refine w_jcons ?_
  | with_reducible refine w_jnil ?_
  | with_reducible refine w_join ?_
  | with_reducible refine w_split ?_
  | with_reducible refine w_smeth ?_
  | with_reducible refine w_fnKr ?_)
local macro_rules | `(tactic| walk_at "wt") => `(tactic| first
  | with_reducible refine w_test ?_
  | with_reducible refine w_B ?_
  | with_reducible refine w_and ?_
  | with_reducible refine w_or ?_
  | with_reducible refine w_not ?_)
local macro_rules | `(tactic| walk_at "wa") => `(tactic| first
  | with_reducible refine w_cons ?_
  | with_reducible refine w_nil ?_
  | with_reducible refine w_star ?_)
local macro_rules | `(tactic| walk_at "wr") => `(tactic| first
  | with_reducible refine w_add ?_
  | with_reducible refine w_sub ?_
  | with_reducible refine w_lt ?_
  | with_reducible refine w_le ?_
  | with_reducible refine w_gt ?_
  | with_reducible refine w_ge ?_
  | with_reducible refine w_eqI ?_
  | with_reducible refine w_neI ?_
  | with_reducible refine w_isN ?_
  | with_reducible refine w_notN ?_
  | ((with_reducible refine w_mod ?k1 ?_); (case k1 => first | decide | omega))
  | ((with_reducible refine w_mul ?k1 ?_); (case k1 => first | exact Or.inl ⟨by decide, by decide⟩ | exact Or.inr ⟨by decide, by decide⟩ | exact Or.inl ⟨by omega, by omega⟩ | exact Or.inr ⟨by omega, by omega⟩))
  | ((with_reducible refine w_pow ?k1 ?_); (case k1 => first | exact ⟨by decide, by decide, by decide⟩ | exact ⟨by omega, by omega, by omega⟩))
  | ((with_reducible refine w_fdivW ?k1 ?_); (case k1 => exact divW_ok (by first | decide | omega) (by first | decide | omega)))
  | ((with_reducible refine w_mulW ?k1 ?_); (case k1 => exact mulW_ok ⟨by omega, by omega⟩ ⟨by omega, by omega⟩))
  | ((guard_target = G.WR _ (rIxT _) _ _ _ _); (refine w_ixT (by first | exact atI_0 | exact atI_1 | exact atI_2 | exact atI_3 | exact atI_4 | exact atI_5 | exact atI_6 | assumption) ?_))
  | ((guard_target = G.WR _ (rIxL _) _ _ _ _); (refine w_ixL (by first | exact lstD_v | exact lstD_o rfl) (by first | exact atI_0 | exact atI_1 | exact atI_2 | exact atI_3 | exact atI_4 | exact atI_5 | exact atI_6 | assumption) ?_)))
local macro_rules | `(tactic| walk_at "wc") => `(tactic| first
  | with_reducible refine c_int ?_
  | with_reducible refine c_intB ?_
  | with_reducible refine c_abs ?_
  | ((guard_target = G.WC _ (G.rLen _) _ _ _); (refine c_lenL (by first | exact lstD_v | exact lstD_o rfl) ?_))
  | with_reducible refine c_lenT ?_
  | ((guard_target = G.WC _ (G.rListOf _) _ _ _); (refine c_listL (by first | exact lstD_v | exact lstD_o rfl) ?_))
  | with_reducible refine c_listT ?_
  | ((guard_target = G.WC _ (G.rTupOf _) _ _ _); (refine c_tupL (by first | exact lstD_v | exact lstD_o rfl) ?_))
  | with_reducible refine c_tupT ?_)
local macro_rules | `(tactic| walk_at "e") => `(tactic| first
  | (guard_target = G.WE _ _ _ _ _ _ _; walk_at "we")
  | (guard_target = G.WS _ _ _ _ _ _; walk_at "ws")
  | (guard_target = G.WA _ _ _ _ _ _ _; walk_at "wa")
  | (guard_target = G.WR _ _ _ _ _ _; walk_at "wr")
  | (guard_target = G.WT _ _ _ _ _ _ _; walk_at "wt")
  | (guard_target = G.WC _ _ _ _ _; walk_at "wc")
  | (guard_target = G.WU _ _ _ _ _; with_reducible refine w_neg ?_)
  | (guard_target = G.WG _ _ _ _ _ _ _; first | with_reducible refine g_name ?_ | with_reducible refine g_setL ?_ | refine g_pair rfl ?_ | refine g_trip rfl ?_ | refine g_quad rfl ?_)
  | (guard_target = G.WO _ _ _ _ _ _ _; first | with_reducible refine o_none ?_ | with_reducible refine o_some ?_)
  | with_reducible refine tt_ ?_
  | with_reducible refine ff_ ?_
  | with_reducible refine ntt_ ?_
  | with_reducible refine nff_ ?_
  | ((guard_target = ((!G.isNon _) = true → _) ∧ _); (first | refine bnF rfl ?_ | refine bnT rfl ?_))
  | ((guard_target = (G.isNon _ = true → _) ∧ _); (first | refine bF rfl ?_ | refine bT rfl ?_))
  | (guard_target = Exists _; first
    | refine ⟨_, rfl, rfl, rfl, ?_⟩
    | refine ⟨_, _, _, rfl, rfl, rfl, Nat.le_of_ble_eq_true rfl, ?_⟩
    | refine ⟨_, _, _, rfl, rfl, rfl, ?_⟩
    | refine ⟨_, _, rfl, rfl, Nat.le_of_ble_eq_true rfl, ?_⟩
    | refine ⟨_, rfl, Nat.le_of_ble_eq_true rfl, Nat.le_of_ble_eq_true rfl, ?_⟩
    | refine ⟨_, _, _, _, _, rfl, rfl, rfl, rfl, rfl, ?_⟩
    | refine ⟨_, _, _, rfl, rfl, rfl, Nat.le_of_ble_eq_true rfl, ?_⟩
    | refine ⟨_, _, rfl, rfl, rfl, ?_⟩
    | refine ⟨_, _, _, rfl, ?_⟩
    | refine ⟨_, _, (by first | exact insD_v | exact insD_o rfl), rfl, ?_⟩
    | refine ⟨_, _, rfl, ?_⟩
    | refine ⟨_, rfl, rfl, ?_⟩
    | refine ⟨_, rfl, Nat.le_of_ble_eq_true rfl, ?_⟩
    | refine ⟨_, (by first | exact lstD_v | exact lstD_o rfl), ?_⟩
    | refine ⟨_, rfl, ?_⟩))
local macro_rules | `(tactic| walk_at "o") => `(tactic| first | with_reducible refine w_lstO ?_ | walk_at "e")
local macro_rules | `(tactic| walk_at "g") => `(tactic| first | walk_at "e" | with_reducible refine s_seq ?_)
local macro_rules | `(tactic| walk_at "n") => `(tactic| (with_reducible refine s_seq ?_); (repeat walk_at "e"))
theorem sc_trimmed : FnScope ["modulus", "numbers", "found", ".0", "number"] ["modulus", "numbers"] (defScope (top 34)) := ⟨rfl, rfl, rfl, by decide +kernel, rfl, by decide +kernel, by decide +kernel⟩
theorem ok_trimmed {P : Program} {w : World} {K : PySem.W.Frag} {mg : Str → Option Value} {base : Heap} (T : Tx K mg)  : Fn P w K mg base 1 (He.fAd K ("trimmed", none)) ["modulus", "numbers"] (sp_s_trimmed K) := by
  obtain ⟨fd, F⟩ := T.d_trimmed
  refine ⟨fd, F.ok sc_trimmed (lift_len ?_) (fun cdv A outer s H vs Q E hr h => ?_), F.bindsN fun _ _ _ _ _ _ us hl => (match us, hl with | [_, _], _ => rfl), F.kp, lk_of F⟩
  · intro ts O P X h
    exact sp_s_trimmed_len h
  · have hu := hr.units
    refine ⟨_, (PSs.nox (pss_cons (ps_setLc (i := 2) (own := [(".0", 3), ("number", 4)]) rfl sc_trimmed.nd rfl rfl (sw_true rfl rfl rfl (by decide +kernel)) (pi_tupK K (pv 1)) (blkOk_by (own := [(".0", 3), ("number", 4)]) (N := ["modulus", "numbers", "found", ".0", "number"]) (sc := defScope (top 34)) (by decide +kernel)) (fun _ _ _ _ _ => (pg_name (i := 4) sc_trimmed.nd rfl (.inl rfl))) (fun _ _ _ _ _ => pts_nil) (fun _ _ _ _ _ => (pe_op op_mod (pv 4) (pv 0))))
    (pss_cons (ps_while PassesOwn.never (PW.pt (pw_and (pt_cmpR (op_neDK K hu) (pv 2) (pe_lst pa_nil) (nomark _)) (pw_and1 (pt_cmpR op_eq (pe_ix (ix_listK K) (pv 2) (pe_un un_neg pe_int) (fun _ _ => rfl)) pe_int (nomark _)))))
    (pss_one (ps_expr (pe_bm0 PySem.F.plainAttrs_list PySem.F.slot_list_pop PySem.F.type_list_pop mt_pop (pv 2)))))
    (pss_one (ps_ret (pe_callTy (cr_tupK K) (by rfl) T.n_tuple boot_tuple (pa_cons (pv 2) pa_nil))))))), enter h fun ts O P X h _ => ?_⟩
    try dsimp only [cxOf, Cx.nox, Cx.wish]
    
    obtain ⟨m, xs, rfl, rfl, hm, hl, p⟩ := h
    show WS _ _ _ _ [.v (.int m), .v (.tup (nums xs)), .no, .no, .no] _
    refine s_seq ?_
    repeat walk_at "e"
    refine w_lcO1 ?_ (by decide)
    refine i_tup ?_
    repeat walk_at "e"
    refine lcO_A xs D.int (fun x => .int (x % m)) (by omega) (fun x acc hx => ?_) ?_
    · refine g_name ?_
      repeat walk_at "e"
      exact ⟨rfl, rfl⟩
    repeat walk_at "e"
    refine s_seq ?_
    refine s_while (fun n ts' O' => ∃ ys : List Int, n = ys.length ∧ O' = [.lst (nums ys)] ∧ ts' = [.v (.int m), .v (.tup (nums xs)), .own 0, .no, .no] ∧ cut ys = tr m xs ∧ ys.length ≤ 100) (xs.map (· % m)).length ⟨xs.map (· % m), rfl, (by unfold nums; rw [List.map_map]; rfl), rfl, rfl, (by rw [List.length_map]; exact hl)⟩ ?_
    rintro n _ _ ⟨ys, rfl, rfl, rfl, hc, hl2⟩
    repeat walk_at "e"
    refine w_neD (valD_o (by exact rfl)) valD_v pl_numsL pl_nilL ?_
    rw [eqD_nilL]
    refine ⟨_, rfl, nbr (fun hn => ?_) (fun hn => ?_)⟩
    · obtain ⟨zs, z, rfl⟩ : ∃ zs z, ys = zs ++ [z] := ⟨_, _, (List.dropLast_concat_getLast hn).symm⟩
      repeat walk_at "e"
      refine w_ixL (lstD_o (by exact rfl)) atI_m1n ?_
      repeat walk_at "e"
      refine br (fun hz => ?_) (fun hz => ?_)
      · subst hz
        rw [List.length_append, List.length_singleton] at hl2 ⊢
        repeat walk_at "e"
        refine m_pop (by exact rfl) nums_last ?_
        repeat walk_at "e"
        exact ⟨zs.length, Nat.lt_succ_self _, zs, rfl, by rw [nums_pop] <;> rfl, rfl, by rw [← hc, My.cut_snoc0], by omega⟩
      · rw [My.cut_snoc hz] at hc
        rw [hc]
        refine s_frz 0 rfl rfl ?_
        repeat walk_at "e"
        exact ⟨rfl, p⟩
    · subst hn
      have hc : [] = tr m xs := hc
      rw [hc]
      refine ff_ ?_
      refine s_frz 0 rfl rfl ?_
      repeat walk_at "e"
      exact ⟨rfl, p⟩
theorem sc_SumU_initU : FnScope ["self", "modulus", "coefs", "value"] ["self", "modulus", "coefs"] (defScope (inClass (top 41) 1)) := ⟨rfl, rfl, rfl, by decide +kernel, rfl, by decide +kernel, by decide +kernel⟩
theorem ok_SumU_initU {P : Program} {w : World} {K : PySem.W.Frag} {mg : Str → Option Value} {base : Heap} (T : Tx K mg) (h_fits_modulus : Fn P w K mg base 3 (He.fAd K ("fits_modulus", none)) ["value"] (sp_fits_modulus K)) (h_is_integer : Fn P w K mg base 1 (He.fAd K ("is_integer", none)) ["value"] (sp_is_integer K)) (h_trimmed : Fn P w K mg base 1 (He.fAd K ("trimmed", none)) ["modulus", "numbers"] (sp_s_trimmed K)) : FnS P w K mg base 4 (He.fAd K ("Sum", some "__init__")) 2 (sp_s_init K) := by
  obtain ⟨_, F_fits_modulus, b_fits_modulus, kp_fits_modulus, lk_fits_modulus⟩ := h_fits_modulus
  obtain ⟨_, F_is_integer, b_is_integer, kp_is_integer, lk_is_integer⟩ := h_is_integer
  obtain ⟨_, F_trimmed, b_trimmed, kp_trimmed, lk_trimmed⟩ := h_trimmed
  obtain ⟨fd, F⟩ := T.d_SumU_initU
  obtain ⟨_, T_i_MOST_COEFS⟩ := T.i_MOST_COEFS_
  have hc_Sum := T.cl_Sum
  have hn_Sum_coefs := T.na_Sum_coefs
  have hc_Sum := T.cl_Sum
  have hn_Sum_modulus := T.na_Sum_modulus
  refine fnS (ps := ["self", "modulus"]) F sc_SumU_initU (fun _ _ _ _ _ _ us rest hl => match us, rest, hl with | [a0, a1], [], _ => rfl | [a0, a1], _ :: _, _ => rfl) (fun cdv A outer s H vs Q E hr h => ?_)
  have hu := hr.units
  refine ⟨_, (PSs.nox (pss_cons (ps_if (pt_not (pt_val (pe_call F_fits_modulus (hr.mono (by decide)) (by rfl) T.g_fits_modulus kp_fits_modulus b_fits_modulus .nil passL (pa_cons (pv 1) pa_nil))))
    (pss_one ps_never)
    pss_nil)
    (pss_cons (ps_for PassesOwn.never rfl (pi_tupK K (pv 2)) (pg_name (i := 3) sc_SumU_initU.nd rfl (.inl rfl))
    (pss_one (ps_if (pt_not (pt_val (pe_call F_is_integer (hr.mono (by decide)) (by rfl) T.g_is_integer kp_is_integer b_is_integer .nil passL (pa_cons (pv 3) pa_nil))))
    (pss_one ps_never)
    pss_nil)))
    (pss_cons (ps_if (pt_cmpR op_gt (pe_callB (cr_lenK K) (by rfl) T.n_len boot_len (pa_cons (pv 2) pa_nil)) (pe_glob (v := .int 13) (by rfl) T_i_MOST_COEFS ⟨_, rfl⟩) (nomark _))
    (pss_one ps_never)
    pss_nil)
    (pss_cons (ps_fld (pv 0) (pv 1) rfl)
    (pss_one (ps_fld (pv 0) (pe_call F_trimmed (hr.mono (by decide)) (by rfl) T.g_trimmed kp_trimmed b_trimmed .nil passL (pa_cons (pv 1) (pa_cons (pv 2) pa_nil))) rfl))))))), enter h fun ts O P X h _ => ?_⟩
  try dsimp only [cxOf, Cx.nox, Cx.wish]
  
  obtain ⟨m, xs, rfl, rfl, h1, h2, hl, p⟩ := h
  show WS _ _ _ _ [.own 0, .v (.int m), .v (.tup (nums xs)), .no] _
  walk_at "n"
  refine u_fits_modulus (btw_int h1 h2) ⟨⟨_, rfl⟩, ?_⟩
  repeat walk_at "e"
  refine s_seq ?_
  refine s_forE ?_
  refine i_tup ?_
  repeat walk_at "e"
  refine for_N (fun i ts' O' => ∃ a : G.T, O' = [.ins (He.ga K "Sum") []] ∧ ts' = [.own 0, .v (.int m), .v (.tup (nums xs)), a]) ⟨_, rfl, rfl⟩ ?_ ?_
  · rintro i r _ _ hi er ⟨a, rfl, rfl⟩
    refine g_name ?_
    repeat walk_at "e"
    refine u_is_integer intQ_int ⟨⟨_, rfl⟩, ?_⟩
    repeat walk_at "e"
    exact ⟨_, rfl, rfl⟩
  · rintro _ _ ⟨a, rfl, rfl⟩
    walk_at "n"
    rw [nums_len]
    refine brF (by omega) ?_
    repeat walk_at "g"
    refine ⟨m, xs, rfl, rfl, h1, by omega, ⟨⟨_, rfl⟩, ?_⟩⟩
    repeat walk_at "e"
    exact ⟨rfl, p⟩
theorem sc_Sum_degree : FnScope ["self"] ["self"] (defScope (inClass (top 41) 4)) := ⟨rfl, rfl, rfl, by decide +kernel, rfl, by decide +kernel, by decide +kernel⟩
theorem ok_Sum_degree {P : Program} {w : World} {K : PySem.W.Frag} {mg : Str → Option Value} {base : Heap} (T : Tx K mg)  : Fn P w K mg base 1 (pr_Sum_degree.g K) ["self"] (sp_s_deg K) := by
  obtain ⟨fd, F⟩ := T.d_Sum_degree
  have hc_Sum := T.cl_Sum
  have hn_Sum_coefs := T.na_Sum_coefs
  refine ⟨fd, F.ok sc_Sum_degree (lift_len ?_) (fun cdv A outer s H vs Q E hr h => ?_), F.bindsN fun _ _ _ _ _ _ us hl => (match us, hl with | [_], _ => rfl), F.kp, lk_of F⟩
  · intro ts O P X h
    exact sp_s_deg_len h
  · have hu := hr.units
    refine ⟨_, (PSs.nox (pss_one (ps_ret (pe_callB (call_max2 rfl) (by rfl) T.n_max boot_max (pa_cons pe_int (pa_cons (pe_op op_sub (pe_callB (cr_lenK K) (by rfl) T.n_len boot_len (pa_cons (pe_fldK K (pv 0)) pa_nil)) pe_int) pa_nil)))))), enter h fun ts O P X h _ => ?_⟩
    try dsimp only [cxOf, Cx.nox, Cx.wish]
    
    obtain ⟨m, cs, rfl, rfl, p⟩ := h
    show WS _ _ _ _ [.v (sumD K m cs)] _
    repeat walk_at "e"
    refine c_max2 ?_
    rw [nums_len, max_len]
    exact ⟨rfl, p⟩
theorem sc_coefs_read : FnScope ["words", "modulus", "found"] ["words", "modulus"] (defScope (top 39)) := ⟨rfl, rfl, rfl, by decide +kernel, rfl, by decide +kernel, by decide +kernel⟩
theorem ok_coefs_read {P : Program} {w : World} {K : PySem.W.Frag} {mg : Str → Option Value} {base : Heap} (T : Tx K mg) (h_Words_take_number : Fn P w K mg base 2 (He.fAd K ("Words", some "take_number")) ["self", "least", "most"] (sp_w_number K)) (h_Words_next_word : Fn P w K mg base 1 (He.fAd K ("Words", some "next_word")) ["self"] (sp_w_next K)) (h_Words_take_end : Fn P w K mg base 2 (He.fAd K ("Words", some "take_end")) ["self"] (sp_w_end K)) (h_Words_refuse : Fn P w K mg base 1 (He.fAd K ("Words", some "refuse")) ["self"] (sp_w_refuse K)) : Fn P w K mg base 3 (He.fAd K ("coefs_read", none)) ["words", "modulus"] (sp_w_coefs K) := by
  obtain ⟨_, F_Words_take_number, b_Words_take_number, kp_Words_take_number, lk_Words_take_number⟩ := h_Words_take_number
  obtain ⟨_, F_Words_next_word, b_Words_next_word, kp_Words_next_word, lk_Words_next_word⟩ := h_Words_next_word
  obtain ⟨_, F_Words_take_end, b_Words_take_end, kp_Words_take_end, lk_Words_take_end⟩ := h_Words_take_end
  obtain ⟨_, F_Words_refuse, b_Words_refuse, kp_Words_refuse, lk_Words_refuse⟩ := h_Words_refuse
  obtain ⟨fd, F⟩ := T.d_coefs_read
  obtain ⟨_, T_i_MOST_COEFS⟩ := T.i_MOST_COEFS_
  refine ⟨fd, F.ok sc_coefs_read (lift_len ?_) (fun cdv A outer s H vs Q E hr h => ?_), F.bindsN fun _ _ _ _ _ _ us hl => (match us, hl with | [_, _], _ => rfl), F.kp, lk_of F⟩
  · intro ts O P X h
    exact sp_w_coefs_len h
  · have hu := hr.units
    refine ⟨_, (PSs.nox (pss_cons (ps_set (i := 2) sc_coefs_read.nd rfl (.inl rfl) (pe_lst (pa_cons (pe_meth (pv 0) T.cl_Words T.me_Words_take_number F_Words_take_number (hr.mono (by decide)) b_Words_take_number .nil passL (pa_cons pe_int (pa_cons (pe_op op_sub (pv 1) pe_int) pa_nil))) pa_nil)))
    (pss_cons (ps_while PassesOwn.never (PW.pt (pw_and (pt_cmpR op_lt (pe_callB (cr_lenK K) (by rfl) T.n_len boot_len (pa_cons (pv 2) pa_nil)) (pe_glob (v := .int 13) (by rfl) T_i_MOST_COEFS ⟨_, rfl⟩) (nomark _)) (pw_and1 (pt_cmpR op_notN1 (pe_meth0 (pv 0) T.cl_Words T.me_Words_next_word F_Words_next_word (hr.mono (by decide)) b_Words_next_word .nil passL) pe_non (nomark _)))))
    (pss_one (ps_expr (pe_bm PySem.F.plainAttrs_list PySem.F.slot_list_append PySem.F.type_list_append mt_append (pv 2) (pa_cons (pe_meth (pv 0) T.cl_Words T.me_Words_take_number F_Words_take_number (hr.mono (by decide)) b_Words_take_number .nil passL (pa_cons pe_int (pa_cons (pe_op op_sub (pv 1) pe_int) pa_nil))) pa_nil)))))
    (pss_cons (ps_expr (pe_meth0 (pv 0) T.cl_Words T.me_Words_take_end F_Words_take_end (hr.mono (by decide)) b_Words_take_end .nil passL))
    (pss_cons (ps_if (PW.pt (pw_and (pt_cmpR op_gt (pe_callB (cr_lenK K) (by rfl) T.n_len boot_len (pa_cons (pv 2) pa_nil)) pe_int (nomark _)) (pw_and1 (pt_cmpR op_eq (pe_ix (ix_listK K) (pv 2) (pe_un un_neg pe_int) (fun _ _ => rfl)) pe_int (nomark _)))))
    (pss_one (ps_expr (pe_meth0 (pv 0) T.cl_Words T.me_Words_refuse F_Words_refuse (hr.mono (by decide)) b_Words_refuse .nil passL)))
    pss_nil)
    (pss_one (ps_ret (pv 2)))))))), enter h fun ts O P X h _ => ?_⟩
    try dsimp only [cxOf, Cx.nox, Cx.wish]
    
    obtain ⟨pre, m, ns, rfl, rfl, hne, hl, hm, hlt, hlast, p⟩ := h
    obtain ⟨ws, hws⟩ : ∃ ws, ws = pre ++ ns.map numS := ⟨_, rfl⟩
    have lws : ws.length = pre.length + ns.length := by rw [hws, List.length_append, List.length_map]
    rw [← hws] at p
    have at_ : ∀ i n, ns[i]? = some n → ws[pre.length + i]? = some (numS n) := fun i n h => by rw [hws]; exact get_pre h
    have bd : ∀ n ∈ ns, n < 10 ^ 40 := fun n hn => by
      have := hlt n hn
      omega
    obtain ⟨n0, r0, rfl⟩ := List.exists_cons_of_ne_nil hne
    rw [← hws]
    have h0 := hlt n0 List.mem_cons_self
    show WS _ _ _ [wdO K ws pre.length] [.own 0, .v (.int m), .no] _
    refine s_seq ?_
    refine s_set ?_
    refine w_lstO ?_
    repeat walk_at "e"
    refine ⟨ws, pre.length, n0, 0, m - 1, rfl, rfl, at_ 0 n0 rfl, bd n0 List.mem_cons_self, by omega, by omega, ⟨_, rfl, rfl, ?_⟩⟩
    repeat walk_at "e"
    refine s_cut (fun ts' O' => O' = [wdO K ws (pre.length + (n0 :: r0).length), .lst (nums ((n0 :: r0).map fun n : Nat => (n : Int)))] ∧ ts' = [.own 0, .v (.int m), .own 1]) ?_ ?_
    · refine s_while (fun j ts' O' => ∃ i : Nat, 1 ≤ i ∧ j + i = (n0 :: r0).length ∧ O' = [wdO K ws (pre.length + i), .lst (nums (((n0 :: r0).take i).map fun n : Nat => (n : Int)))] ∧ ts' = [.own 0, .v (.int m), .own 1]) r0.length ⟨1, Nat.le_refl _, by rw [List.length_cons], rfl, rfl⟩ ?_
      rintro j _ _ ⟨i, hi1, hij, rfl, rfl⟩
      have hi2 : i ≤ (n0 :: r0).length := by omega
      by_cases hfull : i = (n0 :: r0).length
      · subst hfull
        have fin : (nums (((n0 :: r0).take (n0 :: r0).length).map fun n : Nat => (n : Int))) = nums ((n0 :: r0).map fun n : Nat => (n : Int)) := by rw [List.take_length]
        rw [fin]
        repeat walk_at "e"
        rw [nums_len, List.length_map]
        by_cases h13 : (((n0 :: r0).length : Nat) : Int) < 13
        · rw [decide_eq_true h13]
          repeat walk_at "e"
          refine ⟨ws, pre.length + (n0 :: r0).length, rfl, rfl, ⟨_, rfl, rfl, ?_⟩⟩
          rw [List.getElem?_eq_none (by omega)]
          repeat walk_at "e"
          exact ⟨rfl, rfl⟩
        · rw [decide_eq_false h13]
          repeat walk_at "e"
          exact ⟨rfl, rfl⟩
      · have hi : i < (n0 :: r0).length := by omega
        obtain ⟨n, hn⟩ : ∃ n, (n0 :: r0)[i]? = some n := ⟨_, List.getElem?_eq_getElem hi⟩
        have hw := at_ i n hn
        have hlt2 := hlt n (List.mem_of_getElem? hn)
        repeat walk_at "e"
        rw [nums_len, List.length_map, List.length_take, Nat.min_eq_left hi2, decide_eq_true (show ((i : Nat) : Int) < 13 by omega)]
        repeat walk_at "e"
        refine ⟨ws, pre.length + i, rfl, rfl, ⟨_, rfl, rfl, ?_⟩⟩
        rw [hw]
        repeat walk_at "e"
        refine ⟨ws, pre.length + i, n, 0, m - 1, rfl, rfl, hw, bd n (List.mem_of_getElem? hn), by omega, by omega, ⟨_, rfl, rfl, ?_⟩⟩
        repeat walk_at "e"
        refine m_append (by exact rfl) (lt_sz (by rw [List.length_map, List.length_take]; omega)) ?_
        have e : (((n0 :: r0).take i).map fun n : Nat => (n : Int)) ++ [(n : Int)] = ((n0 :: r0).take (i + 1)).map fun n : Nat => (n : Int) := by
          rw [List.take_succ, hn, List.map_append]
          rfl
        rw [nums_app, e]
        exact ⟨j - 1, by omega, i + 1, by omega, by omega, rfl, rfl⟩
    rintro _ _ ⟨rfl, rfl⟩
    walk_at "n"
    refine ⟨ws, pre.length + (n0 :: r0).length, rfl, rfl, by omega, ⟨_, rfl, rfl, ?_⟩⟩
    refine s_cut (fun ts' O' => O' = [wdO K ws (pre.length + (n0 :: r0).length), .lst (nums ((n0 :: r0).map fun n : Nat => (n : Int)))] ∧ ts' = [.own 0, .v (.int m), .own 1]) ?_ ?_
    · repeat walk_at "e"
      rw [nums_len, List.length_map]
      refine br (fun h1 => ?_) (fun h1 => ?_)
      · obtain ⟨fs, z, hz⟩ : ∃ fs z, n0 :: r0 = fs ++ [z] := ⟨_, _, (List.dropLast_concat_getLast (by intro z; cases z)).symm⟩
        have hz0 : z ≠ 0 := fun h => by
          have := hlast (by omega)
          rw [hz, List.getLast?_append, h] at this
          exact this rfl
        have ez : ((n0 :: r0).map fun n : Nat => (n : Int)) = (fs.map fun n : Nat => (n : Int)) ++ [(z : Int)] := by rw [hz, List.map_append] <;> rfl
        rw [ez]
        repeat walk_at "e"
        refine w_ixL (lstD_o (by exact rfl)) atI_m1n ?_
        repeat walk_at "e"
        rw [decide_eq_false (show ¬ ((z : Nat) : Int) = 0 by omega)]
        repeat walk_at "e"
        exact ⟨rfl, rfl⟩
      · repeat walk_at "e"
        exact ⟨rfl, rfl⟩
    rintro _ _ ⟨rfl, rfl⟩
    repeat walk_at "e"
    exact ⟨rfl, p⟩
theorem sc_Sum_read : FnScope ["text", "words", "modulus", "found"] ["text"] (defScope (inClass (top 41) 3)) := ⟨rfl, rfl, rfl, by decide +kernel, rfl, by decide +kernel, by decide +kernel⟩
theorem ok_Sum_read {P : Program} {w : World} {K : PySem.W.Frag} {mg : Str → Option Value} {base : Heap} (T : Tx K mg) (h_WordsU_initU : Fn P w K mg base 1 (He.fAd K ("Words", some "__init__")) ["self", "line", "text"] (sp_w_init K)) (h_Words_take_word : Fn P w K mg base 2 (He.fAd K ("Words", some "take_word")) ["self", "menu"] (sp_w_word K)) (h_Words_take_number : Fn P w K mg base 2 (He.fAd K ("Words", some "take_number")) ["self", "least", "most"] (sp_w_number K)) (h_coefs_read : Fn P w K mg base 3 (He.fAd K ("coefs_read", none)) ["words", "modulus"] (sp_w_coefs K)) (h_SumU_initU : FnS P w K mg base 4 (He.fAd K ("Sum", some "__init__")) 2 (sp_s_init K)) : Fn P w K mg base 6 (pr_Sum_read.g K) ["text"] (sp_s_read K) := by
  obtain ⟨_, F_WordsU_initU, b_WordsU_initU, kp_WordsU_initU, lk_WordsU_initU⟩ := h_WordsU_initU
  obtain ⟨_, F_Words_take_word, b_Words_take_word, kp_Words_take_word, lk_Words_take_word⟩ := h_Words_take_word
  obtain ⟨_, F_Words_take_number, b_Words_take_number, kp_Words_take_number, lk_Words_take_number⟩ := h_Words_take_number
  obtain ⟨_, F_coefs_read, b_coefs_read, kp_coefs_read, lk_coefs_read⟩ := h_coefs_read
  obtain ⟨F_SumU_initU, kp_SumU_initU⟩ := h_SumU_initU
  obtain ⟨fd, F⟩ := T.d_Sum_read
  obtain ⟨_, T_i_MOST_MODULUS⟩ := T.i_MOST_MODULUS_
  refine ⟨fd, F.ok sc_Sum_read (lift_len ?_) (fun cdv A outer s H vs Q E hr h => ?_), F.bindsN fun _ _ _ _ _ _ us hl => (match us, hl with | [_], _ => rfl), F.kp, lk_of F⟩
  · intro ts O P X h
    exact sp_s_read_len h
  · have hu := hr.units
    refine ⟨_, (PSs.nox (pss_cons (ps_set (i := 1) sc_Sum_read.nd rfl (.inl rfl) (pe_make T.mk_Words F_WordsU_initU (hr.mono (by decide)) (by rfl) T.g_Words b_WordsU_initU .nil passL (pa_cons pe_int (pa_cons (pv 0) pa_nil))))
    (pss_cons (ps_expr (pe_meth (pv 1) T.cl_Words T.me_Words_take_word F_Words_take_word (hr.mono (by decide)) b_Words_take_word .nil passL (pa_cons (pe_tup (pa_cons pe_str pa_nil)) pa_nil)))
    (pss_cons (ps_set (i := 2) sc_Sum_read.nd rfl (.inl rfl) (pe_meth (pv 1) T.cl_Words T.me_Words_take_number F_Words_take_number (hr.mono (by decide)) b_Words_take_number .nil passL (pa_cons pe_int (pa_cons (pe_glob (v := .int 1000000000000000000000000000000) (by rfl) T_i_MOST_MODULUS ⟨_, rfl⟩) pa_nil))))
    (pss_cons (ps_expr (pe_meth (pv 1) T.cl_Words T.me_Words_take_word F_Words_take_word (hr.mono (by decide)) b_Words_take_word .nil passL (pa_cons (pe_tup (pa_cons pe_str pa_nil)) pa_nil)))
    (pss_cons (ps_set (i := 3) sc_Sum_read.nd rfl (.inl rfl) (pe_call F_coefs_read (hr.mono (by decide)) (by rfl) T.g_coefs_read kp_coefs_read b_coefs_read .nil passL (pa_cons (pv 1) (pa_cons (pv 2) pa_nil))))
    (pss_one (ps_ret (pe_makeZ T.mk_Sum F_SumU_initU (hr.mono (by decide)) (by rfl) T.g_Sum passL (pa_cons (pv 2) (StX.pa_star (pv 3) pa_nil))))))))))), enter h fun ts O P X h _ => ?_⟩
    try dsimp only [cxOf, Cx.nox, Cx.wish]
    
    obtain ⟨m, cs, rfl, rfl, ok, p⟩ := h
    have ok1 := ok.two
    have ok2 := ok.most
    have hl := textOf_len ok
    have hs := split_textOf ok
    obtain ⟨ws, hws⟩ : ∃ ws, ws = Txt.split (textOf m cs) (" " : Str) := ⟨_, rfl⟩
    rw [← hws] at hs
    have emm : ((m.toNat : Nat) : Int) = m := Int.toNat_of_nonneg (by omega)
    show WS _ _ _ _ [.v (.str (textOf m cs)), .no, .no, .no] _
    walk_at "n"
    refine ⟨textOf m cs, rfl, rfl, Nat.le_trans (show (textOf m cs).length + 2 ≤ 4002 by omega) (Nat.le_of_ble_eq_true rfl), ⟨rfl, _, rfl, ?_⟩⟩
    rw [← hws]
    walk_at "n"
    refine ⟨ws, 0, "modulo", ["modulo"], rfl, rfl, by rw [hs] <;> rfl, by decide +kernel, ⟨_, rfl, rfl, ?_⟩⟩
    walk_at "n"
    refine ⟨ws, 1, m.toNat, 2, 1000000000000000000000000000000, rfl, rfl, by rw [hs] <;> rfl, by omega, by omega, by omega, ⟨_, rfl, rfl, ?_⟩⟩
    rw [emm]
    walk_at "n"
    refine ⟨ws, 2, ":", [":"], rfl, rfl, by rw [hs] <;> rfl, by decide +kernel, ⟨_, rfl, rfl, ?_⟩⟩
    walk_at "n"
    have wr : wrote cs ≠ [] ∧ (wrote cs).length ≤ 13 ∧ (∀ n ∈ wrote cs, (n : Int) < m) ∧ (1 < (wrote cs).length → (wrote cs).getLast? ≠ some 0) ∧ tr m ((wrote cs).map fun n : Nat => (n : Int)) = cs := by
      unfold wrote
      by_cases h0 : cs = []
      · subst h0
        refine ⟨by decide, by decide, fun n hn => ?_, fun z => absurd z (by decide), ?_⟩
        · rw [List.mem_singleton.mp hn]
          omega
        · show tr m [0] = []
          exact My.tr_zeros m [] 1
      · rw [if_neg h0]
        have eid : ((cs.map Int.toNat).map fun n : Nat => (n : Int)) = cs := by
          rw [List.map_map]
          have : cs.map ((fun n : Nat => (n : Int)) ∘ Int.toNat) = cs.map id := List.map_congr_left fun c hc => Int.toNat_of_nonneg (ok.inr c hc).1
          rw [this, List.map_id]
        refine ⟨fun z => h0 (List.map_eq_nil_iff.mp z), by rw [List.length_map]; exact ok.len, fun n hn => ?_, fun _ z => ?_, by rw [eid, ok.same]⟩
        · obtain ⟨c, hc, rfl⟩ := List.mem_map.mp hn
          rw [Int.toNat_of_nonneg (ok.inr c hc).1]
          exact (ok.inr c hc).2
        · obtain ⟨zs, z1, rfl⟩ : ∃ zs z1, cs = zs ++ [z1] := ⟨_, _, (List.dropLast_concat_getLast h0).symm⟩
          rw [List.map_append, List.getLast?_append] at z
          have z2 : z1.toNat = 0 := by
            have : some z1.toNat = some 0 := z
            injection this
          have z3 := (ok.inr z1 (List.mem_append_right _ (List.mem_singleton.mpr rfl))).1
          have z4 : z1 = 0 := by omega
          subst z4
          have := ok.fin
          rw [My.cut_snoc0] at this
          have l := My.cut_len zs
          rw [this, List.length_append, List.length_singleton] at l
          omega
    obtain ⟨w1, w2, w3, w4, w5⟩ := wr
    have hs2 : ws = [("modulo" : Str), numS m.toNat, (":" : Str)] ++ (wrote cs).map numS := hs
    rw [hs2]
    refine ⟨[("modulo" : Str), numS m.toNat, (":" : Str)], m, wrote cs, rfl, rfl, w1, w2, ok2, w3, w4, ⟨_, rfl, rfl, ?_⟩⟩
    repeat walk_at "e"
    refine w_makeS ?_
    repeat walk_at "e"
    refine ⟨_, .inl valD_v, ?_⟩
    repeat walk_at "e"
    refine u_make ((wrote cs).map fun n : Nat => (n : Int)) ok1 ok2 (by rw [List.length_map]; exact w2) ?_
    rw [w5]
    exact ⟨rfl, p⟩
end My

set_option Elab.async false
set_option linter.all false
namespace My
/-- what a power of p divides times a number below a power of p, a lesser one divides alone -/
theorem pw_smallS {p e s : Nat} (hp : p ∈ PR) {i : Nat} (h1 : 1 ≤ i) (h2 : i < p ^ (s + 1)) {x : Int} (h : ((p ^ (e + s) : Nat) : Int) ∣ (i : Int) * x) : ((p ^ e : Nat) : Int) ∣ x := by
  have p2 := (pr_two hp).1
  have hz : x.natAbs = 0 ∨ 1 ≤ x.natAbs := by omega
  rcases hz with hz | hz
  · rw [Int.natAbs_eq_zero.mp hz]
    exact Int.dvd_zero _
  have h3 := Int.ofNat_dvd_left.mp h
  rw [Int.natAbs_mul, Int.natAbs_natCast] at h3
  obtain ⟨q, e1, q1⟩ := vl_spec p2 h1
  obtain ⟨r, e2, r1⟩ := vl_spec p2 hz
  have hi : vl p i ≤ s := by
    refine Nat.le_of_not_lt fun z => ?_
    have : p ^ (s + 1) ≤ i := by
      rw [e1]
      refine Nat.le_trans (Nat.pow_le_pow_right (by omega) z) (Nat.le_mul_of_pos_right _ ?_)
      refine Nat.pos_of_ne_zero fun z2 => q1 ?_
      rw [z2, Nat.zero_mod]
    omega
  refine Int.ofNat_dvd_left.mpr ?_
  have c1 : Nat.Coprime q p := pr_no hp q1
  have c2 : Nat.Coprime r p := pr_no hp r1
  have h4 : p ^ (e + s) ∣ p ^ (vl p i + vl p x.natAbs) := by
    have e3 : i * x.natAbs = p ^ (vl p i + vl p x.natAbs) * (q * r) := by
      rw [Nat.pow_add]
      calc i * x.natAbs = (p ^ vl p i * q) * (p ^ vl p x.natAbs * r) := by rw [← e1, ← e2]
        _ = _ := by simp only [Nat.mul_comm, Nat.mul_left_comm, Nat.mul_assoc]
    rw [e3] at h3
    exact Nat.Coprime.dvd_of_dvd_mul_right ((Nat.Coprime.mul_left c1 c2).symm.pow_left _) h3
  have h5 := (pw_le hp).mp h4
  rw [e2]
  exact Nat.dvd_trans (Nat.pow_dvd_pow p (by omega)) (Nat.dvd_mul_right _ _)
theorem pw_periodS {p : Nat} (hp : p ∈ PR) (e s : Nat) {cs : List Int} (hl : cs.length - 1 < p ^ (s + 1)) : Per (p ^ e) cs ((p ^ (e + s) : Nat) : Int) := by
  rw [per_rows]
  intro r hr
  refine VK_terms 1 _ fun i hi => ?_
  rw [List.length_drop] at hi
  refine Int.dvd_mul_of_dvd_right ?_
  refine pw_smallS hp (s := s) (i := 1 + i) (by omega) (by omega) ?_
  have e1 := bin_less ((p ^ (e + s) : Nat) : Int) i
  rw [show ((1 + i : Nat) : Int) = (i : Int) + 1 by omega, show 1 + i = i + 1 by omega, e1]
  exact Int.dvd_mul_right _ _
end My

set_option Elab.async false
set_option linter.all false
set_option maxRecDepth 100000
set_option maxHeartbeats 1000000
namespace My
/-- the exponent of the least period, bound by the degree -/
theorem lp_most {p e s t : Nat} (hp : p ∈ PR) {cs : List Int} (hl : cs.length ≤ p ^ (s + 1)) (h : IsLp (p ^ e) cs (p ^ t)) : t ≤ e + s :=
  (pw_le hp).mp (Int.ofNat_dvd.mp ((h.2 _).mp (pw_periodS hp e s (by have : 0 < p ^ (s + 1) := Nat.pow_pos (by have := (pr_two hp).1; omega); omega))))
theorem lp_uniqP {p e t u : Nat} (hp : p ∈ PR) {cs : List Int} (h : IsLp (p ^ e) cs (p ^ t)) (k : IsLp (p ^ e) cs (p ^ u)) : t = u := by
  have h1 := h.uniq k
  exact Nat.le_antisymm ((pw_le hp).mp (by rw [h1]; exact Nat.dvd_refl _)) ((pw_le hp).mp (by rw [h1]; exact Nat.dvd_refl _))
end My

set_option Elab.async false
set_option linter.all false
set_option maxRecDepth 100000
set_option maxHeartbeats 1000000
namespace My
open G (InR)
theorem dvd_gcdL : ∀ {ns : List Int} {m d : Nat}, d ∣ m → (∀ n ∈ ns, (d : Int) ∣ n) → d ∣ gcdL m ns
  | [], _, _, h, _ => h
  | n :: ns, m, d, h, k => by
    rw [gcdL_cons]
    exact dvd_gcdL (Nat.dvd_gcd h (Int.ofNat_dvd_left.mp (k n List.mem_cons_self))) fun x hx => k x (List.mem_cons_of_mem _ hx)
theorem dvd_sumM {d : Int} : ∀ {ms ns : List Int}, (∀ n ∈ ns, d ∣ n) → d ∣ sumM ms ns
  | [], [], _ => Int.dvd_zero _
  | [], _ :: _, _ => Int.dvd_zero _
  | _ :: _, [], _ => Int.dvd_zero _
  | x :: ms, y :: ns, h => by
    have e : sumM (x :: ms) (y :: ns) = x * y + sumM ms ns := by
      unfold sumM
      rw [List.zipWith_cons_cons, List.sum_cons]
    rw [e]
    exact Int.dvd_add (Int.dvd_mul_of_dvd_right (h y List.mem_cons_self)) (dvd_sumM fun n hn => h n (List.mem_cons_of_mem _ hn))
/-- what the rest tells -/
def dvOf (g : Nat) (r : Int) : Int := if 0 < r then r else g
theorem dv_shown {g : Nat} {ns ms : List Int} (hg : 1 ≤ g) : (((dvOf g (sumM ms ns % (g : Int))) ∣ (g : Int)) ∧ ∀ n ∈ ns, dvOf g (sumM ms ns % (g : Int)) ∣ n) ↔ (g : Int) ∣ sumM ms ns - (gcdL g ns : Nat) := by
  have g0 := gcdL_pos hg ns
  have gd := gcdL_dvd ns g
  have gle := gcdL_le hg ns
  have r0 := Int.emod_nonneg (sumM ms ns) (show (g : Int) ≠ 0 by omega)
  have r1 := Int.emod_lt_of_pos (sumM ms ns) (show (0 : Int) < g by omega)
  constructor
  · rintro ⟨h1, h2⟩
    obtain ⟨d, hd⟩ : ∃ d : Nat, dvOf g (sumM ms ns % (g : Int)) = d := ⟨(dvOf g (sumM ms ns % (g : Int))).toNat, by unfold dvOf; split <;> omega⟩
    rw [hd] at h1 h2
    have k1 : d ∣ gcdL g ns := dvd_gcdL (Int.ofNat_dvd.mp h1) h2
    have k2 : gcdL g ns ∣ d := by
      have a : ((gcdL g ns : Nat) : Int) ∣ sumM ms ns := dvd_sumM fun n hn => Int.ofNat_dvd_left.mpr (gcdL_mem ns g n hn)
      have b : ((gcdL g ns : Nat) : Int) ∣ (g : Int) := Int.ofNat_dvd.mpr gd
      have c : ((gcdL g ns : Nat) : Int) ∣ sumM ms ns % (g : Int) := by
        rw [Int.emod_def]
        exact Int.dvd_sub a (Int.dvd_mul_of_dvd_left b)
      unfold dvOf at hd
      refine Int.ofNat_dvd.mp ?_
      rw [← hd]
      split
      · exact c
      · exact b
    have e : d = gcdL g ns := Nat.dvd_antisymm k1 k2
    rw [← e, ← hd]
    unfold dvOf
    split
    · exact Int.dvd_self_sub_emod
    · have z : sumM ms ns % (g : Int) = 0 := by omega
      exact Int.dvd_sub (Int.dvd_of_emod_eq_zero z) (Int.dvd_refl _)
  · intro h
    have e : sumM ms ns % (g : Int) = ((gcdL g ns : Nat) : Int) % (g : Int) := Int.emod_eq_emod_iff_emod_sub_eq_zero.mpr (Int.emod_eq_zero_of_dvd h)
    have ed : dvOf g (sumM ms ns % (g : Int)) = (gcdL g ns : Nat) := by
      rw [e]
      unfold dvOf
      rcases Nat.lt_or_eq_of_le gle with lt | eq
      · rw [Int.emod_eq_of_lt (by omega) (by omega), if_pos (by omega)]
      · rw [eq, Int.emod_self, if_neg (by omega)]
    rw [ed]
    exact ⟨Int.ofNat_dvd.mpr gd, fun n hn => Int.ofNat_dvd_left.mpr (gcdL_mem ns g n hn)⟩
theorem dv_is {g : Nat} {ns ms : List Int} (hg : 1 ≤ g) (h : (g : Int) ∣ sumM ms ns - (gcdL g ns : Nat)) : dvOf g (sumM ms ns % (g : Int)) = (gcdL g ns : Nat) := by
  have gle := gcdL_le hg ns
  have g0 := gcdL_pos hg ns
  have e : sumM ms ns % (g : Int) = ((gcdL g ns : Nat) : Int) % (g : Int) := Int.emod_eq_emod_iff_emod_sub_eq_zero.mpr (Int.emod_eq_zero_of_dvd h)
  rw [e]
  unfold dvOf
  rcases Nat.lt_or_eq_of_le gle with lt | eq
  · rw [Int.emod_eq_of_lt (by omega) (by omega), if_pos (by omega)]
  · rw [eq, Int.emod_self, if_neg (by omega)]
end My

set_option Elab.async false
set_option linter.all false
set_option maxRecDepth 100000
set_option maxHeartbeats 1000000
namespace G
open PySem PySem.Spec PyProof.Rows L2
end G

set_option Elab.async false
set_option linter.all false
set_option maxRecDepth 100000
set_option maxHeartbeats 4000000
namespace G
open PySem PySem.Spec PyProof.Rows L2 TL
end G

set_option Elab.async false
set_option linter.all false
set_option maxRecDepth 100000
set_option maxHeartbeats 4000000
namespace G
open PySem PySem.Spec PyProof.Rows L2 TL
end G

set_option Elab.async false
set_option linter.all false
set_option maxRecDepth 100000
set_option maxHeartbeats 4000000
namespace G
open PySem PySem.Spec PyProof.Rows L2
end G

set_option Elab.async false
set_option linter.all false
set_option maxRecDepth 100000
set_option maxHeartbeats 4000000
namespace G
open PySem PySem.Spec PyProof.Rows L2
section
variable {K : PySem.W.Frag} {W : WX} {O : List OD} {ts : List T} {P : PT'} {X : XX} {sp : SpD} {tr : TA} {ta : TE} {C : Addr} {m : Str}
end
end G

set_option Elab.async false
set_option linter.all false
set_option maxRecDepth 100000
set_option maxHeartbeats 4000000
namespace G
open PySem PySem.Spec PyProof.Rows L2 TL
section
variable {K : PySem.W.Frag} {W : WX} {O : List OD} {ts : List T} {P : PT'} {X : XX} {ta tb : TE}
end
theorem eqD_nil (ds : List D) : eqD (.lst ds) (.lst []) = decide (ds = []) := by
  cases ds with
  | nil => rfl
  | cons d ds =>
    rw [decide_eq_false (fun z => by cases z)]
    unfold eqD
    simp only [toP, toPs]
    rfl
end G

set_option Elab.async false
set_option linter.all false
set_option maxRecDepth 100000
set_option maxHeartbeats 4000000
namespace G
open PySem PySem.Spec PyProof.Rows L2
def tMakeKX (C : Addr) (tw : Bool) (sp : Sp) (E : L2.St → XK) (tk : TA) : TE := fun σ H Q => tk σ H fun zs H1 => ∀ x dx, H1 x = Option.none → H1 dx = Option.none → dx ≠ x →
  sp (V.ref x :: turnL tw zs) (upd (upd H1 dx (.own x)) x (.ins C dx [])) (fun v H2 => v = .non ∧ Q (.ref x) H2) (E σ)
section
variable {X : Cx} {CX : CXT} {k : Nat} {f C : Addr} {fd : FuncData} {ps ks : List Str} {sp : Sp} {E : L2.St → XK} {x : Str} {kws : List Keyword} {tk : TA} {tw : Bool} {p pos : Pos}
end
section
variable {K : PySem.W.Frag} {W : WX} {O : List OD} {ts : List T} {P : PT'} {X : XX} {sp : SpD} {tk : TA} {C : Addr} {tw : Bool}
theorem w_makeKX (h : WA K W tk O ts (fun xs O1 => ∃ ds, unv xs = some ds ∧ sp (.own 0 :: (turnL tw ds).map T.v) [.ins C []] (fun t O' => t = .v .non ∧ ∃ fs, O' = [.ins C fs] ∧ P (.v (.ins C fs)) O1) (fun C' fs O' => (∃ o', O' = [o']) ∧ X C' fs O1)) X) :
    WE K W (tMakeKX C tw (lift K sp) (L2.WE W) tk) O ts P X := fun b A σ H Q s rs kv kx =>
  h b A σ H _ s rs (fun xs vs A1 O1 H1 p1 s1 n1 r1 x dx hx hdx hne => by
    obtain ⟨ds, e, p⟩ := p1
    obtain ⟨s3, n3⟩ := new_at (C := C) s1 hx hdx hne
    exact new_core s1 hx s3 n3.ext ((turn_rep r1 e).nxt n3) unv_map p (kv.nxt n1) (kx.nxt n1)) kx
end
section
variable {X : Cx} {CX : CXT} {k : Nat} {C g : Addr} {sp : Sp} {E : XK}
end
end G

set_option Elab.async false
set_option linter.all false
set_option maxRecDepth 100000
set_option maxHeartbeats 4000000
namespace G
open PySem PySem.Spec PyProof.Rows L2
section
variable {K : PySem.W.Frag} {W : WX} {O : List OD} {ts : List T} {P : PT'} {X : XX} {sp : SpD} {tk : TA} {ta : TE} {C : Addr} {tw : Bool}
theorem w_smethK0 (h : WE K W ta O ts (fun x O1 => x = .v (.ref C) ∧ WA K W tk O1 ts (fun xs O2 => ∃ ds, unv xs = some ds ∧ sp ((turnL tw ds).map T.v) [] (fun t _ => (∃ d, t = .v d) ∧ P t O2) (fun _ _ _ => False)) X) X) :
    WE K W (tSMethK C tw (lift K sp) (fun _ => E0) ta tk) O ts P X := fun b A σ H Q s rs kv kx =>
  h b A σ H _ s rs (fun x v A1 O1 H1 p1 s1 n1 r1 => by
    obtain ⟨rfl, p⟩ := p1
    obtain ⟨_, e1, e2⟩ := id r1
    cases e1
    refine ⟨e2, p b A1 σ H1 _ s1 (rs.nxt n1) (fun xs us A2 O2 H2 p2 s2 n2 r2 => ?_) (kx.nxt n1)⟩
    obtain ⟨ds, e, q⟩ := p2
    exact lift_p (W := fun _ _ _ _ => False) (X := fun _ _ _ => False) (σ := σ) s2 (xs := (turnL tw ds).map T.v) (ds := turnL tw ds) (turn_rep r2 e) unv_map (fun _ _ _ z => z) q (kv.nxt (n1.trans n2)) (fun C fs A' O' H' d z => z.elim)) kx
end
end G

set_option Elab.async false
set_option linter.all false
set_option maxRecDepth 100000
set_option maxHeartbeats 4000000
namespace G
open PySem PySem.Spec PyProof.Rows L2
/-- shown as p, nested at most k deep, within n signs -/
structure Shw (d : D) (p : PyData) (k n : Nat) : Prop where
  py : pyD d = some p
  ok : p.showable = true
  dp : p.depth ≤ k
  len : p.shown.length ≤ n
  so : PyData.strOk p.shown = true
theorem Shw.mono {d : D} {p : PyData} {k n k' n' : Nat} (h : Shw d p k n) (hk : k ≤ k' := by decide) (hn : n ≤ n' := by decide) : Shw d p k' n' := ⟨h.py, h.ok, Nat.le_trans h.dp hk, Nat.le_trans h.len hn, h.so⟩
end G

set_option Elab.async false
set_option linter.all false
set_option maxRecDepth 100000
set_option maxHeartbeats 4000000
namespace G
open PySem PySem.Spec PyProof.Rows L2 LamX
/-- the def that got the lambda, wherever it is called -/
structure GivesA (X : Cx) (Ng : List Str) (x : Str) (sg : Scope) (g : Addr) (cdg : Value) (bg : List Stmt) (a : Str) (th : (WX → TE) → TS) : Prop where
  of : ∀ (stk : List Env) (s : Shared) (H : Hp) (ta : WX → TE),
    (∀ (W : WX) (pn : List (Addr × Obj)) (xe : Value → Shared → Prop) (p1 p2 : Pos), Takes ((cxOf C8.CX0 X.prog X.w X.K X.mg X.base Ng x sg g cdg X.A stk s H C8.E0).tr pn xe) W →
      PE ((cxOf C8.CX0 X.prog X.w X.K X.mg X.base Ng x sg g cdg X.A stk s H C8.E0).tr pn xe) (.Call (.Name a p1) [] [] p2) (ta W)) →
    PSs (cxOf C8.CX0 X.prog X.w X.K X.mg X.base Ng x sg g cdg X.A stk s H C8.E0).nox bg (th ta)
theorem GivesA.at {X : Cx} {Ng : List Str} {x : Str} {sg : Scope} {g : Addr} {cdg : Value} {bg : List Stmt} {a : Str} {th : (WX → TE) → TS} (h : GivesA X Ng x sg g cdg bg a th) : GivesS X Ng x sg g cdg bg a th := fun s H ta act => h.of X.stack s H ta act
end G

set_option Elab.async false
set_option linter.all false
set_option maxRecDepth 100000
set_option maxHeartbeats 4000000
namespace G
open PySem PySem.Spec PyProof.Rows L2
/-- somewhere below the running body, with room -/
structure Blw (X : Cx) (n : Nat) (A : Around) : Prop where
  room : Room n A
  env : ∀ {pins : List (Addr × Obj)} {σ : L2.St} {H : Hp} {s : Shared}, Inv X pins σ H s → Env0 X.prog X.w X.K X.mg X.base A X.stack s H
theorem Blw.top {X : Cx} {n : Nat} (h : Room n X.A) : Blw X n X.A := ⟨h, fun I => I.env0⟩
theorem Blw.in1 {X : Cx} {n : Nat} {A : Around} (h : Blw X (n + 1) A) : Blw X n A.in1 := ⟨h.room.in1, fun I => (h.env I).in1⟩
section
variable {X : Cx} {CX : CXT} {k : Nat} {C g : Addr} {sp : SpD}
end
section
variable {X : Cx} {CX : CXT} {k n : Nat} {C g : Addr} {sp : SpD}
end
end G

set_option Elab.async false
set_option linter.all false
set_option maxRecDepth 100000
set_option maxHeartbeats 4000000
namespace G
open PySem PySem.Spec PyProof.Rows L2
section
variable {P : Program} {w : World} {K : PySem.W.Frag} {mg : Str → Option Value} {base : Heap} {k : Nat} {x qual : Str} {params : Arguments} {body : List Stmt} {scope : Scope} {f : Addr} {fd : FuncData} {N ps ks : List Str} {pv : Str} {sp : SpD} {tw : Bool}
end
section
variable {X : Cx} {k n : Nat} {f C : Addr} {ks : List Str} {sp : SpD} {x : Str} {kws : List Keyword} {tk : TA} {tw : Bool} {p pos : Pos}
end
section
variable {K : PySem.W.Frag} {W : WX} {O : List OD} {ts : List T} {P : PT'} {X : XX} {sp : SpD} {tk : TA} {C : Addr} {tw : Bool} {m n : Nat}
end
end G

set_option Elab.async false
set_option linter.all false
set_option maxRecDepth 100000
set_option maxHeartbeats 4000000
namespace G
open PySem PySem.Spec PyProof.Rows L2
variable {K : PySem.W.Frag} {O : List OD} {P : PT'}
theorem w_isBl {a c : Bool} (k : P (.v (.bl (decide (a = c)))) O) : WR K rIsB (.v (.bl a)) (.v (.bl c)) O P := fun b A H Q v u s r1 r2 kv => by
  obtain ⟨_, e1, rfl⟩ := r1
  obtain ⟨_, e2, rfl⟩ := r2
  cases e1
  cases e2
  exact ⟨a, c, rfl, rfl, kv _ _ A O H k s Nxt.refl ⟨_, rfl, rfl⟩⟩
theorem w_notBl {a c : Bool} (k : P (.v (.bl (!decide (a = c)))) O) : WR K rNotB (.v (.bl a)) (.v (.bl c)) O P := fun b A H Q v u s r1 r2 kv => by
  obtain ⟨_, e1, rfl⟩ := r1
  obtain ⟨_, e2, rfl⟩ := r2
  cases e1
  cases e2
  exact ⟨a, c, rfl, rfl, kv _ _ A O H k s Nxt.refl ⟨_, rfl, rfl⟩⟩
end G

set_option Elab.async false
set_option linter.all false
set_option maxRecDepth 100000
set_option maxHeartbeats 4000000
namespace G
open PySem PySem.Spec PyProof.Rows L2 HandSPX
section
variable {M : Model} {A : Around} {E : Value → Shared → Prop} {env : Env} {outer : List Env} {L e : Addr} {base : Heap} {Z : Obj → Prop} {s : Shared}
end
end G

set_option Elab.async false
set_option linter.all false
set_option maxRecDepth 100000
set_option maxHeartbeats 4000000
namespace G
open PySem PySem.Spec PyProof.Rows L2 HandSPX
end G

set_option Elab.async false
set_option linter.all false
set_option maxRecDepth 100000
set_option maxHeartbeats 4000000
namespace G
open PySem PySem.Spec PyProof.Rows L2 HandSPX
end G

set_option Elab.async false
set_option linter.all false
set_option maxRecDepth 100000
set_option maxHeartbeats 4000000
namespace G
open PySem PySem.Spec PyProof.Rows L2
section
variable {K : PySem.W.Frag} {E : XK} {O : List OD} {ts : List T} {P : PT'} {X : XX} {te : TE} {g : TG} {vs : List Nat}
end
end G

set_option Elab.async false
set_option linter.all false
set_option maxRecDepth 100000
set_option maxHeartbeats 4000000
namespace G
open PySem PySem.Spec PyProof.Rows L2
section
variable {K : PySem.W.Frag} {W : WX} {O : List OD} {ts : List T} {P : PT'} {X : XX} {sp : SpD} {tr tk : TA} {ta : TE} {C : Addr} {tw : Nat} {E : XK}
end
end G

set_option Elab.async false
set_option linter.all false
set_option maxRecDepth 100000
set_option maxHeartbeats 4000000
namespace PySem.W
open PySem PySem.Calls PyProof.Rows Builtin
section
variable {prog : Program} {w : World} {A : Around} {E : Value → Shared → Prop} {s : Shared} {K : Frag} {x C L f : Addr} {h₀ : Heap} {m : Str → Option Value} {ox : Obj} {od : Option Obj}
end
end PySem.W

namespace G
open PySem PySem.Spec PyProof.Rows L2
section
variable {X : Cx} {CX : CXT} {k : Nat} {C g : Addr} {sp : Sp} {E : L2.St → XK} {E1 : XK} {a b : Expr} {ta tb : TE} {pos : Pos}
end
section
variable {K : PySem.W.Frag} {W : WX} {O : List OD} {ts : List T} {P : PT'} {X : XX} {sp : SpD} {ta tb : TE} {C : Addr}
end
end G

set_option Elab.async false
set_option linter.all false
set_option maxRecDepth 100000
set_option maxHeartbeats 4000000
namespace G
open PySem PySem.Spec PyProof.Rows L2
end G

set_option Elab.async false
set_option linter.all false
set_option maxRecDepth 100000
set_option maxHeartbeats 4000000
namespace G
open PySem PySem.Spec PyProof.Rows L2
end G

set_option Elab.async false
set_option linter.all false
set_option maxRecDepth 100000
set_option maxHeartbeats 4000000
namespace G
open PySem PySem.Spec PyProof.Rows L2
variable {K : PySem.W.Frag} {W : WX} {O : List OD} {ts : List T}
end G

set_option Elab.async false
set_option linter.all false
set_option maxRecDepth 100000
set_option maxHeartbeats 2000000
namespace G
open PySem PySem.Spec PyProof.Rows L2
/-- neither a table nor a locked dict -/
def NU (o : HO) : Prop := NT o ∧ ∀ ob kvs, o ≠ .frz ob (.dK kvs)
theorem nu_lst {vs : List V} : NU (.lst vs) := ⟨fun _ z => (by cases z), fun _ _ z => (by cases z)⟩
theorem nu_tup {vs : List V} : NU (.tup vs) := ⟨fun _ z => (by cases z), fun _ _ z => (by cases z)⟩
theorem nu_fl {o : Obj} {vs : List V} : NU (.frz o (.lst vs)) := ⟨fun _ z => (by cases z), fun _ _ z => (by cases z)⟩
theorem nu_ft {o : Obj} {vs : List V} : NU (.frz o (.tup vs)) := ⟨fun _ z => (by cases z), fun _ _ z => (by cases z)⟩
theorem nu_ins {C dx : Addr} {vs : List (Str × V)} : NU (.ins C dx vs) := ⟨fun _ z => (by cases z), fun _ _ z => (by cases z)⟩
theorem nu_dK {vs : List (Key × V)} : NU (.dK vs) := ⟨fun _ z => (by cases z), fun _ _ z => (by cases z)⟩
theorem nu_xd {vs : List (Str × V)} : NU (.xd vs) := ⟨fun _ z => (by cases z), fun _ _ z => (by cases z)⟩
theorem nu_exc {a C : Addr} {d : Option Addr} : NU (excH a C d) := ⟨nt_exc, fun _ _ z => (by unfold excH at z; cases z)⟩
/-- these all stay -/
def ExU (H H' : Hp) : Prop := ∀ a o, H a = some o → NU o → H' a = some o
theorem ExU.l {K : PySem.W.Frag} {H H' : Hp} {a : Addr} {xs : List V} (e : ExU H H') (h : SqL K H a xs) : SqL K H' a xs := by
  rcases h with (h | ⟨o, h⟩) | h
  · exact .inl (.inl (e _ _ h nu_lst))
  · exact .inl (.inr ⟨o, e _ _ h nu_fl⟩)
  · exact .inr h
theorem ExU.t {K : PySem.W.Frag} {H H' : Hp} {a : Addr} {xs : List V} (e : ExU H H') (h : SqT K H a xs) : SqT K H' a xs := by
  rcases h with (h | ⟨o, h⟩) | h
  · exact .inl (.inl (e _ _ h nu_tup))
  · exact .inl (.inr ⟨o, e _ _ h nu_ft⟩)
  · exact .inr h
mutual
/-- nothing that is told by a relation -/
def noX : D → Bool
  | .ext _ => false
  | .lst ds => noXL ds
  | .tup ds => noXL ds
  | .ins _ fs => noXF fs
  | .exc _ fs => noXF fs
  | .dic kvs => noXK kvs
  | _ => true
def noXL : List D → Bool
  | [] => true
  | d :: ds => noX d && noXL ds
def noXF : List (Str × D) → Bool
  | [] => true
  | p :: ds => noX p.2 && noXF ds
def noXK : List (Key × D) → Bool
  | [] => true
  | p :: ds => noX p.2 && noXK ds
end
theorem and_t {a b : Bool} (h : (a && b) = true) : a = true ∧ b = true := by
  cases a with
  | true => exact ⟨rfl, h⟩
  | false => cases h
mutual
theorem Rep.un {K : PySem.W.Frag} {H H' : Hp} (e : ExU H H') : ∀ (d : D) {v : V}, noX d = true → Rep K H d v → Rep K H' d v
  | .non, _, _, h => h
  | .bl _, _, _, h => h
  | .int _, _, _, h => h
  | .str _, _, _, h => h
  | .ty _, _, _, h => h
  | .ref _, _, _, h => h
  | .ext _, _, n, _ => by cases n
  | .lst ds, _, n, h => by
    obtain ⟨a, vs, e1, h1, h2⟩ := h
    exact ⟨a, vs, e1, e _ _ h1 nu_lst, RepL.un e ds n h2⟩
  | .scr ns, _, _, h => by
    obtain ⟨a, e1, h1⟩ := h
    exact ⟨a, e1, e.l h1⟩
  | .exc C fs, _, n, h => by
    obtain ⟨a, d, vs, e1, h1, h2, h3⟩ := h
    exact ⟨a, d, vs, e1, e _ _ h1 nu_exc, e _ _ h2 nu_xd, RepF.un e fs n h3⟩
  | .tup ds, _, n, h => by
    obtain ⟨a, vs, e1, h1, h2⟩ := h
    exact ⟨a, vs, e1, e.t h1, RepL.un e ds n h2⟩
  | .ins C fs, _, n, h => by
    obtain ⟨a, dx, vs, e1, h1, h2⟩ := h
    exact ⟨a, dx, vs, e1, e _ _ h1 nu_ins, RepF.un e fs n h2⟩
  | .dic kvs, _, n, h => by
    obtain ⟨a, ws, e1, h1, h2⟩ := h
    exact ⟨a, ws, e1, e _ _ h1 nu_dK, RepK.un e kvs n h2⟩
theorem RepL.un {K : PySem.W.Frag} {H H' : Hp} (e : ExU H H') : ∀ (ds : List D) {vs : List V}, noXL ds = true → RepL K H ds vs → RepL K H' ds vs
  | [], _, _, h => h
  | d :: ds, _, n, h => by
    obtain ⟨v, r, e1, h1, h2⟩ := h
    obtain ⟨n1, n2⟩ := and_t n
    exact ⟨v, r, e1, Rep.un e d n1 h1, RepL.un e ds n2 h2⟩
theorem RepF.un {K : PySem.W.Frag} {H H' : Hp} (e : ExU H H') : ∀ (ds : List (Str × D)) {vs : List (Str × V)}, noXF ds = true → RepF K H ds vs → RepF K H' ds vs
  | [], _, _, h => h
  | p :: ds, _, n, h => by
    obtain ⟨v, r, e1, h1, h2⟩ := h
    obtain ⟨n1, n2⟩ := and_t n
    exact ⟨v, r, e1, Rep.un e p.2 n1 h1, RepF.un e ds n2 h2⟩
theorem RepK.un {K : PySem.W.Frag} {H H' : Hp} (e : ExU H H') : ∀ (ds : List (Key × D)) {vs : List (Key × V)}, noXK ds = true → RepK K H ds vs → RepK K H' ds vs
  | [], _, _, h => h
  | p :: ds, _, n, h => by
    obtain ⟨v, r, e1, h1, h2⟩ := h
    obtain ⟨n1, n2⟩ := and_t n
    exact ⟨v, r, e1, Rep.un e p.2 n1 h1, RepK.un e ds n2 h2⟩
end
section
variable {K : PySem.W.Frag} {W : WX} {O : List OD} {ts : List T} {P : PT'} {X : XX} {t td : TE}
theorem RepK.get {F : Hp} : ∀ {kvs : List (Key × D)} {ws : List (Key × V)} {i : Nat} {k : Key} {v : V}, RepK K F kvs ws → ws[i]? = some (k, v) → ∃ d, kvs[i]? = some (k, d) ∧ Rep K F d v
  | [], ws, i, k, v, h, q => by
    cases (show ws = [] from h)
    simp at q
  | p :: ds, _, 0, k, v, h, q => by
    obtain ⟨w, r, rfl, h1, h2⟩ := h
    cases (Option.some.inj q)
    exact ⟨p.2, rfl, h1⟩
  | p :: ds, _, i + 1, k, v, h, q => by
    obtain ⟨w, r, rfl, h1, h2⟩ := h
    exact RepK.get (i := i) h2 q
theorem dicD_at {b : Bs} {A : List Addr} {H : Hp} {x : T} {kvs : List (Key × D)} {v : V} (hx : DicD x O kvs) (s : StO K b A O H) (r : RepT K (Fz b A O H) A x (some v)) : ∃ a ws, v = .ref a ∧ H a = some (.dK ws) ∧ RepK K (Fz b A O H) kvs ws := by
  rcases hx with rfl | ⟨j, rfl, ho⟩
  · obtain ⟨_, e, a, ws, rfl, h1, h2⟩ := r
    cases e
    exact ⟨a, ws, rfl, (hid_some.mp h1).2, h2⟩
  · obtain ⟨a, ha, e⟩ := r
    cases e
    obtain ⟨ws, h1, h2⟩ := s.cell j a _ ha ho
    exact ⟨a, ws, rfl, h1, h2⟩
end
end G

set_option Elab.async false
set_option linter.all false
set_option maxRecDepth 100000
set_option maxHeartbeats 2000000
namespace G
open PySem PySem.Spec PyProof.Rows L2
section
variable {K : PySem.W.Frag} {W : WX} {O : List OD} {ts : List T} {P : PT'} {X : XX}
def flD : D → Bool
  | .non => true
  | .bl _ => true
  | .int _ => true
  | .str _ => true
  | _ => false
theorem flD_rep {F : Hp} {d : D} {v u : V} (h : flD d = true) (r1 : Rep K F d v) (r2 : Rep K F d u) : v = u ∧ flatB v = true := by
  cases d <;> first | (cases h; done) | (rw [show v = _ from r1, show u = _ from r2]; exact ⟨rfl, rfl⟩)
theorem eqDic_at {F : Hp} {kvs lvs : List (Key × D)} {ws us : List (Key × V)} (h : ∀ p ∈ kvs, dAt lvs p.1 = some p.2 ∧ flD p.2 = true) (r1 : RepK K F kvs ws) (r2 : RepK K F lvs us) : ∀ p ∈ ws, valV us p.1 = some p.2 ∧ flatB p.2 = true := by
  intro p hp
  obtain ⟨i, hi⟩ := List.getElem?_of_mem hp
  obtain ⟨d, g1, g2⟩ := r1.get (i := i) (k := p.1) (v := p.2) hi
  obtain ⟨h1, h2⟩ := h _ (List.mem_of_getElem? g1)
  obtain ⟨v, e1, e2⟩ := r2.at_ h1
  obtain ⟨e3, e4⟩ := flD_rep h2 g2 e2
  exact ⟨by rw [e1, e3], e4⟩
theorem w_eqDic {x y : T} {kvs lvs : List (Key × D)} (hx : DicD x O kvs) (hy : DicD y O lvs) (hl : kvs.length = lvs.length) (h : ∀ p ∈ kvs, dAt lvs p.1 = some p.2 ∧ flD p.2 = true) (k : P (.v (.bl true)) O) : WR K rEqDA x y O P := fun b A H Q v u s r1 r2 kv => by
  obtain ⟨a, ws, rfl, h1, h2⟩ := dicD_at hx s r1
  obtain ⟨c, us, rfl, h3, h4⟩ := dicD_at hy s r2
  exact ⟨a, c, ws, us, rfl, rfl, h1, h3, by rw [h2.len, h4.len, hl], eqDic_at h h2 h4, kv _ _ A O H k s Nxt.refl ⟨_, rfl, rfl⟩⟩
theorem w_neDic {x y : T} {kvs lvs : List (Key × D)} (hx : DicD x O kvs) (hy : DicD y O lvs) (hl : kvs.length = lvs.length) (h : ∀ p ∈ kvs, dAt lvs p.1 = some p.2 ∧ flD p.2 = true) (k : P (.v (.bl false)) O) : WR K rNeDA x y O P := fun b A H Q v u s r1 r2 kv => by
  obtain ⟨a, ws, rfl, h1, h2⟩ := dicD_at hx s r1
  obtain ⟨c, us, rfl, h3, h4⟩ := dicD_at hy s r2
  exact ⟨a, c, ws, us, rfl, rfl, h1, h3, by rw [h2.len, h4.len, hl], eqDic_at h h2 h4, kv _ _ A O H k s Nxt.refl ⟨_, rfl, rfl⟩⟩
end
section
variable {K : PySem.W.Frag} {W : WX} {O : List OD} {ts : List T} {P : PT'} {X : XX} {tk tv : TE} {vs : List Nat}
end
end G

set_option Elab.async false
set_option linter.all false
set_option maxRecDepth 100000
set_option maxHeartbeats 1000000
namespace G
open PySem PySem.Spec PySem.Calls PyProof.Rows L2
section
variable {pr : Program} {wd : World} {B : Around} {F : Value → Shared → Prop} {z : Shared} {α : Type}
end
section
variable {P : Program} {w : World} {K : PySem.W.Frag} {d : Addr} {ob : Obj} {es : Array DictEntry} {ep : Nat}
end
section
variable {K : PySem.W.Frag} {W : WX} {O : List OD} {ts : List T} {P : PT'} {X : XX} {t td : TE}
end
end G

set_option Elab.async false
set_option linter.all false
set_option maxRecDepth 100000
set_option maxHeartbeats 2000000
namespace G
namespace DcO
open PySem PySem.Spec PySem.Calls PySem.SeqAt AutoSeq1 MeetsSeq
section
variable {pr : Program} {wd : World} {B : Around} {F : Value → Shared → Prop} {z : Shared}
/-- a dict stands at d -/
def DAt (z : Shared) (d : Addr) : Prop := ∃ es n dd sl, z.heap.get? d = some { cls := .type "dict", dict := dd, data := .dict es n, slots := sl }
theorem DAt.ty {d : Addr} (h : DAt z d) : z.TypeIs (.ref d) "dict" := let ⟨_, _, _, _, e⟩ := h; ⟨_, e, rfl⟩
/-- the dict says that it does not know -/
theorem dict_eq_no {d : Addr} {v : Value} {T : String} (h : DAt z d) (tv : z.TypeIs v T) (sub : isSubtype (.type T) (.type "dict") = pure false) (Q : Value → Shared → Prop) (k : Q .notImplemented z) :
    wpAny (model pr wd) B (call (.builtin "dict.__eq__") [.ref d, v]) Q F z := by
  refine wpAny_call_entry PySem.F.slot_dict_eq h.ty PySem.F.entry_dict_eq ?_ (PySem.F.args_dict_eq_2 _ _)
  show wpAny _ _ (Builtin.Dict.dictSlotArgs "__eq__" ⟨[.ref d, v], []⟩ >>= _) _ _ z
  refine wpAny_bind ?_
  delta Builtin.Dict.dictSlotArgs
  refine wpAny_bind (wpAny_notOrdered_dict h.ty (wpAny_pure ?_))
  exact wpAny_bind (wpAny_isInstance tv sub (wpAny_bind (wpAny_rule (wpAny_pure ⟨_, rfl, k⟩))))
theorem dict_ne_no {d : Addr} {v : Value} {T : String} (h : DAt z d) (tv : z.TypeIs v T) (sub : isSubtype (.type T) (.type "dict") = pure false) (Q : Value → Shared → Prop) (k : Q .notImplemented z) :
    wpAny (model pr wd) B (call (.builtin "dict.__ne__") [.ref d, v]) Q F z := by
  refine wpAny_call_entry PySem.F.slot_dict_ne h.ty PySem.F.entry_dict_ne ?_ (PySem.F.args_dict_ne_2 _ _)
  show wpAny _ _ (Builtin.Dict.dictSlotArgs "__ne__" ⟨[.ref d, v], []⟩ >>= _) _ _ z
  refine wpAny_bind ?_
  delta Builtin.Dict.dictSlotArgs
  refine wpAny_bind (wpAny_notOrdered_dict h.ty (wpAny_pure ?_))
  exact wpAny_bind (wpAny_isInstance tv sub (wpAny_bind (wpAny_rule (wpAny_pure ⟨_, rfl, k⟩))))
end
theorem none_eq_no {d : Addr} {es : Array DictEntry} {n : Nat} {dd : Option Addr} {sl : Array (Option Value)}  : Meets (Builtin.«NoneType.__eq__» ⟨[.none, .ref d], []⟩) (fun _ R s => s.heap.get? d = some { cls := .type "dict", dict := dd, data := .dict es n, slots := sl } ∧ R (.ok (.ret .notImplemented)) s) :=
  .of_wp fun prog w A R s h => by
    obtain ⟨hp, g, d0, tk, os⟩ := s
    obtain ⟨hl, k⟩ := h
    wp_walk using wpAny_loadPart' hl, wpAny_load hl
    exact ⟨_, rfl, k⟩
theorem bool_eq_no {d : Addr} {es : Array DictEntry} {n : Nat} {dd : Option Addr} {sl : Array (Option Value)} (x : Bool) : Meets (Builtin.«int.__eq__» ⟨[.bool x, .ref d], []⟩) (fun _ R s => s.heap.get? d = some { cls := .type "dict", dict := dd, data := .dict es n, slots := sl } ∧ R (.ok (.ret .notImplemented)) s) :=
  .of_wp fun prog w A R s h => by
    obtain ⟨hp, g, d0, tk, os⟩ := s
    obtain ⟨hl, k⟩ := h
    wp_walk using wpAny_loadPart' hl, wpAny_load hl
    exact ⟨_, rfl, k⟩
theorem int_eq_no {d : Addr} {es : Array DictEntry} {n : Nat} {dd : Option Addr} {sl : Array (Option Value)} (x : Int) (u : Tok) : Meets (Builtin.«int.__eq__» ⟨[.int x u, .ref d], []⟩) (fun _ R s => s.heap.get? d = some { cls := .type "dict", dict := dd, data := .dict es n, slots := sl } ∧ R (.ok (.ret .notImplemented)) s) :=
  .of_wp fun prog w A R s h => by
    obtain ⟨hp, g, d0, tk, os⟩ := s
    obtain ⟨hl, k⟩ := h
    wp_walk using wpAny_loadPart' hl, wpAny_load hl
    exact ⟨_, rfl, k⟩
theorem str_eq_no {d : Addr} {es : Array DictEntry} {n : Nat} {dd : Option Addr} {sl : Array (Option Value)} (x : Str) (u : Tok) : Meets (Builtin.«str.__eq__» ⟨[.str x u, .ref d], []⟩) (fun _ R s => s.heap.get? d = some { cls := .type "dict", dict := dd, data := .dict es n, slots := sl } ∧ R (.ok (.ret .notImplemented)) s) :=
  .of_wp fun prog w A R s h => by
    obtain ⟨hp, g, d0, tk, os⟩ := s
    obtain ⟨hl, k⟩ := h
    wp_walk using wpAny_loadPart' hl, wpAny_load hl
    exact ⟨_, rfl, k⟩
theorem none_ne_no {d : Addr} {es : Array DictEntry} {n : Nat} {dd : Option Addr} {sl : Array (Option Value)}  : Meets (Builtin.«NoneType.__ne__» ⟨[.none, .ref d], []⟩) (fun _ R s => s.heap.get? d = some { cls := .type "dict", dict := dd, data := .dict es n, slots := sl } ∧ R (.ok (.ret .notImplemented)) s) :=
  .of_wp fun prog w A R s h => by
    obtain ⟨hp, g, d0, tk, os⟩ := s
    obtain ⟨hl, k⟩ := h
    wp_walk using wpAny_loadPart' hl, wpAny_load hl
    exact ⟨_, rfl, k⟩
theorem bool_ne_no {d : Addr} {es : Array DictEntry} {n : Nat} {dd : Option Addr} {sl : Array (Option Value)} (x : Bool) : Meets (Builtin.«int.__ne__» ⟨[.bool x, .ref d], []⟩) (fun _ R s => s.heap.get? d = some { cls := .type "dict", dict := dd, data := .dict es n, slots := sl } ∧ R (.ok (.ret .notImplemented)) s) :=
  .of_wp fun prog w A R s h => by
    obtain ⟨hp, g, d0, tk, os⟩ := s
    obtain ⟨hl, k⟩ := h
    wp_walk using wpAny_loadPart' hl, wpAny_load hl
    exact ⟨_, rfl, k⟩
theorem int_ne_no {d : Addr} {es : Array DictEntry} {n : Nat} {dd : Option Addr} {sl : Array (Option Value)} (x : Int) (u : Tok) : Meets (Builtin.«int.__ne__» ⟨[.int x u, .ref d], []⟩) (fun _ R s => s.heap.get? d = some { cls := .type "dict", dict := dd, data := .dict es n, slots := sl } ∧ R (.ok (.ret .notImplemented)) s) :=
  .of_wp fun prog w A R s h => by
    obtain ⟨hp, g, d0, tk, os⟩ := s
    obtain ⟨hl, k⟩ := h
    wp_walk using wpAny_loadPart' hl, wpAny_load hl
    exact ⟨_, rfl, k⟩
theorem str_ne_no {d : Addr} {es : Array DictEntry} {n : Nat} {dd : Option Addr} {sl : Array (Option Value)} (x : Str) (u : Tok) : Meets (Builtin.«str.__ne__» ⟨[.str x u, .ref d], []⟩) (fun _ R s => s.heap.get? d = some { cls := .type "dict", dict := dd, data := .dict es n, slots := sl } ∧ R (.ok (.ret .notImplemented)) s) :=
  .of_wp fun prog w A R s h => by
    obtain ⟨hp, g, d0, tk, os⟩ := s
    obtain ⟨hl, k⟩ := h
    wp_walk using wpAny_loadPart' hl, wpAny_load hl
    exact ⟨_, rfl, k⟩
theorem list_eq_no {d l : Addr} {es : Array DictEntry} {n m : Nat} {dd de : Option Addr} {sl sm : Array (Option Value)} {its : Array Value} : Meets (Builtin.«list.__eq__» ⟨[.ref l, .ref d], []⟩) (fun _ R s => s.heap.get? d = some { cls := .type "dict", dict := dd, data := .dict es n, slots := sl } ∧ s.heap.get? l = some { cls := .type "list", dict := de, data := .seq its m, slots := sm } ∧ R (.ok (.ret .notImplemented)) s) :=
  .of_wp fun prog w A R s h => by
    obtain ⟨hp, g, d0, tk, os⟩ := s
    obtain ⟨hl, h2, k⟩ := h
    have f1 := PySem.F.sub_dict_list
    wp_walk using wpAny_loadPart' hl, wpAny_load hl, wpAny_loadPart' h2, wpAny_load h2
    exact ⟨_, rfl, k⟩
theorem tuple_eq_no {d l : Addr} {es : Array DictEntry} {n m : Nat} {dd de : Option Addr} {sl sm : Array (Option Value)} {its : Array Value} : Meets (Builtin.«tuple.__eq__» ⟨[.ref l, .ref d], []⟩) (fun _ R s => s.heap.get? d = some { cls := .type "dict", dict := dd, data := .dict es n, slots := sl } ∧ s.heap.get? l = some { cls := .type "tuple", dict := de, data := .seq its m, slots := sm } ∧ R (.ok (.ret .notImplemented)) s) :=
  .of_wp fun prog w A R s h => by
    obtain ⟨hp, g, d0, tk, os⟩ := s
    obtain ⟨hl, h2, k⟩ := h
    have f1 := PySem.F.sub_dict_tuple
    wp_walk using wpAny_loadPart' hl, wpAny_load hl, wpAny_loadPart' h2, wpAny_load h2
    exact ⟨_, rfl, k⟩
theorem list_ne_no {d l : Addr} {es : Array DictEntry} {n m : Nat} {dd de : Option Addr} {sl sm : Array (Option Value)} {its : Array Value} : Meets (Builtin.«list.__ne__» ⟨[.ref l, .ref d], []⟩) (fun _ R s => s.heap.get? d = some { cls := .type "dict", dict := dd, data := .dict es n, slots := sl } ∧ s.heap.get? l = some { cls := .type "list", dict := de, data := .seq its m, slots := sm } ∧ R (.ok (.ret .notImplemented)) s) :=
  .of_wp fun prog w A R s h => by
    obtain ⟨hp, g, d0, tk, os⟩ := s
    obtain ⟨hl, h2, k⟩ := h
    have f1 := PySem.F.sub_dict_list
    wp_walk using wpAny_loadPart' hl, wpAny_load hl, wpAny_loadPart' h2, wpAny_load h2
    exact ⟨_, rfl, k⟩
theorem tuple_ne_no {d l : Addr} {es : Array DictEntry} {n m : Nat} {dd de : Option Addr} {sl sm : Array (Option Value)} {its : Array Value} : Meets (Builtin.«tuple.__ne__» ⟨[.ref l, .ref d], []⟩) (fun _ R s => s.heap.get? d = some { cls := .type "dict", dict := dd, data := .dict es n, slots := sl } ∧ s.heap.get? l = some { cls := .type "tuple", dict := de, data := .seq its m, slots := sm } ∧ R (.ok (.ret .notImplemented)) s) :=
  .of_wp fun prog w A R s h => by
    obtain ⟨hp, g, d0, tk, os⟩ := s
    obtain ⟨hl, h2, k⟩ := h
    have f1 := PySem.F.sub_dict_tuple
    wp_walk using wpAny_loadPart' hl, wpAny_load hl, wpAny_loadPart' h2, wpAny_load h2
    exact ⟨_, rfl, k⟩
theorem same_no {M : Model} {B : Around} {F : Value → Shared → Prop} {z : Shared} {a b : Addr} {oa ob : Obj} {Q : Bool → Shared → Prop} (ne : a ≠ b) (ha : z.heap.get? a = some oa) (hb : z.heap.get? b = some ob) (hc : oa.cls ≠ .type "tuple" ∨ ob.cls ≠ .type "tuple") (k : Q false z) : wpAny M B (isSame (.ref a) (.ref b)) Q F z := by
  show wpAny M B (if (a == b) = true then pure true else _) Q F z
  rw [if_neg (fun e => ne (eq_of_beq e))]
  refine wpAny_bind (wpAny_load ha (wpAny_bind (wpAny_load hb ?_)))
  split
  · rename_i h1 h2 _ _
    rcases hc with hc | hc
    · exact absurd h1 hc
    · exact absurd h2 hc
  · exact wpAny_pure k

/-- a value of another kind than a dict, which does not know dicts either -/
structure Far (z : Shared) (d : Addr) (v : Value) (T eqI neI : String) : Prop where
  ty : z.TypeIs v T
  df : (Value.type "dict" != Value.type T) = true
  df2 : (Value.type T != Value.type "dict") = true
  sb : isSubtype (.type T) (.type "dict") = pure false
  sb2 : isSubtype (.type "dict") (.type T) = pure false
  e1 : Slot T (cmpInfo .Eq).2.1 eqI
  e2 : Slot T (cmpInfo .Eq).2.2 eqI
  n1 : Slot T (cmpInfo .NotEq).2.1 neI
  n2 : Slot T (cmpInfo .NotEq).2.2 neI
  ce : ∀ (pr : Program) (wd : World) (B : Around) (F Q : Value → Shared → Prop), Q .notImplemented z → wpAny (model pr wd) B (call (.builtin eqI) [v, .ref d]) Q F z
  cn : ∀ (pr : Program) (wd : World) (B : Around) (F Q : Value → Shared → Prop), Q .notImplemented z → wpAny (model pr wd) B (call (.builtin neI) [v, .ref d]) Q F z
  s1 : ∀ (pr : Program) (wd : World) (B : Around) (F : Value → Shared → Prop) (Q : Bool → Shared → Prop), Q false z → wpAny (model pr wd) B (isSame (.ref d) v) Q F z
  s2 : ∀ (pr : Program) (wd : World) (B : Around) (F : Value → Shared → Prop) (Q : Bool → Shared → Prop), Q false z → wpAny (model pr wd) B (isSame v (.ref d)) Q F z
def FarV (z : Shared) (d : Addr) (v : Value) : Prop := ∃ T e n, Far z d v T e n
section
variable {pr : Program} {wd : World} {B : Around} {F : Value → Shared → Prop} {z : Shared} {d : Addr} {v : Value} {Q : Value → Shared → Prop}
theorem eq_dv (h : DAt z d) (f : FarV z d v) (hu : B.units < cLine) (k : Q (.bool false) z) : wpAny (model pr wd) B (compareOp .Eq (.ref d) v) Q F z :=
  let ⟨_, _, _, f⟩ := f
  rc_eq_decline_or (k := false) h.ty f.ty f.df f.sb PySem.F.slot_dict_eq f.e2 (fun Q' q => dict_eq_no h f.ty f.sb Q' q) (fun Q' q => f.ce _ _ _ _ Q' q) (fun Q' q => f.s1 _ _ _ _ Q' q) (.inr hu) k
theorem eq_vd (h : DAt z d) (f : FarV z d v) (hu : B.units < cLine) (k : Q (.bool false) z) : wpAny (model pr wd) B (compareOp .Eq v (.ref d)) Q F z :=
  let ⟨_, _, _, f⟩ := f
  rc_eq_decline_or (k := false) f.ty h.ty f.df2 f.sb2 f.e1 PySem.F.slot_dict_eq_refl (fun Q' q => f.ce _ _ _ _ Q' q) (fun Q' q => dict_eq_no h f.ty f.sb Q' q) (fun Q' q => f.s2 _ _ _ _ Q' q) (.inr hu) k
theorem ne_dv (h : DAt z d) (f : FarV z d v) (hu : B.units < cLine) (k : Q (.bool true) z) : wpAny (model pr wd) B (compareOp .NotEq (.ref d) v) Q F z :=
  let ⟨_, _, _, f⟩ := f
  rc_ne_decline_or (k := false) h.ty f.ty f.df f.sb PySem.F.slot_dict_ne f.n2 (fun Q' q => dict_ne_no h f.ty f.sb Q' q) (fun Q' q => f.cn _ _ _ _ Q' q) (fun Q' q => f.s1 _ _ _ _ Q' q) (.inr hu) k
theorem ne_vd (h : DAt z d) (f : FarV z d v) (hu : B.units < cLine) (k : Q (.bool true) z) : wpAny (model pr wd) B (compareOp .NotEq v (.ref d)) Q F z :=
  let ⟨_, _, _, f⟩ := f
  rc_ne_decline_or (k := false) f.ty h.ty f.df2 f.sb2 f.n1 PySem.F.slot_dict_ne_refl (fun Q' q => f.cn _ _ _ _ Q' q) (fun Q' q => dict_ne_no h f.ty f.sb Q' q) (fun Q' q => f.s2 _ _ _ _ Q' q) (.inr hu) k
theorem far_none (h : DAt z d)  : FarV z d .none := by
  obtain ⟨es, n, dd, sl, ho⟩ := h
  exact ⟨"NoneType", "NoneType.__eq__", "NoneType.__ne__", rfl, by decide, by decide, PySem.F.sub_NoneType_dict, PySem.F.sub_dict_NoneType, PySem.F.slot_NoneType_eq, PySem.F.slot_NoneType_eq_refl, PySem.F.slot_NoneType_ne, PySem.F.slot_NoneType_ne_refl,
    fun _ _ _ _ _ q => call_meets PySem.F.slot_NoneType_eq rfl PySem.F.entry_NoneType_eq (PySem.F.args_NoneType_eq_2 _ _) none_eq_no ⟨ho, q⟩,
    fun _ _ _ _ _ q => call_meets PySem.F.slot_NoneType_ne rfl PySem.F.entry_NoneType_ne (PySem.F.args_NoneType_ne_2 _ _) none_ne_no ⟨ho, q⟩,
    fun _ _ _ _ _ q => wpAny_of_eq (rfl : isSame _ _ = pure false) q, fun _ _ _ _ _ q => wpAny_of_eq (rfl : isSame _ _ = pure false) q⟩
theorem far_bool (h : DAt z d) (x : Bool) : FarV z d (.bool x) := by
  obtain ⟨es, n, dd, sl, ho⟩ := h
  exact ⟨"bool", "int.__eq__", "int.__ne__", rfl, by decide, by decide, PySem.F.sub_bool_dict, PySem.F.sub_dict_bool, PySem.F.slot_bool_eq, PySem.F.slot_bool_eq_refl, PySem.F.slot_bool_ne, PySem.F.slot_bool_ne_refl,
    fun _ _ _ _ _ q => call_meets PySem.F.slot_bool_eq rfl PySem.F.entry_int_eq (PySem.F.args_int_eq_2 _ _) (bool_eq_no x) ⟨ho, q⟩,
    fun _ _ _ _ _ q => call_meets PySem.F.slot_bool_ne rfl PySem.F.entry_int_ne (PySem.F.args_int_ne_2 _ _) (bool_ne_no x) ⟨ho, q⟩,
    fun _ _ _ _ _ q => wpAny_of_eq (rfl : isSame _ _ = pure false) q, fun _ _ _ _ _ q => wpAny_of_eq (rfl : isSame _ _ = pure false) q⟩
theorem far_int (h : DAt z d) (x : Int) (u : Tok) : FarV z d (.int x u) := by
  obtain ⟨es, n, dd, sl, ho⟩ := h
  exact ⟨"int", "int.__eq__", "int.__ne__", (typeIs_int z x u), by decide, by decide, PySem.F.sub_int_dict, PySem.F.sub_dict_int, PySem.F.slot_int_eq, PySem.F.slot_int_eq_refl, PySem.F.slot_int_ne, PySem.F.slot_int_ne_refl,
    fun _ _ _ _ _ q => call_meets PySem.F.slot_int_eq (typeIs_int z x u) PySem.F.entry_int_eq (PySem.F.args_int_eq_2 _ _) (int_eq_no x u) ⟨ho, q⟩,
    fun _ _ _ _ _ q => call_meets PySem.F.slot_int_ne (typeIs_int z x u) PySem.F.entry_int_ne (PySem.F.args_int_ne_2 _ _) (int_ne_no x u) ⟨ho, q⟩,
    fun _ _ _ _ _ q => wpAny_of_eq (rfl : isSame _ _ = pure false) q, fun _ _ _ _ _ q => wpAny_of_eq (rfl : isSame _ _ = pure false) q⟩
theorem far_str (h : DAt z d) (x : Str) (u : Tok) : FarV z d (.str x u) := by
  obtain ⟨es, n, dd, sl, ho⟩ := h
  exact ⟨"str", "str.__eq__", "str.__ne__", (typeIs_str z x u), by decide, by decide, PySem.F.sub_str_dict, PySem.F.sub_dict_str, PySem.F.slot_str_eq, PySem.F.slot_str_eq_refl, PySem.F.slot_str_ne, PySem.F.slot_str_ne_refl,
    fun _ _ _ _ _ q => call_meets PySem.F.slot_str_eq (typeIs_str z x u) PySem.F.entry_str_eq (PySem.F.args_str_eq_2 _ _) (str_eq_no x u) ⟨ho, q⟩,
    fun _ _ _ _ _ q => call_meets PySem.F.slot_str_ne (typeIs_str z x u) PySem.F.entry_str_ne (PySem.F.args_str_ne_2 _ _) (str_ne_no x u) ⟨ho, q⟩,
    fun _ _ _ _ _ q => wpAny_of_eq (rfl : isSame _ _ = pure false) q, fun _ _ _ _ _ q => wpAny_of_eq (rfl : isSame _ _ = pure false) q⟩
theorem far_list {l : Addr} {de : Option Addr} {its : Array Value} {m : Nat} {sm : Array (Option Value)} (h : DAt z d) (hl : z.heap.get? l = some { cls := .type "list", dict := de, data := .seq its m, slots := sm }) : FarV z d (.ref l) := by
  obtain ⟨es, n, dd, sl, ho⟩ := h
  have ne : d ≠ l := fun e => by
    rw [e, hl] at ho
    exact absurd (show Value.type "list" = Value.type "dict" from congrArg Obj.cls (Option.some.inj ho)) (by decide)
  have ty : z.TypeIs (.ref l) "list" := ⟨_, hl, rfl⟩
  exact ⟨"list", "list.__eq__", "list.__ne__", ty, by decide, by decide, PySem.F.sub_list_dict, PySem.F.sub_dict_list, PySem.F.slot_list_eq, PySem.F.slot_list_eq_refl, PySem.F.slot_list_ne, PySem.F.slot_list_ne_refl,
    fun _ _ _ _ _ q => call_meets PySem.F.slot_list_eq ty PySem.F.entry_list_eq (PySem.F.args_list_eq_2 _ _) list_eq_no ⟨ho, hl, q⟩,
    fun _ _ _ _ _ q => call_meets PySem.F.slot_list_ne ty PySem.F.entry_list_ne (PySem.F.args_list_ne_2 _ _) list_ne_no ⟨ho, hl, q⟩,
    fun _ _ _ _ _ q => same_no ne ho hl (.inl (show Value.type "dict" ≠ .type "tuple" by decide)) q, fun _ _ _ _ _ q => same_no (Ne.symm ne) hl ho (.inr (show Value.type "dict" ≠ .type "tuple" by decide)) q⟩
theorem far_tuple {l : Addr} {de : Option Addr} {its : Array Value} {m : Nat} {sm : Array (Option Value)} (h : DAt z d) (hl : z.heap.get? l = some { cls := .type "tuple", dict := de, data := .seq its m, slots := sm }) : FarV z d (.ref l) := by
  obtain ⟨es, n, dd, sl, ho⟩ := h
  have ne : d ≠ l := fun e => by
    rw [e, hl] at ho
    exact absurd (show Value.type "tuple" = Value.type "dict" from congrArg Obj.cls (Option.some.inj ho)) (by decide)
  have ty : z.TypeIs (.ref l) "tuple" := ⟨_, hl, rfl⟩
  exact ⟨"tuple", "tuple.__eq__", "tuple.__ne__", ty, by decide, by decide, PySem.F.sub_tuple_dict, PySem.F.sub_dict_tuple, PySem.F.slot_tuple_eq, PySem.F.slot_tuple_eq_refl, PySem.F.slot_tuple_ne, PySem.F.slot_tuple_ne_refl,
    fun _ _ _ _ _ q => call_meets PySem.F.slot_tuple_eq ty PySem.F.entry_tuple_eq (PySem.F.args_tuple_eq_2 _ _) tuple_eq_no ⟨ho, hl, q⟩,
    fun _ _ _ _ _ q => call_meets PySem.F.slot_tuple_ne ty PySem.F.entry_tuple_ne (PySem.F.args_tuple_ne_2 _ _) tuple_ne_no ⟨ho, hl, q⟩,
    fun _ _ _ _ _ q => same_no ne ho hl (.inl (show Value.type "dict" ≠ .type "tuple" by decide)) q, fun _ _ _ _ _ q => same_no (Ne.symm ne) hl ho (.inr (show Value.type "dict" ≠ .type "tuple" by decide)) q⟩
end
end DcO
end G

set_option Elab.async false
set_option linter.all false
set_option maxRecDepth 100000
set_option maxHeartbeats 2000000
namespace G
open PySem PySem.Spec PySem.Calls PyProof.Rows L2
/-- no dict, as the data tell of it -/
def OthV (K : PySem.W.Frag) (H : Hp) (v : V) : Prop := v = .non ∨ (∃ b, v = .bl b) ∨ (∃ i, v = .int i) ∨ (∃ t, v = .str t) ∨ (∃ a xs, v = .ref a ∧ SqL K H a xs) ∨ (∃ a xs, v = .ref a ∧ SqT K H a xs)
/-- unlike: dicts of other lengths, a dict and another kind -/
def NotAlike (K : PySem.W.Frag) (H : Hp) (x y : V) : Prop :=
  (∃ a b ks ls, x = .ref a ∧ y = .ref b ∧ H a = some (.dK ks) ∧ H b = some (.dK ls) ∧ ks.length ≠ ls.length) ∨
  (∃ a ks, x = .ref a ∧ H a = some (.dK ks) ∧ OthV K H y) ∨ (∃ a ks, y = .ref a ∧ H a = some (.dK ks) ∧ OthV K H x)
def rEqQ (K : PySem.W.Frag) : R2 := fun x y H Q => rEqD K x y H Q ∨ rEqDA x y H Q ∨ (NotAlike K H x y ∧ Q (.bl false) H)
def rNeQ (K : PySem.W.Frag) : R2 := fun x y H Q => rNeD K x y H Q ∨ rNeDA x y H Q ∨ (NotAlike K H x y ∧ Q (.bl true) H)
section
variable {X : Cx} {pins : List (Addr × Obj)} {σ : L2.St} {H : Hp} {s : Shared}
theorem dat_of (I : L2.Inv X pins σ H s) {a : Addr} {ks : List (Key × V)} (h : H a = some (.dK ks)) : DcO.DAt s a := by
  obtain ⟨_, _, _, _, ⟨cls, dd, data, sl⟩, es, ep, ho, hc, hd, _⟩ := (show ObjOk X.prog X.w H s.heap a (.dK ks) from I.hok a _ h)
  have hc : cls = .type "dict" := hc.1
  have hd : data = .dict es ep := hd
  subst hc hd
  exact ⟨es, ep, dd, sl, ho⟩
theorem far_of (I : L2.Inv X pins σ H s) {d : Addr} {v : V} {u : Value} (h : DcO.DAt s d) (o : OthV X.K H v) (r : RelV v u) : DcO.FarV s d u := by
  rcases o with rfl | ⟨b, rfl⟩ | ⟨i, rfl⟩ | ⟨t, rfl⟩ | ⟨a, xs, rfl, q⟩ | ⟨a, xs, rfl, q⟩
  · cases r
    exact DcO.far_none h
  · cases r
    exact DcO.far_bool h b
  · obtain ⟨t, rfl⟩ := r
    exact DcO.far_int h i t
  · obtain ⟨t', rfl⟩ := r
    exact DcO.far_str h t t'
  · obtain rfl : u = Value.ref a := r
    obtain ⟨its, _, p, _⟩ := I.list q
    obtain ⟨⟨cls, dd, data, sl⟩, ho, hc, n, hd⟩ := p.isList
    simp only at hc hd
    subst hc hd
    exact DcO.far_list h ho
  · obtain rfl : u = Value.ref a := r
    obtain ⟨its, _, ⟨⟨cls, dd, data, sl⟩, ho, hc, n, hd⟩, _⟩ := I.tuple q
    simp only at hc hd
    subst hc hd
    exact DcO.far_tuple h ho
theorem op_eqNot (hu : X.A.units < cLine) : OpR X (compareOp .Eq) (fun x y H Q => NotAlike X.K H x y ∧ Q (.bl false) H) := by
  rintro pins s σ H x y v u Q I rx ry ⟨h, q⟩
  rcases h with ⟨a, b, ks, ls, rfl, rfl, ea, eb, hl⟩ | ⟨a, ks, rfl, ea, o⟩ | ⟨a, ks, rfl, ea, o⟩
  · obtain rfl : v = Value.ref a := rx
    obtain rfl : u = Value.ref b := ry
    obtain ⟨_, ya, va, ra, da⟩ := (show ObjOk X.prog X.w H s.heap a (.dK ks) from I.hok a _ ea)
    obtain ⟨_, yb, vb, rb, db⟩ := (show ObjOk X.prog X.w H s.heap b (.dK ls) from I.hok b _ eb)
    have hv : va.length ≠ vb.length := fun e => hl (by rw [ra.length, rb.length]; exact e)
    exact PySem.W.keq_eq (knd := mixKind X.prog X.w) (r := false) ya yb da db hu (fun e => absurd e hv) (by rw [Bool.and_false]; exact ⟨.bl false, H, I, rfl, q⟩)
  · obtain rfl : v = Value.ref a := rx
    exact DcO.eq_dv (dat_of I ea) (far_of I (dat_of I ea) o ry) hu ⟨.bl false, H, I, rfl, q⟩
  · obtain rfl : u = Value.ref a := ry
    exact DcO.eq_vd (dat_of I ea) (far_of I (dat_of I ea) o rx) hu ⟨.bl false, H, I, rfl, q⟩
theorem op_neNot (hu : X.A.units < cLine) : OpR X (compareOp .NotEq) (fun x y H Q => NotAlike X.K H x y ∧ Q (.bl true) H) := by
  rintro pins s σ H x y v u Q I rx ry ⟨h, q⟩
  rcases h with ⟨a, b, ks, ls, rfl, rfl, ea, eb, hl⟩ | ⟨a, ks, rfl, ea, o⟩ | ⟨a, ks, rfl, ea, o⟩
  · obtain rfl : v = Value.ref a := rx
    obtain rfl : u = Value.ref b := ry
    obtain ⟨_, ya, va, ra, da⟩ := (show ObjOk X.prog X.w H s.heap a (.dK ks) from I.hok a _ ea)
    obtain ⟨_, yb, vb, rb, db⟩ := (show ObjOk X.prog X.w H s.heap b (.dK ls) from I.hok b _ eb)
    have hv : va.length ≠ vb.length := fun e => hl (by rw [ra.length, rb.length]; exact e)
    exact PySem.W.keq_ne (knd := mixKind X.prog X.w) (r := false) ya yb da db hu (fun e => absurd e hv) (by rw [Bool.and_false]; exact ⟨.bl true, H, I, rfl, q⟩)
  · obtain rfl : v = Value.ref a := rx
    exact DcO.ne_dv (dat_of I ea) (far_of I (dat_of I ea) o ry) hu ⟨.bl true, H, I, rfl, q⟩
  · obtain rfl : u = Value.ref a := ry
    exact DcO.ne_vd (dat_of I ea) (far_of I (dat_of I ea) o rx) hu ⟨.bl true, H, I, rfl, q⟩
theorem op_eqQK (K : PySem.W.Frag) (hu : X.A.units + 64 < cLine) (h : X.K = K := by rfl) : OpR X (compareOp .Eq) (rEqQ K) := by
  subst h
  rintro pins s σ H x y v u Q I rx ry (q | q | q)
  · exact op_eqD hu pins s σ H x y v u Q I rx ry q
  · exact op_eq_dictA (by omega) pins s σ H x y v u Q I rx ry q
  · exact op_eqNot (by omega) pins s σ H x y v u Q I rx ry q
theorem op_neQK (K : PySem.W.Frag) (hu : X.A.units + 64 < cLine) (h : X.K = K := by rfl) : OpR X (compareOp .NotEq) (rNeQ K) := by
  subst h
  rintro pins s σ H x y v u Q I rx ry (q | q | q)
  · exact op_neD hu pins s σ H x y v u Q I rx ry q
  · exact op_ne_dictA (by omega) pins s σ H x y v u Q I rx ry q
  · exact op_neNot (by omega) pins s σ H x y v u Q I rx ry q
end
end G

set_option Elab.async false
set_option linter.all false
set_option maxRecDepth 100000
set_option maxHeartbeats 2000000
namespace G
open PySem PySem.Spec PySem.Calls PyProof.Rows L2
def othD : D → Bool
  | .non => true
  | .bl _ => true
  | .int _ => true
  | .str _ => true
  | .lst _ => true
  | .tup _ => true
  | _ => false
/-- d == e answers b -/
inductive EqQ : D → D → Bool → Prop
  | pl {d e : D} : pl 60 d = true → pl 60 e = true → EqQ d e (eqD d e)
  | same {ks : List (Key × D)} : (∀ p ∈ ks, dAt ks p.1 = some p.2 ∧ flD p.2 = true) → EqQ (.dic ks) (.dic ks) true
  | len {ks ls : List (Key × D)} : ks.length ≠ ls.length → EqQ (.dic ks) (.dic ls) false
  | dv {ks : List (Key × D)} {e : D} : othD e = true → EqQ (.dic ks) e false
  | vd {d : D} {ks : List (Key × D)} : othD d = true → EqQ d (.dic ks) false
section
variable {K : PySem.W.Frag} {b : Bs} {A : List Addr} {O : List OD} {H : Hp}
theorem oth_rep {e : D} {v : V} (h : othD e = true) (r : Rep K H e v) : OthV K H v := by
  cases e with
  | non => exact .inl r
  | bl x => exact .inr (.inl ⟨x, r⟩)
  | int i => exact .inr (.inr (.inl ⟨i, r⟩))
  | str t => exact .inr (.inr (.inr (.inl ⟨t, r⟩)))
  | lst ds =>
    obtain ⟨a, vs, e1, h1, _⟩ := r
    exact .inr (.inr (.inr (.inr (.inl ⟨a, vs, e1, SqL.of h1⟩))))
  | tup ds =>
    obtain ⟨a, vs, e1, h1, _⟩ := r
    exact .inr (.inr (.inr (.inr (.inr ⟨a, vs, e1, h1⟩))))
  | _ => cases h
theorem dic_rep {ks : List (Key × D)} {v : V} (r : Rep K H (.dic ks) v) : ∃ a ws, v = .ref a ∧ H a = some (.dK ws) ∧ ks.length = ws.length := by
  obtain ⟨a, ws, e, h1, h2⟩ := r
  exact ⟨a, ws, e, h1, h2.len.symm⟩
theorem not_alike {d e : D} {v u : V} (r1 : Rep K H d v) (r2 : Rep K H e u) (h : (∃ ks ls, d = .dic ks ∧ e = .dic ls ∧ ks.length ≠ ls.length) ∨ (∃ ks, d = .dic ks ∧ othD e = true) ∨ (∃ ks, e = .dic ks ∧ othD d = true)) : NotAlike K H v u := by
  rcases h with ⟨ks, ls, rfl, rfl, hl⟩ | ⟨ks, rfl, o⟩ | ⟨ks, rfl, o⟩
  · obtain ⟨a, ws, rfl, h1, l1⟩ := dic_rep r1
    obtain ⟨c, us, rfl, h2, l2⟩ := dic_rep r2
    exact .inl ⟨a, c, ws, us, rfl, rfl, h1, h2, by omega⟩
  · obtain ⟨a, ws, rfl, h1, _⟩ := dic_rep r1
    exact .inr (.inl ⟨a, ws, rfl, h1, oth_rep o r2⟩)
  · obtain ⟨a, ws, rfl, h1, _⟩ := dic_rep r2
    exact .inr (.inr ⟨a, ws, rfl, h1, oth_rep o r1⟩)
variable {P : PT'}
theorem w_eqQ {d e : D} {c : Bool} (h : EqQ d e c) (k : P (.v (.bl c)) O) : WR K (rEqQ K) (.v d) (.v e) O P := fun b A H Q v u s r1 r2 kv => by
  have go : NotAlike K H v u → P (.v (.bl false)) O → rEqQ K v u H (fun x H' => Q x H') := fun n k => .inr (.inr ⟨n, kv _ _ A O H k s Nxt.refl ⟨_, rfl, rfl⟩⟩)
  have q1 : ∀ {x : D} {w : V}, RepT K (Fz b A O H) A (.v x) (some w) → Rep K H x w := fun r => by
    obtain ⟨_, e, r⟩ := r
    cases e
    exact Rep.ex hid_ex _ r
  cases h with
  | pl h1 h2 => exact .inl (w_eqD valD_v valD_v h1 h2 k b A H Q v u s r1 r2 kv)
  | same hs => exact .inr (.inl (w_eqDic dicD_v dicD_v rfl hs k b A H Q v u s r1 r2 kv))
  | len hl => exact go (not_alike (q1 r1) (q1 r2) (.inl ⟨_, _, rfl, rfl, hl⟩)) k
  | dv o => exact go (not_alike (q1 r1) (q1 r2) (.inr (.inl ⟨_, rfl, o⟩))) k
  | vd o => exact go (not_alike (q1 r1) (q1 r2) (.inr (.inr ⟨_, rfl, o⟩))) k
theorem w_neQ {d e : D} {c : Bool} (h : EqQ d e c) (k : P (.v (.bl (!c))) O) : WR K (rNeQ K) (.v d) (.v e) O P := fun b A H Q v u s r1 r2 kv => by
  have go : NotAlike K H v u → P (.v (.bl true)) O → rNeQ K v u H (fun x H' => Q x H') := fun n k => .inr (.inr ⟨n, kv _ _ A O H k s Nxt.refl ⟨_, rfl, rfl⟩⟩)
  have q1 : ∀ {x : D} {w : V}, RepT K (Fz b A O H) A (.v x) (some w) → Rep K H x w := fun r => by
    obtain ⟨_, e, r⟩ := r
    cases e
    exact Rep.ex hid_ex _ r
  cases h with
  | pl h1 h2 => exact .inl (w_neD valD_v valD_v h1 h2 k b A H Q v u s r1 r2 kv)
  | same hs => exact .inr (.inl (w_neDic dicD_v dicD_v rfl hs k b A H Q v u s r1 r2 kv))
  | len hl => exact go (not_alike (q1 r1) (q1 r2) (.inl ⟨_, _, rfl, rfl, hl⟩)) k
  | dv o => exact go (not_alike (q1 r1) (q1 r2) (.inr (.inl ⟨_, rfl, o⟩))) k
  | vd o => exact go (not_alike (q1 r1) (q1 r2) (.inr (.inr ⟨_, rfl, o⟩))) k
end

section
variable {X : Cx} {pins : List (Addr × Obj)} {σ : L2.St} {H : Hp} {s : Shared}
end
section
variable {X : Cx} {k : Nat}
end
end G

set_option Elab.async false
set_option linter.all false
set_option maxRecDepth 100000
set_option maxHeartbeats 4000000
namespace G
open PySem PySem.Spec PyProof.Rows L2
theorem w_inSL {K : PySem.W.Frag} {O : List OD} {P : PT'} {neg : Bool} {x : Str} {y : T} {ys : List Str} (hy : LstD y O (ys.map D.str)) (k : P (.v (.bl (if neg then !inV (.str x) (ys.map V.str) else inV (.str x) (ys.map V.str)))) O) : WR K (rIn K neg) (.v (.str x)) y O P := fun b A H Q v u s r1 r2 kv => by
  obtain ⟨_, e1, e2⟩ := r1
  cases e1
  obtain ⟨a, vs, rfl, h1, h2⟩ := lstD_at hy s r2
  rw [repL_strs h2] at h1
  cases (show v = V.str x from e2)
  exact ⟨a, _, rfl, .inl h1, rfl, flat_strs ys, kv _ _ A O H k s Nxt.refl ⟨_, rfl, rfl⟩⟩
theorem inV_strs {x : Str} : ∀ {ys : List Str}, inV (.str x) (ys.map V.str) = ys.any (fun y => decide (x = y))
  | [] => rfl
  | y :: r => by
    have ih := @inV_strs x r
    unfold inV at ih ⊢
    rw [List.map_cons, List.any_cons, List.any_cons, ih]
    congr 1
    show decide (y = x) = decide (x = y)
    exact decide_eq_decide.mpr ⟨Eq.symm, Eq.symm⟩
end G

set_option Elab.async false
set_option linter.all false
set_option maxRecDepth 100000
set_option maxHeartbeats 4000000
namespace G
open PySem PySem.Spec PyProof.Rows L2 TL
def hdS (s : Str) : Option Nat := s.cps.toList.head?
theorem hdS_app {a b : Str} {c : Nat} (h : hdS a = some c) : hdS (a ++ b) = some c := by
  unfold hdS at h ⊢
  rw [show (a ++ b).cps.toList = a.cps.toList ++ b.cps.toList from by show (a.cps ++ b.cps).toList = _; simp]
  cases e : a.cps.toList with
  | nil => rw [e] at h; cases h
  | cons x r => rw [e] at h; exact h
theorem hd_int (n : Int) : ∃ c, hdS (PyData.int n).shown = some c ∧ (c = 45 ∨ (48 ≤ c ∧ c ≤ 57)) := by
  cases n with
  | ofNat n =>
    have e : (PyData.int (Int.ofNat n)).shown.cps.toList = numL n := numS_tl n
    unfold hdS
    rw [e]
    cases h : numL n with
    | nil => exact absurd h (numL_ne n)
    | cons c r =>
      have := numL_digits n c (by rw [h]; exact List.mem_cons_self)
      exact ⟨c, rfl, .inr (by omega)⟩
  | negSucc n =>
    have e : (PyData.int (Int.negSucc n)).shown = Str.ofString (toString (Int.negSucc n)) := rfl
    refine ⟨45, ?_, .inl rfl⟩
    unfold hdS
    rw [e, show toString (Int.negSucc n) = "-" ++ toString (n + 1) from rfl, Str.ofString_eq_toList]
    simp
theorem neg_shown (n : Nat) : (PyData.int (Int.negSucc n)).shown.cps.toList = 45 :: numL (n + 1) := by
  have e : (PyData.int (Int.negSucc n)).shown = Str.ofString (toString (Int.negSucc n)) := rfl
  have e2 : numL (n + 1) = (Str.ofString (toString (n + 1))).cps.toList := (numS_tl (n + 1)).symm
  rw [e, e2, show toString (Int.negSucc n) = "-" ++ toString (n + 1) from rfl, Str.ofString_eq_toList, Str.ofString_eq_toList]
  simp
theorem int_shown_inj {a b : Int} (h : (PyData.int a).shown = (PyData.int b).shown) : a = b := by
  have h2 : (PyData.int a).shown.cps.toList = (PyData.int b).shown.cps.toList := by rw [h]
  cases a with
  | ofNat a =>
    have ea : (PyData.int (Int.ofNat a)).shown.cps.toList = numL a := numS_tl a
    rw [ea] at h2
    cases b with
    | ofNat b =>
      have eb : (PyData.int (Int.ofNat b)).shown.cps.toList = numL b := numS_tl b
      rw [eb] at h2
      rw [numL_inj h2]
    | negSucc b =>
      rw [neg_shown] at h2
      exact absurd (by rw [h2]; exact List.mem_cons_self) (numL_free (n := a) (s := 45) (.inl (by decide)))
  | negSucc a =>
    rw [neg_shown] at h2
    cases b with
    | ofNat b =>
      have eb : (PyData.int (Int.ofNat b)).shown.cps.toList = numL b := numS_tl b
      rw [eb] at h2
      exact absurd (by rw [← h2]; exact List.mem_cons_self) (numL_free (n := b) (s := 45) (.inl (by decide)))
    | negSucc b =>
      rw [neg_shown] at h2
      injection h2 with _ h3
      have := numL_inj h3
      have : a = b := by omega
      rw [this]
theorem hd_text (x : Str) : ∃ c, hdS (PyData.str x).shown = some c ∧ (c = 39 ∨ c = 34) := by
  have e : (PyData.str x).shown = ⟨(x.cps.foldl (fun out c => out ++ (PySem.Builtin.Str.reprChar (reprQuote x) c).toArray) #[reprQuote x]).push (reprQuote x)⟩ := rfl
  have key : ∀ (q : Nat) (l : List Nat) (acc : Array Nat), acc.toList.head? = some q → (l.foldl (fun out c => out ++ (PySem.Builtin.Str.reprChar (reprQuote x) c).toArray) acc).toList.head? = some q := fun q l => by
    induction l with
    | nil => exact fun acc h => h
    | cons c r ih =>
      intro acc h
      rw [List.foldl_cons]
      refine ih _ ?_
      simp only [Array.toList_append]
      cases e : acc.toList with
      | nil => rw [e] at h; cases h
      | cons y z => rw [e] at h; exact h
  refine ⟨reprQuote x, ?_, ?_⟩
  · unfold hdS
    rw [e]
    have := key (reprQuote x) x.cps.toList #[reprQuote x] rfl
    rw [← Array.foldl_toList]
    simp only [Array.toList_push]
    cases e2 : (x.cps.toList.foldl (fun out c => out ++ (PySem.Builtin.Str.reprChar (reprQuote x) c).toArray) #[reprQuote x]).toList with
    | nil => rw [e2] at this; cases this
    | cons y z => rw [e2] at this; exact this
  · unfold reprQuote
    split
    · exact .inr rfl
    · exact .inl rfl
/-- no integer is shown so -/
theorem shown_no {d : D} {p : PyData} (h : pyT d = some p) (hn : ∀ n : Int, d ≠ .int n) (n : Int) : p.shown ≠ (PyData.int n).shown := fun z => by
  obtain ⟨c, h1, h2⟩ := hd_int n
  rw [← z] at h1
  have go : ∀ {k : Nat}, hdS p.shown = some k → k ≠ 45 → ¬ (48 ≤ k ∧ k ≤ 57) → False := fun a b e => by
    rw [h1] at a
    cases a
    rcases h2 with h2 | h2
    · exact b h2
    · exact e h2
  cases d with
  | non =>
    cases h
    exact go (k := 78) (by decide +kernel) (by decide) (by decide)
  | bl b =>
    cases h
    cases b with
    | true => exact go (k := 84) (by decide +kernel) (by decide) (by decide)
    | false => exact go (k := 70) (by decide +kernel) (by decide) (by decide)
  | int i => exact hn i rfl
  | str x =>
    cases h
    obtain ⟨c2, a, b⟩ := hd_text x
    exact go a (by omega) (by omega)
  | lst ds =>
    have e : ∃ ps, p = .list ps := by
      have h : (pyL ds).map PyData.list = some p := h
      cases e : pyL ds with
      | none => rw [e] at h; cases h
      | some ps => rw [e] at h; cases h; exact ⟨_, rfl⟩
    obtain ⟨ps, rfl⟩ := e
    have key : ∀ (ts : List Str) (k : Nat) (acc : Str), hdS acc = some 91 → hdS (textFrom k acc ts) = some 91 := fun ts => by
      induction ts with
      | nil => exact fun k acc h => h
      | cons t r ih => exact fun k acc h => ih _ _ (hdS_app (hdS_app h))
    have : (PyData.list ps).shown = textFrom 0 "[" (PyData.shownAll ps) ++ "]" := by rw [PyData.shown] <;> rfl
    exact go (k := 91) (by rw [this]; exact hdS_app (key _ _ _ (by decide +kernel))) (by decide) (by decide)
  | tup ds =>
    have e : ∃ ps, p = .tuple ps := by
      have h : (pyL ds).map PyData.tuple = some p := h
      cases e : pyL ds with
      | none => rw [e] at h; cases h
      | some ps => rw [e] at h; cases h; exact ⟨_, rfl⟩
    obtain ⟨ps, rfl⟩ := e
    have : (PyData.tuple ps).shown = ("(" : Str) ++ Str.join ", " (PyData.shownAll ps) ++ (if (PyData.shownAll ps).length == 1 then ",)" else ")" : String) := by rw [PyData.shown] <;> rfl
    exact go (k := 40) (by rw [this]; exact hdS_app (hdS_app (by decide +kernel))) (by decide) (by decide)
  | dic ks =>
    cases ks with
    | nil =>
      cases h
      exact go (k := 123) (by decide +kernel) (by decide) (by decide)
    | cons a r => cases h
  | _ => cases h
theorem shown_iff {d : D} {p : PyData} (h : pyT d = some p) (n : Int) : p.shown = (PyData.int n).shown ↔ d = .int n := by
  refine ⟨fun z => ?_, fun z => ?_⟩
  · by_cases hx : ∃ k : Int, d = .int k
    · obtain ⟨k, rfl⟩ := hx
      cases h
      rw [int_shown_inj z]
    · exact absurd z (shown_no h (fun k e => hx ⟨k, e⟩) n)
  · subst z
    cases h
    rfl
end G

set_option Elab.async false
set_option linter.all false
set_option maxRecDepth 100000
set_option maxHeartbeats 0
namespace My
open PySem PySem.Spec PyProof.Rows L2 G

open My (Per IsLp rowL)
def perB (M : Nat) (cs : List Int) (N : Int) : Bool := ((List.range (cs.length - 1)).map fun r => decide (rowL cs r N % (M : Int) = 0)).all id
theorem perB_iff {M : Nat} {cs : List Int} {N : Int} : perB M cs N = true ↔ Per M cs N := by
  unfold perB
  rw [List.all_eq_true, My.per_rows]
  refine ⟨fun h r hr => ?_, fun h b hb => ?_⟩
  · have := h _ (List.mem_map.mpr ⟨r, List.mem_range.mpr (by omega), rfl⟩)
    exact Int.dvd_of_emod_eq_zero (of_decide_eq_true this)
  · obtain ⟨r, hr, rfl⟩ := List.mem_map.mp hb
    have := List.mem_range.mp hr
    exact decide_eq_true (Int.emod_eq_zero_of_dvd (h r (by omega)))
theorem perB_no {M : Nat} {cs : List Int} {N : Int} (h : ¬ Per M cs N) : perB M cs N = false := by
  cases e : perB M cs N with
  | false => rfl
  | true => exact absurd (perB_iff.mp e) h
def sp_p_keeps (K : PySem.W.Frag) : SpD := fun ts O P _ => ∃ (cs : List Int) (M : Nat) (N : Int), ts = [.v (.tup (nums cs)), .v (.int (M : Nat)), .v (.int N)] ∧ O = [] ∧ 1 ≤ M ∧ cs.length ≤ 13 ∧ Sml 140 cs ∧ N.natAbs + 12 < 2 ^ 230 ∧ P (.v (.bl (perB M cs N))) []
theorem sp_p_keeps_len {K : PySem.W.Frag} {ts O P X} (h : sp_p_keeps K ts O P X) : ts.length = 3 := by
  obtain ⟨cs, M, N, rfl, _⟩ := h
  rfl
/-- the first row that leaves something -/
def FirstRow (M : Nat) (cs : List Int) (N : Int) (r : Nat) : Prop := r + 1 < cs.length ∧ ¬ (M : Int) ∣ rowL cs r N ∧ ∀ s, s < r → (M : Int) ∣ rowL cs s N
theorem first_row {M : Nat} {cs : List Int} {N : Int} (h : ¬ Per M cs N) : ∃ r, FirstRow M cs N r := by
  rw [My.per_rows] at h
  have : ∃ r, r + 1 < cs.length ∧ ¬ (M : Int) ∣ rowL cs r N := Classical.byContradiction fun z => h fun r hr => Classical.byContradiction fun w => z ⟨r, hr, w⟩
  obtain ⟨r, h1, h2⟩ := this
  induction r using Nat.strongRecOn with
  | _ r ih =>
    by_cases hx : ∃ s, s < r ∧ ¬ (M : Int) ∣ rowL cs s N
    · obtain ⟨s, s1, s2⟩ := hx
      exact ih s s1 (by omega) s2
    · exact ⟨r, h1, h2, fun s hs => Classical.byContradiction fun w => hx ⟨s, hs, w⟩⟩
def sp_p_leaving (K : PySem.W.Frag) : SpD := fun ts O P _ => ∃ (cs : List Int) (M : Nat) (N : Int), ts = [.v (.tup (nums cs)), .v (.int (M : Nat)), .v (.int N)] ∧ O = [] ∧ 1 ≤ M ∧ cs.length ≤ 13 ∧ Sml 140 cs ∧ N.natAbs + 12 < 2 ^ 230 ∧ ¬ Per M cs N ∧ ∀ r, FirstRow M cs N r → P (.v (.int (r : Nat))) []
theorem sp_p_leaving_len {K : PySem.W.Frag} {ts O P X} (h : sp_p_leaving K ts O P X) : ts.length = 3 := by
  obtain ⟨cs, M, N, rfl, _⟩ := h
  rfl
/-- p ^ t is the least period modulo p ^ e -/
def LpT (p e : Nat) (cs : List Int) (t : Nat) : Prop := IsLp (p ^ e) cs (p ^ t) ∧ t ≤ e + 3
theorem lpT_exists {p e : Nat} (hp : p ∈ My.PR) {cs : List Int} (hl : cs.length ≤ 13) : ∃ t, LpT p e cs t := by
  have p2 := (My.pr_two hp).1
  obtain ⟨L, hL⟩ := My.lp_exists (My.pw_period hp e hl) (Nat.pow_pos (by omega))
  have d1 := Int.ofNat_dvd.mp ((hL.2 _).mp (My.pw_period hp e hl))
  obtain ⟨j, j1, rfl⟩ := My.pw_dvd hp _ _ d1
  exact ⟨j, hL, j1⟩
theorem lpT_per {p e t s : Nat} (hp : p ∈ My.PR) {cs : List Int} (h : LpT p e cs t) : Per (p ^ e) cs ((p ^ s : Nat) : Int) ↔ t ≤ s := by
  rw [h.1.2, Int.ofNat_dvd, My.pw_le hp]
def PwOk (p e : Nat) : Prop := p ∈ My.PR ∧ p ^ e ≤ 1000000000000000000000000000000
theorem PwOk.e {p e : Nat} (h : PwOk p e) : e < 100 := by
  refine Nat.lt_of_not_le fun z => ?_
  have p2 := (My.pr_two h.1).1
  have : 2 ^ 100 ≤ p ^ e := Nat.le_trans (Nat.pow_le_pow_right (by decide) z) (Nat.pow_le_pow_left p2 e)
  have h2 := h.2
  omega
theorem PwOk.far {p e s : Nat} (h : PwOk p e) (hs : s ≤ e + 3) : p ^ s < 2 ^ 120 := by
  have p2 := My.pr_two h.1
  have h1 : p ^ s ≤ p ^ e * p ^ 3 := by
    rw [← Nat.pow_add]
    exact Nat.pow_le_pow_right (by omega) hs
  have h3 : p ^ 3 ≤ 11 ^ 3 := Nat.pow_le_pow_left p2.2 3
  have h4 := Nat.mul_le_mul h.2 h3
  have h5 : (11 : Nat) ^ 3 = 1331 := rfl
  rw [h5] at h4
  omega
theorem pw_far {p e s : Nat} (h : PwOk p e) (hs : s ≤ e + 3) : (((p ^ s : Nat) : Int)).natAbs + 12 < 2 ^ 230 := by
  have := h.far hs
  exact Nat.lt_of_lt_of_le (show (((p ^ s : Nat) : Int)).natAbs + 12 < 2 ^ 121 by omega) (Nat.pow_le_pow_right (by decide) (by decide))
def sp_p_power (K : PySem.W.Frag) : SpD := fun ts O P _ => ∃ (cs : List Int) (p e : Nat), ts = [.v (.tup (nums cs)), .v (.int (p : Nat)), .v (.int (e : Nat))] ∧ O = [] ∧ PwOk p e ∧ cs.length ≤ 13 ∧ Sml 140 cs ∧ ∀ t, LpT p e cs t → P (.v (.int (t : Nat))) []
theorem sp_p_power_len {K : PySem.W.Frag} {ts O P X} (h : sp_p_power K ts O P X) : ts.length = 3 := by
  obtain ⟨cs, p, e, rfl, _⟩ := h
  rfl
/-- what shows that p ^ t is the least -/
def ShowW (p e : Nat) (cs : List Int) (t : Nat) (w : D) : Prop := (t = 0 ∧ w = .non) ∨ ∃ s r : Nat, t = s + 1 ∧ w = .int (r : Nat) ∧ FirstRow (p ^ e) cs ((p ^ s : Nat) : Int) r
def sp_p_shown (K : PySem.W.Frag) : SpD := fun ts O P _ => ∃ (cs : List Int) (p e : Nat), ts = [.v (.tup (nums cs)), .v (.int (p : Nat)), .v (.int (e : Nat))] ∧ O = [] ∧ PwOk p e ∧ cs.length ≤ 13 ∧ Sml 140 cs ∧ ∀ t w, LpT p e cs t → ShowW p e cs t w → P (.v (.tup [.int (p : Nat), .int (t : Nat), w])) []
theorem sp_p_shown_len {K : PySem.W.Frag} {ts O P X} (h : sp_p_shown K ts O P X) : ts.length = 3 := by
  obtain ⟨cs, p, e, rfl, _⟩ := h
  rfl
def perD (K : PySem.W.Frag) (L G : Nat) (ms : List Int) (sm : List D) : D := .ins (He.ga K "Period") [("length", .int (L : Nat)), ("great", .int (G : Nat)), ("multipliers", .tup (nums ms)), ("smalls", .tup sm)]
/-- the triples of the small primes -/
def SmsOk (cs : List Int) : List (Nat × Nat) → List D → List Nat → Prop
  | [], sm, Ls => sm = [] ∧ Ls = []
  | x :: xs, sm, Ls => ∃ t w sm' Ls', sm = .tup [.int (x.1 : Nat), .int (t : Nat), w] :: sm' ∧ Ls = x.1 ^ t :: Ls' ∧ LpT x.1 x.2 cs t ∧ ShowW x.1 x.2 cs t w ∧ SmsOk cs xs sm' Ls'
theorem SmsOk.snoc {cs : List Int} {x : Nat × Nat} {t : Nat} {w : D} (h1 : LpT x.1 x.2 cs t) (h2 : ShowW x.1 x.2 cs t w) : ∀ {xs : List (Nat × Nat)} {sm : List D} {Ls : List Nat}, SmsOk cs xs sm Ls → SmsOk cs (xs ++ [x]) (sm ++ [.tup [.int (x.1 : Nat), .int (t : Nat), w]]) (Ls ++ [x.1 ^ t])
  | [], _, _, ⟨e1, e2⟩ => by
    subst e1 e2
    exact ⟨t, w, [], [], rfl, rfl, h1, h2, rfl, rfl⟩
  | y :: xs, _, _, ⟨t', w', sm', Ls', e1, e2, a, b, c⟩ => by
    subst e1 e2
    exact ⟨t', w', _, _, rfl, rfl, a, b, SmsOk.snoc h1 h2 c⟩
theorem SmsOk.at {cs : List Int} : ∀ {xs : List (Nat × Nat)} {sm : List D} {Ls : List Nat}, SmsOk cs xs sm Ls → Ls.length = xs.length ∧ ∀ (i : Nat) (x : Nat × Nat) (L : Nat), xs[i]? = some x → Ls[i]? = some L → ∃ t, L = x.1 ^ t ∧ LpT x.1 x.2 cs t
  | [], _, _, ⟨e1, e2⟩ => by
    subst e1 e2
    exact ⟨rfl, fun i x L h _ => by simp at h⟩
  | y :: xs, _, _, ⟨t', w', sm', Ls', e1, e2, a, b, c⟩ => by
    subst e1 e2
    obtain ⟨h1, h2⟩ := SmsOk.at c
    refine ⟨by rw [List.length_cons, List.length_cons, h1], fun i x L hx hL => ?_⟩
    cases i with
    | zero =>
      have ex : y = x := Option.some.inj hx
      have eL : y.1 ^ t' = L := Option.some.inj hL
      subst ex eL
      exact ⟨t', rfl, a⟩
    | succ i => exact h2 i x L hx hL
structure LpOk (M : Nat) (cs : List Int) (L G : Nat) (ms : List Int) (sm : List D) : Prop where
  lp : IsLp M cs L
  bd : L < 2 ^ 700
  gr : G = My.great M (cs.length - 1)
  mu : My.MulOk G (cs.drop 1) ms (My.gcdL G (cs.drop 1))
  sm : ∃ Ls, SmsOk cs (My.small M (cs.length - 1)) sm Ls ∧ L = My.prodN (G / My.gcdL G (cs.drop 1) :: Ls)
/-- the end of the reckoning -/
theorem lp_end {M : Nat} {cs : List Int} (hM : 1 ≤ M) (hl : cs.length ≤ 13) {sm : List D} {Ls : List Nat} (h : SmsOk cs (My.small M (cs.length - 1)) sm Ls) :
    IsLp M cs (My.prodN (My.great M (cs.length - 1) / My.gcdL (My.great M (cs.length - 1)) (cs.drop 1) :: Ls)) := by
  obtain ⟨h1, h2⟩ := h.at
  have g1 := My.great_pos (cs.length - 1) hM
  have e := My.pieces_prod (cs.length - 1) hM
  have cp := My.pieces_cop (cs.length - 1) hM
  have lpG := My.lp_great (G := My.great M (cs.length - 1)) (cs := cs) g1 fun j j1 j2 => My.great_cop hM (by omega) j1 j2
  have key : ∀ (i : Nat) (d L : Nat), (My.pieces M (cs.length - 1))[i]? = some d → (My.great M (cs.length - 1) / My.gcdL (My.great M (cs.length - 1)) (cs.drop 1) :: Ls)[i]? = some L → IsLp d cs L ∧ ∀ z : Nat, Nat.Coprime d z → Nat.Coprime L z := fun i d L hd hL => by
    cases i with
    | zero =>
      have e1 : My.great M (cs.length - 1) = d := Option.some.inj hd
      have e2 : My.great M (cs.length - 1) / My.gcdL (My.great M (cs.length - 1)) (cs.drop 1) = L := Option.some.inj hL
      subst e1 e2
      exact ⟨lpG, fun z hz => Nat.Coprime.coprime_dvd_left (Nat.div_dvd_of_dvd (My.gcdL_dvd _ _)) hz⟩
    | succ i =>
      have hd2 : ((My.small M (cs.length - 1)).map fun x => x.1 ^ x.2)[i]? = some d := hd
      rw [List.getElem?_map] at hd2
      cases hx : (My.small M (cs.length - 1))[i]? with
      | none =>
        rw [hx] at hd2
        cases hd2
      | some x =>
        rw [hx] at hd2
        have ed : x.1 ^ x.2 = d := Option.some.inj hd2
        subst ed
        obtain ⟨t, rfl, ht⟩ := h2 i x L hx hL
        refine ⟨ht.1, fun z hz => Nat.Coprime.pow_left _ ?_⟩
        obtain ⟨m1, _, m3, m4⟩ := My.small_mem (List.mem_of_getElem? hx)
        have : x.1 ∣ x.1 ^ x.2 := by
          obtain ⟨q, e1, e2⟩ := My.vl_spec (My.pr_two m1).1 hM
          rw [m4]
          cases hv : My.vl x.1 M with
          | zero =>
            rw [hv, Nat.pow_zero, Nat.one_mul] at e1
            rw [← e1] at e2
            exact absurd m3 e2
          | succ v => exact ⟨x.1 ^ v, by rw [Nat.pow_succ, Nat.mul_comm]⟩
        exact Nat.Coprime.coprime_dvd_left this hz
  have hlen : (My.pieces M (cs.length - 1)).length = (My.great M (cs.length - 1) / My.gcdL (My.great M (cs.length - 1)) (cs.drop 1) :: Ls).length := by
    unfold My.pieces
    rw [List.length_cons, List.length_cons, List.length_map, h1]
  have fin := My.lp_pieces (cs := cs) hlen cp (My.cop_sub hlen (fun i x y hx hy z hz => (key i x y hx hy).2 z hz) cp) fun i d L hd hL => (key i d L hd hL).1
  rwa [e] at fin
def sp_P_init (K : PySem.W.Frag) : SpD := fun ts O P _ => ∃ a b c d : D, ts = [.own 0, .v a, .v b, .v c, .v d] ∧ O = [.ins (He.ga K "Period") []] ∧ P (.v .non) [.ins (He.ga K "Period") [("length", a), ("great", b), ("multipliers", c), ("smalls", d)]]
theorem sp_P_init_len {K : PySem.W.Frag} {ts O P X} (h : sp_P_init K ts O P X) : ts.length = 5 := by
  obtain ⟨a, b, c, d, rfl, _⟩ := h
  rfl
open My (mulF gcdL MulOk mulF_ok)
def perX (K : PySem.W.Frag) (a b c d : D) : D := .ins (He.ga K "Period") [("length", a), ("great", b), ("multipliers", c), ("smalls", d)]
/-- all answers of ==, one behind the other -/
def Eq4 (a b c d a' b' c' d' : D) (r : Bool) : Prop := ∃ c1, EqQ a a' c1 ∧ ((c1 = false ∧ r = false) ∨ (c1 = true ∧ ∃ c2, EqQ b b' c2 ∧ ((c2 = false ∧ r = false) ∨ (c2 = true ∧ ∃ c3, EqQ c c' c3 ∧ ((c3 = false ∧ r = false) ∨ (c3 = true ∧ EqQ d d' r))))))
theorem knB_int {m n : Int} : KnB m (.int n) = true ↔ 0 ≤ n ∧ n < m := by
  show (decide (0 ≤ n) && decide (n ≤ m - 1)) = true ↔ _
  rw [Bool.and_eq_true_iff, decide_eq_true_iff, decide_eq_true_iff]
  omega
theorem SmsOk.len {cs : List Int} : ∀ {xs : List (Nat × Nat)} {sm : List D} {Ls : List Nat}, SmsOk cs xs sm Ls → sm.length = xs.length ∧ Ls.length = xs.length
  | [], _, _, ⟨e1, e2⟩ => by
    subst e1 e2
    exact ⟨rfl, rfl⟩
  | y :: xs, _, _, ⟨t', w', sm', Ls', e1, e2, a, b, c⟩ => by
    subst e1 e2
    obtain ⟨h1, h2⟩ := SmsOk.len c
    exact ⟨by rw [List.length_cons, List.length_cons, h1], by rw [List.length_cons, List.length_cons, h2]⟩
theorem SmsOk.get {cs : List Int} : ∀ {xs : List (Nat × Nat)} {sm : List D} {Ls : List Nat}, SmsOk cs xs sm Ls → ∀ (i : Nat) (x : Nat × Nat), xs[i]? = some x → ∃ t w, sm[i]? = some (.tup [.int (x.1 : Nat), .int (t : Nat), w]) ∧ Ls[i]? = some (x.1 ^ t) ∧ LpT x.1 x.2 cs t ∧ ShowW x.1 x.2 cs t w
  | [], _, _, _ => fun i x h => by simp at h
  | y :: xs, _, _, ⟨t', w', sm', Ls', e1, e2, a, b, c⟩ => fun i x hx => by
    subst e1 e2
    cases i with
    | zero =>
      have ex : y = x := Option.some.inj hx
      subst ex
      exact ⟨t', w', rfl, rfl, a, b⟩
    | succ i => exact SmsOk.get c i x hx
theorem most_ex {q : Nat} (hq : 2 ≤ q) (d : Nat) : ∃ s, d < q ^ (s + 1) ∧ (s = 0 ∨ q ^ s ≤ d) := by
  have h0 : ∃ s, d < q ^ (s + 1) := ⟨d, Nat.lt_of_lt_of_le Nat.lt_two_pow_self (Nat.le_trans (Nat.pow_le_pow_left hq d) (Nat.pow_le_pow_right (by omega) (by omega)))⟩
  obtain ⟨s, hs⟩ := h0
  induction s using Nat.strongRecOn with
  | ind s ih =>
    by_cases z : s = 0
    · exact ⟨s, hs, .inl z⟩
    · by_cases w : q ^ s ≤ d
      · exact ⟨s, hs, .inr w⟩
      · exact ih (s - 1) (by omega) (by rw [show s - 1 + 1 = s by omega]; omega)
def sp_P_eq (K : PySem.W.Frag) : SpD := fun ts O P X => ∃ (a b c d e : D), ts = [.v (perX K a b c d), .v e] ∧ O = [] ∧ ((∃ t, TyD K e t ∧ PySem.W.kitOne K t (.ref (He.ga K "Period")) = some false ∧ P (.v (.bl false)) []) ∨ ∃ a' b' c' d' r, e = perX K a' b' c' d' ∧ Eq4 a b c d a' b' c' d' r ∧ P (.v (.bl r)) [])
theorem sp_P_eq_len {K : PySem.W.Frag} {ts O P X} (h : sp_P_eq K ts O P X) : ts.length = 2 := by
  obtain ⟨a, b, c, d, e, rfl, _⟩ := h
  rfl
def sp_p_leastF (K : PySem.W.Frag) : SpD := fun ts O P X => ∃ (m : Int) (cs : List Int), ts = [.v (sumD K m cs)] ∧ O = [] ∧ SumOk m cs ∧ ∀ L G ms sm, LpOk m.toNat cs L G ms sm → ms = mulF G (cs.drop 1) → P (.v (perD K L G ms sm)) []
theorem sp_p_leastF_len {K : PySem.W.Frag} {ts O P X} (h : sp_p_leastF K ts O P X) : ts.length = 1 := by
  obtain ⟨m, cs, rfl, _⟩ := h
  rfl
theorem kn_all {K : PySem.W.Frag} {m : Int} : ∀ {ds : List D}, (∀ x ∈ ds, Kn K x) → ds.all (KnB m) = true → ∃ ms : List Int, ds = nums ms ∧ ∀ x ∈ ms, 0 ≤ x ∧ x < m
  | [], _, _ => ⟨[], rfl, fun x hx => by cases hx⟩
  | d :: ds, h, e => by
    rw [List.all_cons, Bool.and_eq_true_iff] at e
    obtain ⟨ms, rfl, hm⟩ := kn_all (fun x hx => h x (List.mem_cons_of_mem _ hx)) e.2
    rcases h d List.mem_cons_self with ⟨n, rfl⟩ | hd
    · refine ⟨n :: ms, rfl, fun x hx => ?_⟩
      rcases List.mem_cons.mp hx with rfl | hx
      · exact knB_int.mp e.1
      · exact hm x hx
    · rw [knB_no hd] at e
      cases e.1

open My (dvOf dv_shown dv_is)
theorem iff_no {Q : Prop} (h : ¬ Q) : false = true ↔ Q := ⟨fun z => (by cases z), fun z => (h z).elim⟩
theorem iff_yes {Q : Prop} (h : Q) : true = true ↔ Q := ⟨fun _ => h, fun _ => rfl⟩
theorem numsI : ∀ {xs ys : List Int}, nums xs = nums ys → xs = ys
  | [], [], _ => rfl
  | [], _ :: _, h => by cases h
  | _ :: _, [], h => by cases h
  | x :: xs, y :: ys, h => by
    injection h with h1 h2
    injection h1 with h1
    rw [h1, numsI h2]
/-- a value that may stand in a paper -/
def Sv (d : D) : Prop := (∃ n : Int, d = .int n ∧ Sm n) ∨ (niB d = true ∧ (∃ p, Shows d p) ∧ pl 59 d = true ∧ pl 58 d = true)
theorem sv_n {n : Int} (h : Sm n) : Sv (.int n) := .inl ⟨n, rfl, h⟩
theorem Sv.show {d : D} (h : Sv d) : ∃ p, Shows d p := by
  rcases h with ⟨n, rfl, h⟩ | ⟨_, h, _⟩
  · exact ⟨_, shows_int h⟩
  · exact h
theorem Sv.pl {d : D} (h : Sv d) : G.pl 59 d = true ∧ G.pl 58 d = true := by
  rcases h with ⟨n, rfl, h⟩ | ⟨_, _, h⟩
  · exact ⟨pl_int, pl_int⟩
  · exact h
def btB (lo hi : Int) (d : D) : Bool := match d with
  | .int n => decide (lo ≤ n) && decide (n ≤ hi)
  | _ => false
theorem btB_ni {lo hi : Int} {d : D} (h : niB d = true) : btB lo hi d = false := by
  cases d with
  | int n => cases h
  | _ => rfl
theorem Sv.btw {K : PySem.W.Frag} {d : D} (h : Sv d) (lo hi : Int) : BtwQ K d lo hi (btB lo hi d) := by
  rcases h with ⟨n, rfl, _⟩ | ⟨h, _⟩
  · exact .inl ⟨n, rfl, rfl⟩
  · exact .inr ⟨ni_ok h, btB_ni h⟩
theorem btB_iff {lo hi : Int} {d : D} : btB lo hi d = true ↔ ∃ n : Int, d = .int n ∧ lo ≤ n ∧ n ≤ hi := by
  cases d with
  | int n =>
    show (decide (lo ≤ n) && decide (n ≤ hi)) = true ↔ _
    rw [Bool.and_eq_true_iff, decide_eq_true_iff, decide_eq_true_iff]
    refine ⟨fun h => ⟨n, rfl, h.1, h.2⟩, fun ⟨k, e, h1, h2⟩ => ?_⟩
    cases e
    exact ⟨h1, h2⟩
  | _ => exact ⟨fun z => (by cases z), fun ⟨k, e, _⟩ => (by cases e)⟩
def isI (d : D) : Bool := match d with
  | .int _ => true
  | _ => false
theorem Sv.isi {K : PySem.W.Frag} {d : D} (h : Sv d) : IntQ K d (isI d) := by
  rcases h with ⟨n, rfl, _⟩ | ⟨h, _⟩
  · exact intQ_int
  · have : isI d = false := by
      cases d with
      | int n => cases h
      | _ => rfl
    rw [this]
    exact ni_ok h
theorem isI_iff {d : D} : isI d = true ↔ ∃ n : Int, d = .int n := by
  cases d with
  | int n => exact ⟨fun _ => ⟨n, rfl⟩, fun _ => rfl⟩
  | _ => exact ⟨fun z => (by cases z), fun ⟨k, e⟩ => (by cases e)⟩
theorem Sv.kn {K : PySem.W.Frag} {d : D} (h : Sv d) : Kn K d := by
  rcases h with ⟨n, rfl, _⟩ | ⟨h, _⟩
  · exact kn_int n
  · exact .inr (ni_ok h)
/-- no tuple -/
def NoTup (d : D) : Prop := d = .non ∨ ∃ ds, d = .lst ds
theorem NoTup.kit {K : PySem.W.Frag} {d : D} (h : NoTup d) : ∃ t, TyD K d t ∧ PySem.W.kitOne K t (.type "tuple") = some false := by
  rcases h with rfl | ⟨ds, rfl⟩
  · exact ⟨_, .non, kit_ty (r := false) (by decide +kernel)⟩
  · exact ⟨_, .lst ds, kit_ty (r := false) (by decide +kernel)⟩
theorem NoTup.ne {d : D} (h : NoTup d) (ds : List D) : d ≠ .tup ds := fun e => by
  subst e
  rcases h with h | ⟨_, h⟩ <;> cases h
def Tri (e : D) : Prop := (∃ ds : List D, e = .tup ds ∧ ds.length ≤ 6 ∧ ∀ x ∈ ds, Sv x) ∨ NoTup e
def ShowR (p e : Nat) (cs : List Int) (t : Nat) (w : D) : Prop := (t = 0 ∧ w = .non) ∨ ∃ s r : Nat, t = s + 1 ∧ w = .int (r : Nat) ∧ r + 1 < cs.length ∧ ¬ ((p ^ e : Nat) : Int) ∣ rowL cs r ((p ^ s : Nat) : Int)
/-- a triple is right -/
def TriR (cs : List Int) (x : Nat × Nat) (e : D) : Prop := ∃ (t : Nat) (w : D), e = .tup [.int (x.1 : Nat), .int (t : Nat), w] ∧ LpT x.1 x.2 cs t ∧ ShowR x.1 x.2 cs t w
theorem lpT_of {p e u : Nat} (hp : p ∈ My.PR) {cs : List Int} (hl : cs.length ≤ 13) (h1 : Per (p ^ e) cs ((p ^ (u + 1) : Nat) : Int)) (h2 : ¬ Per (p ^ e) cs ((p ^ u : Nat) : Int)) : LpT p e cs (u + 1) := by
  obtain ⟨t, ht⟩ := lpT_exists (e := e) hp hl
  have a := (lpT_per hp ht).mp h1
  have b : ¬ t ≤ u := fun z => h2 ((lpT_per hp ht).mpr z)
  have : t = u + 1 := by omega
  rwa [this] at ht
theorem lpT_0 {p e : Nat} (hp : p ∈ My.PR) {cs : List Int} (hl : cs.length ≤ 13) (h1 : Per (p ^ e) cs ((p ^ 0 : Nat) : Int)) : LpT p e cs 0 := by
  obtain ⟨t, ht⟩ := lpT_exists (e := e) hp hl
  have a := (lpT_per hp ht).mp h1
  have : t = 0 := by omega
  rwa [this] at ht
theorem lpT_inj {p e t u : Nat} (hp : p ∈ My.PR) {cs : List Int} (h : LpT p e cs t) (k : LpT p e cs u) : t = u := My.lp_uniqP hp h.1 k.1
theorem row_no {cs : List Int} {M r : Nat} {N : Int} (h1 : r + 1 < cs.length) (h2 : ¬ (M : Int) ∣ rowL cs r N) : ¬ Per M cs N := fun z => h2 (My.per_rows.mp z r h1)
theorem len3 {ds : List D} (h : ((ds.length : Nat) : Int) = 3) : ∃ a b c, ds = [a, b, c] := by
  match ds, h with
  | [a, b, c], _ => exact ⟨a, b, c, rfl⟩
  | [], h => simp at h
  | [_], h => simp at h
  | [_, _], h => simp at h
  | _ :: _ :: _ :: _ :: _, h => simp only [List.length_cons] at h; omega
/-- the triples of the small primes are right -/
def SmsR (cs : List Int) : List (Nat × Nat) → List D → List Nat → Prop
  | [], sm, Ls => sm = [] ∧ Ls = []
  | x :: xs, sm, Ls => ∃ t w sm' Ls', sm = .tup [.int (x.1 : Nat), .int (t : Nat), w] :: sm' ∧ Ls = x.1 ^ t :: Ls' ∧ LpT x.1 x.2 cs t ∧ ShowR x.1 x.2 cs t w ∧ SmsR cs xs sm' Ls'
theorem SmsR.snoc {cs : List Int} {x : Nat × Nat} {t : Nat} {w : D} (h1 : LpT x.1 x.2 cs t) (h2 : ShowR x.1 x.2 cs t w) : ∀ {xs : List (Nat × Nat)} {sm : List D} {Ls : List Nat}, SmsR cs xs sm Ls → SmsR cs (xs ++ [x]) (sm ++ [.tup [.int (x.1 : Nat), .int (t : Nat), w]]) (Ls ++ [x.1 ^ t])
  | [], _, _, ⟨e1, e2⟩ => by
    subst e1 e2
    exact ⟨t, w, [], [], rfl, rfl, h1, h2, rfl, rfl⟩
  | y :: xs, _, _, ⟨t', w', sm', Ls', e1, e2, a, b, c⟩ => by
    subst e1 e2
    exact ⟨t', w', _, _, rfl, rfl, a, b, SmsR.snoc h1 h2 c⟩
theorem SmsR.get {cs : List Int} : ∀ {xs : List (Nat × Nat)} {sm : List D} {Ls : List Nat}, SmsR cs xs sm Ls → sm.length = xs.length ∧ Ls.length = xs.length ∧ ∀ (i : Nat) (x : Nat × Nat), xs[i]? = some x → ∃ t w, sm[i]? = some (.tup [.int (x.1 : Nat), .int (t : Nat), w]) ∧ Ls[i]? = some (x.1 ^ t) ∧ LpT x.1 x.2 cs t ∧ ShowR x.1 x.2 cs t w
  | [], _, _, ⟨e1, e2⟩ => by
    subst e1 e2
    exact ⟨rfl, rfl, fun i x h => by simp at h⟩
  | y :: xs, _, _, ⟨t', w', sm', Ls', e1, e2, a, b, c⟩ => by
    subst e1 e2
    obtain ⟨h1, h2, h3⟩ := SmsR.get c
    refine ⟨by rw [List.length_cons, List.length_cons, h1], by rw [List.length_cons, List.length_cons, h2], fun i x hx => ?_⟩
    cases i with
    | zero =>
      have ex : y = x := Option.some.inj hx
      subst ex
      exact ⟨t', w', rfl, rfl, a, b⟩
    | succ i => exact h3 i x hx
theorem SmsR.uniq {cs : List Int} : ∀ {xs : List (Nat × Nat)} {sm sm' : List D} {Ls Ls' : List Nat}, (∀ x ∈ xs, x.1 ∈ My.PR) → SmsR cs xs sm Ls → SmsR cs xs sm' Ls' → Ls = Ls'
  | [], _, _, _, _, _, ⟨_, e2⟩, ⟨_, f2⟩ => e2.trans f2.symm
  | x :: xs, _, _, _, _, hp, ⟨t, w, sm, Ls, e1, e2, a, b, c⟩, ⟨t', w', sm', Ls', f1, f2, a', b', c'⟩ => by
    have i1 := SmsR.uniq (fun y hy => hp y (List.mem_cons_of_mem _ hy)) c c'
    have := lpT_inj (hp x List.mem_cons_self) a a'
    subst this e2 f2
    rw [i1]
theorem smsR_of {cs : List Int} : ∀ {xs : List (Nat × Nat)} {sm : List D} {Ls : List Nat}, SmsOk cs xs sm Ls → SmsR cs xs sm Ls
  | [], _, _, h => h
  | x :: xs, _, _, ⟨t, w, sm, Ls, e1, e2, a, b, c⟩ => ⟨t, w, sm, Ls, e1, e2, a, by
      rcases b with b | ⟨s, r, e, ew, hr⟩
      · exact .inl b
      · exact .inr ⟨s, r, e, ew, hr.1, hr.2.1⟩, smsR_of c⟩
/-- a paper is right -/
def Due (M : Nat) (cs : List Int) (a b c d : D) : Prop := ∃ ms sm Ls, b = .int (My.great M (cs.length - 1) : Nat) ∧ c = .tup (nums ms) ∧ My.MulOk (My.great M (cs.length - 1)) (cs.drop 1) ms (gcdL (My.great M (cs.length - 1)) (cs.drop 1)) ∧ d = .tup sm ∧ SmsR cs (My.small M (cs.length - 1)) sm Ls ∧ a = .int (My.prodN (My.great M (cs.length - 1) / gcdL (My.great M (cs.length - 1)) (cs.drop 1) :: Ls) : Nat)
/-- what may stand in a paper -/
structure Fit (a b c d : D) : Prop where
  a : Sv a
  b : Sv b
  c : (∃ ds : List D, c = .tup ds ∧ ds.length ≤ 20 ∧ ∀ x ∈ ds, Sv x) ∨ NoTup c
  d : (∃ ds : List D, d = .tup ds ∧ ds.length ≤ 20 ∧ ∀ x ∈ ds, Tri x) ∨ NoTup d
theorem mulQ_of {K : PySem.W.Frag} {c : D} {n : Nat} {m : Int} (h : (∃ ds : List D, c = .tup ds ∧ ds.length ≤ 20 ∧ ∀ x ∈ ds, Sv x) ∨ NoTup c) : ∃ r, MulQ K c n m r ∧ (r = true ↔ ∃ ms : List Int, c = .tup (nums ms) ∧ ms.length = n ∧ ∀ x ∈ ms, 0 ≤ x ∧ x < m) := by
  rcases h with ⟨ds, rfl, hl, hs⟩ | h
  · refine ⟨_, .inr ⟨ds, rfl, by omega, fun x hx => (hs x hx).kn, rfl⟩, ?_⟩
    rw [Bool.and_eq_true_iff, decide_eq_true_iff]
    constructor
    · rintro ⟨h1, h2⟩
      obtain ⟨ms, e, hm⟩ := kn_all (K := K) (fun x hx => (hs x hx).kn) h2
      subst e
      rw [nums_len] at h1
      exact ⟨ms, rfl, by omega, hm⟩
    · rintro ⟨ms, e, h1, h2⟩
      cases e
      refine ⟨by rw [nums_len]; omega, List.all_eq_true.mpr fun x hx => ?_⟩
      obtain ⟨k, hk, rfl⟩ := List.mem_map.mp hx
      exact knB_int.mpr (h2 k hk)
  · exact ⟨false, .inl ⟨h.kit, rfl⟩, iff_no fun ⟨ms, e, _⟩ => h.ne _ e⟩
def sp_q_most (K : PySem.W.Frag) : SpD := fun ts O P X => ∃ (q d : Nat), ts = [.v (.int (q : Nat)), .v (.int (d : Nat))] ∧ O = [] ∧ 2 ≤ q ∧ q ≤ 11 ∧ d ≤ 12 ∧ ∀ s : Nat, d < q ^ (s + 1) → (s = 0 ∨ q ^ s ≤ d) → P (.v (.int (s : Nat))) []
theorem sp_q_most_len {K : PySem.W.Frag} {ts O P X} (h : sp_q_most K ts O P X) : ts.length = 2 := by
  obtain ⟨q, d, rfl, _⟩ := h
  rfl
def sp_q_divsh (K : PySem.W.Frag) : SpD := fun ts O P X => ∃ (g0 : Nat) (ns ms : List Int), ts = [.v (.int (g0 : Nat)), .v (.tup (nums ns)), .v (.tup (nums ms))] ∧ O = [] ∧ 1 ≤ g0 ∧ (g0 : Int) ≤ 1000000000000000000000000000000 ∧ ns.length ≤ 12 ∧ Sml 140 ns ∧ ms.length = ns.length ∧ G.InR (g0 : Int) ms ∧ ((g0 : Int) ∣ My.sumM ms ns - (gcdL g0 ns : Nat) → P (.v (.int (gcdL g0 ns : Nat))) []) ∧ (¬ (g0 : Int) ∣ My.sumM ms ns - (gcdL g0 ns : Nat) → P (.v .non) [])
theorem sp_q_divsh_len {K : PySem.W.Frag} {ts O P X} (h : sp_q_divsh K ts O P X) : ts.length = 3 := by
  obtain ⟨g0, ns, ms, rfl, _⟩ := h
  rfl
def sp_q_shsm (K : PySem.W.Frag) : SpD := fun ts O P X => ∃ (m : Int) (cs : List Int) (e : D) (p k : Nat), ts = [.v (sumD K m cs), .v e, .v (.int (p : Nat)), .v (.int (k : Nat))] ∧ O = [] ∧ SumOk m cs ∧ PwOk p k ∧ Tri e ∧ ∀ r : Bool, (r = true ↔ TriR cs (p, k) e) → P (.v (.bl r)) []
theorem sp_q_shsm_len {K : PySem.W.Frag} {ts O P X} (h : sp_q_shsm K ts O P X) : ts.length = 4 := by
  obtain ⟨m, cs, e, p, k, rfl, _⟩ := h
  rfl
def sp_q_shper (K : PySem.W.Frag) : SpD := fun ts O P X => ∃ (m : Int) (cs : List Int) (e : D), ts = [.v (sumD K m cs), .v e] ∧ O = [] ∧ SumOk m cs ∧ ((∃ t, TyD K e t ∧ PySem.W.kitOne K t (.ref (He.ga K "Period")) = some false ∧ P (.v (.bl false)) []) ∨ ∃ a b c d, e = perX K a b c d ∧ Fit a b c d ∧ ∀ r : Bool, (r = true ↔ Due m.toNat cs a b c d) → P (.v (.bl r)) [])
theorem sp_q_shper_len {K : PySem.W.Frag} {ts O P X} (h : sp_q_shper K ts O P X) : ts.length = 2 := by
  obtain ⟨m, cs, e, rfl, _⟩ := h
  rfl

local macro_rules | `(tactic| walk_at "ws") => `(tactic| first
  | with_reducible refine s_set ?_
  | with_reducible refine s_if ?_
  | refine s_fldaug (by assumption) (by assumption) ?_
  | with_reducible refine s_ret ?_
  | with_reducible refine s_retN ?_
  | with_reducible refine s_drop ?_
  | with_reducible refine s_next ?_
  | with_reducible refine s_par ?_
  | with_reducible refine s_par3 ?_
  | refine s_fldN (by assumption) (by assumption) ?_
  | with_reducible refine s_asg ?_
  | refine s_raise1 ?_
  | refine s_raise2 ?_)
local macro_rules | `(tactic| walk_at "we") => `(tactic| first
  | ((with_reducible refine w_v (d := ?k2) ?k1 ?_); (case k1 => exact rfl))
  | ((with_reducible refine w_o (j := ?k2) ?k1 ?_); (case k1 => exact rfl))
  | ((guard_target = G.WE _ _ (tFld _ _ _) _ _ _ _); (refine w_fldN (by assumption) (by assumption) ?_))
  | ((guard_target = G.WE _ _ (tC (.ref _)) _ _ _ _); (refine w_ctup (by assumption) ?_))
  | with_reducible refine w_ci ?_
  | with_reducible refine w_op ?_
  | with_reducible refine w_call ?_
  | with_reducible refine w_cty ?_
  | with_reducible refine w_cb ?_
  | with_reducible refine w_cn ?_
  | with_reducible refine w_cs ?_
  | with_reducible refine w_cr ?_
  | with_reducible refine w_un ?_
  | with_reducible refine w_andV ?_
  | with_reducible refine w_orV ?_
  | with_reducible refine w_notV ?_
  | with_reducible refine w_ife ?_
  | with_reducible refine w_chain ?_
  | with_reducible refine w_tup ?_
  | with_reducible refine w_revL ?_
  | with_reducible refine w_slL ?_
  | with_reducible refine w_slT ?_
  | (guard_target = G.WE _ _ (tCall (lift _ (sp_draw _)) _ _ _) _ _ _ _; refine w_fn10 0 ?_)
  | (guard_target = G.WE _ _ (tCall (lift _ (sp_pick _)) _ _ _) _ _ _ _; refine w_fn10 0 ?_)
  | (guard_target = G.WE _ _ (tCall (lift _ (sp_w_coefs _)) _ _ _) _ _ _ _; refine w_fn10 0 ?_)
  | (guard_target = G.WE _ _ (tCall (lift _ (sp_l_drawn _)) _ _ _) _ _ _ _; refine w_fn10 0 ?_)
  | (guard_target = G.WE _ _ (tCall (lift _ (sp_l_right _)) _ _ _) _ _ _ _; refine w_fn10 0 ?_)
  | (guard_target = G.WE _ _ (tCall (lift _ (sp_l_btri _)) _ _ _) _ _ _ _; refine w_fn10 0 ?_)
  | (guard_target = G.WE _ _ (tCall (lift _ (sp_l_bent _)) _ _ _) _ _ _ _; refine w_fn10 0 ?_)
  | (guard_target = G.WE _ _ (tMeth _ _ (lift _ (sp_w_next _)) _ _ _ _) _ _ _ _; refine w_methO 0 ?_)
  | (guard_target = G.WE _ _ (tMeth _ _ (lift _ (sp_w_refuse _)) _ _ _ _) _ _ _ _; refine w_methO 0 ?_)
  | (guard_target = G.WE _ _ (tMeth _ _ (lift _ (sp_w_word _)) _ _ _ _) _ _ _ _; refine w_methO 0 ?_)
  | (guard_target = G.WE _ _ (tMeth _ _ (lift _ (sp_w_number _)) _ _ _ _) _ _ _ _; refine w_methO 0 ?_)
  | (guard_target = G.WE _ _ (tMeth _ _ (lift _ (sp_w_end _)) _ _ _ _) _ _ _ _; refine w_methO 0 ?_)
  | (guard_target = G.WE _ _ (tMake _ (lift _ (sp_w_init _)) _ _ _) _ _ _ _; refine w_makeO ?_)
  | with_reducible refine w_fn0 ?_
  | with_reducible refine w_fnS0 ?_
  | with_reducible refine w_meth0 ?_
  | with_reducible refine w_make0 ?_
  | with_reducible refine w_bmL ?_
  | with_reducible refine w_bmL0 ?_
  | with_reducible refine w_lst ?_
  | with_reducible refine w_callKX ?_
  | with_reducible refine w_makeKX ?_
  | with_reducible refine w_makeX ?_
  | with_reducible refine w_smethX ?_
  | with_reducible refine w_smethK ?_
  | with_reducible refine w_smethK0 ?_
  | with_reducible refine w_fnV ?_
  | with_reducible refine w_fnX ?_
  | with_reducible refine w_fnSX ?_
  | with_reducible refine w_methX ?_
  | with_reducible refine w_callX ?_
  | with_reducible refine w_methK ?_
  | with_reducible refine w_callK2 ?_
  | with_reducible refine w_callI ?_
  | with_reducible refine w_prop ?_
  | with_reducible refine w_dic0 ?_
  | with_reducible refine w_jcons ?_
  | with_reducible refine w_jnil ?_
  | with_reducible refine w_join ?_
  | with_reducible refine w_split ?_
  | with_reducible refine w_smeth ?_
  | with_reducible refine w_fnKr ?_)
local macro_rules | `(tactic| walk_at "wt") => `(tactic| first
  | with_reducible refine w_test ?_
  | with_reducible refine w_B ?_
  | with_reducible refine w_and ?_
  | with_reducible refine w_or ?_
  | with_reducible refine w_not ?_)
local macro_rules | `(tactic| walk_at "wa") => `(tactic| first
  | with_reducible refine w_cons ?_
  | with_reducible refine w_nil ?_
  | with_reducible refine w_star ?_)
local macro_rules | `(tactic| walk_at "wr") => `(tactic| first
  | with_reducible refine w_add ?_
  | with_reducible refine w_sub ?_
  | with_reducible refine w_lt ?_
  | with_reducible refine w_le ?_
  | with_reducible refine w_gt ?_
  | with_reducible refine w_ge ?_
  | with_reducible refine w_eqI ?_
  | with_reducible refine w_neI ?_
  | with_reducible refine w_isN ?_
  | with_reducible refine w_notN ?_
  | ((with_reducible refine w_mod ?k1 ?_); (case k1 => first | decide | omega))
  | ((with_reducible refine w_mul ?k1 ?_); (case k1 => first | exact Or.inl ⟨by decide, by decide⟩ | exact Or.inr ⟨by decide, by decide⟩ | exact Or.inl ⟨by omega, by omega⟩ | exact Or.inr ⟨by omega, by omega⟩))
  | ((with_reducible refine w_pow ?k1 ?_); (case k1 => first | exact ⟨by decide, by decide, by decide⟩ | exact ⟨by omega, by omega, by omega⟩))
  | ((with_reducible refine w_fdivW ?k1 ?_); (case k1 => exact divW_ok (by first | decide | omega) (by first | decide | omega)))
  | ((with_reducible refine w_mulW ?k1 ?_); (case k1 => exact mulW_ok ⟨by omega, by omega⟩ ⟨by omega, by omega⟩))
  | ((guard_target = G.WR _ (rIxT _) _ _ _ _); (refine w_ixT (by first | exact atI_0 | exact atI_1 | exact atI_2 | exact atI_3 | exact atI_4 | exact atI_5 | exact atI_6 | assumption) ?_))
  | ((guard_target = G.WR _ (rIxL _) _ _ _ _); (refine w_ixL (by first | exact lstD_v | exact lstD_o rfl) (by first | exact atI_0 | exact atI_1 | exact atI_2 | exact atI_3 | exact atI_4 | exact atI_5 | exact atI_6 | assumption) ?_)))
local macro_rules | `(tactic| walk_at "wc") => `(tactic| first
  | with_reducible refine c_int ?_
  | with_reducible refine c_intB ?_
  | with_reducible refine c_abs ?_
  | ((guard_target = G.WC _ (G.rLen _) _ _ _); (refine c_lenL (by first | exact lstD_v | exact lstD_o rfl) ?_))
  | with_reducible refine c_lenT ?_
  | ((guard_target = G.WC _ (G.rListOf _) _ _ _); (refine c_listL (by first | exact lstD_v | exact lstD_o rfl) ?_))
  | with_reducible refine c_listT ?_
  | ((guard_target = G.WC _ (G.rTupOf _) _ _ _); (refine c_tupL (by first | exact lstD_v | exact lstD_o rfl) ?_))
  | with_reducible refine c_tupT ?_)
local macro_rules | `(tactic| walk_at "e") => `(tactic| first
  | (guard_target = G.WE _ _ _ _ _ _ _; walk_at "we")
  | (guard_target = G.WS _ _ _ _ _ _; walk_at "ws")
  | (guard_target = G.WA _ _ _ _ _ _ _; walk_at "wa")
  | (guard_target = G.WR _ _ _ _ _ _; walk_at "wr")
  | (guard_target = G.WT _ _ _ _ _ _ _; walk_at "wt")
  | (guard_target = G.WC _ _ _ _ _; walk_at "wc")
  | (guard_target = G.WU _ _ _ _ _; with_reducible refine w_neg ?_)
  | (guard_target = G.WG _ _ _ _ _ _ _; first | with_reducible refine g_name ?_ | with_reducible refine g_setL ?_ | refine g_pair rfl ?_ | refine g_trip rfl ?_ | refine g_quad rfl ?_)
  | (guard_target = G.WO _ _ _ _ _ _ _; first | with_reducible refine o_none ?_ | with_reducible refine o_some ?_)
  | with_reducible refine tt_ ?_
  | with_reducible refine ff_ ?_
  | with_reducible refine ntt_ ?_
  | with_reducible refine nff_ ?_
  | ((guard_target = ((!G.isNon _) = true → _) ∧ _); (first | refine bnF rfl ?_ | refine bnT rfl ?_))
  | ((guard_target = (G.isNon _ = true → _) ∧ _); (first | refine bF rfl ?_ | refine bT rfl ?_))
  | (guard_target = Exists _; first
    | refine ⟨_, rfl, rfl, rfl, ?_⟩
    | refine ⟨_, _, _, rfl, rfl, rfl, Nat.le_of_ble_eq_true rfl, ?_⟩
    | refine ⟨_, _, _, rfl, rfl, rfl, ?_⟩
    | refine ⟨_, _, rfl, rfl, Nat.le_of_ble_eq_true rfl, ?_⟩
    | refine ⟨_, rfl, Nat.le_of_ble_eq_true rfl, Nat.le_of_ble_eq_true rfl, ?_⟩
    | refine ⟨_, _, _, _, _, rfl, rfl, rfl, rfl, rfl, ?_⟩
    | refine ⟨_, _, _, rfl, rfl, rfl, Nat.le_of_ble_eq_true rfl, ?_⟩
    | refine ⟨_, _, rfl, rfl, rfl, ?_⟩
    | refine ⟨_, _, _, rfl, ?_⟩
    | refine ⟨_, _, (by first | exact insD_v | exact insD_o rfl), rfl, ?_⟩
    | refine ⟨_, _, rfl, ?_⟩
    | refine ⟨_, rfl, rfl, ?_⟩
    | refine ⟨_, rfl, Nat.le_of_ble_eq_true rfl, ?_⟩
    | refine ⟨_, (by first | exact lstD_v | exact lstD_o rfl), ?_⟩
    | refine ⟨_, rfl, ?_⟩))
local macro_rules | `(tactic| walk_at "o") => `(tactic| first | with_reducible refine w_lstO ?_ | walk_at "e")
local macro_rules | `(tactic| walk_at "g") => `(tactic| first | walk_at "e" | with_reducible refine s_seq ?_)
local macro_rules | `(tactic| walk_at "n") => `(tactic| (with_reducible refine s_seq ?_); (repeat walk_at "e"))
theorem sc_need_sum : FnScope ["a_sum"] ["a_sum"] (defScope (top 44)) := ⟨rfl, rfl, rfl, by decide +kernel, rfl, by decide +kernel, by decide +kernel⟩
theorem ok_need_sum {P : Program} {w : World} {K : PySem.W.Frag} {mg : Str → Option Value} {base : Heap} (T : Tx K mg)  : Fn P w K mg base 1 (He.fAd K ("need_sum", none)) ["a_sum"] (sp_p_need K) := by
  obtain ⟨fd, F⟩ := T.d_need_sum
  refine ⟨fd, F.ok sc_need_sum (lift_len ?_) (fun cdv A outer s H vs Q E hr h => ?_), F.bindsN fun _ _ _ _ _ _ us hl => (match us, hl with | [_], _ => rfl), F.kp, lk_of F⟩
  · intro ts O P X h
    exact sp_p_need_len h
  · have hu := hr.units
    refine ⟨_, (PSs.nox (pss_one (ps_if (pt_not (pt_val (pe_callB (call_isiK K) (by rfl) T.n_isinstance boot_isinstance (pa_cons (pv 0) (pa_cons (pe_glob (v := .ref (He.ga K "Sum")) (by rfl) T.g_Sum rfl) pa_nil)))))
    (pss_one ps_never)
    pss_nil))), enter h fun ts O P X h _ => ?_⟩
    try dsimp only [cxOf, Cx.nox, Cx.wish]
    
    obtain ⟨m, cs, rfl, rfl, p⟩ := h
    show WS _ _ _ _ [.v (sumD K m cs)] _
    repeat walk_at "e"
    refine c_isi (.ins _ _ T.it_Sum) (.own _) T.kit_Sum_Sum ?_
    repeat walk_at "e"
    exact ⟨rfl, p⟩
theorem sc_left_in : FnScope ["coefs", "row", "length", ".0", "i"] ["coefs", "row", "length"] (defScope (top 45)) := ⟨rfl, rfl, rfl, by decide +kernel, rfl, by decide +kernel, by decide +kernel⟩
theorem ok_left_in {P : Program} {w : World} {K : PySem.W.Frag} {mg : Str → Option Value} {base : Heap} (T : Tx K mg) (h_binomial : Fn P w K mg base 1 (He.fAd K ("binomial", none)) ["n", "j"] (sp_binomial K)) : Fn P w K mg base 2 (He.fAd K ("left_in", none)) ["coefs", "row", "length"] (sp_p_leftin K) := by
  obtain ⟨_, F_binomial, b_binomial, kp_binomial, lk_binomial⟩ := h_binomial
  obtain ⟨fd, F⟩ := T.d_left_in
  refine ⟨fd, F.ok sc_left_in (lift_len ?_) (fun cdv A outer s H vs Q E hr h => ?_), F.bindsN fun _ _ _ _ _ _ us hl => (match us, hl with | [_, _, _], _ => rfl), F.kp, lk_of F⟩
  · intro ts O P X h
    exact sp_p_leftin_len h
  · have hu := hr.units
    refine ⟨_, (PSs.nox (pss_one (ps_ret (pe_callB (cr_sumK K rfl) (by rfl) T.n_sum boot_sum (pa_cons (pe_lc (own := [(".0", 3), ("i", 4)]) rfl sc_left_in.nd (pi_range2 (by rfl) T.n_range (pa_cons pe_int (pa_cons (pe_op op_sub (pe_callB (cr_lenK K) (by rfl) T.n_len boot_len (pa_cons (pv 0) pa_nil)) (pv 1)) pa_nil))) (blkOk_by (own := [(".0", 3), ("i", 4)]) (N := ["coefs", "row", "length", ".0", "i"]) (sc := defScope (top 45)) (by decide +kernel)) (fun _ _ _ _ _ => (pg_name (i := 4) sc_left_in.nd rfl (.inl rfl))) (fun _ _ _ _ _ => pts_nil) (fun _ _ _ _ _ => (pe_op op_mulW (pe_ix (ix_tupK K) (pv 0) (pe_op op_add (pv 1) (pv 4)) (fun _ _ => rfl)) (pe_call F_binomial (hr.mono (by decide)) (by rfl) T.g_binomial kp_binomial b_binomial .nil passL (pa_cons (pv 2) (pa_cons (pv 4) pa_nil)))))) pa_nil))))), enter h fun ts O P X h _ => ?_⟩
    try dsimp only [cxOf, Cx.nox, Cx.wish]
    
    obtain ⟨cs, r, N, rfl, rfl, hl, hs, hr, hN, p⟩ := h
    show WS _ _ _ _ [.v (.tup (nums cs)), .v (.int (r : Nat)), .v (.int N), .no, .no] _
    repeat walk_at "e"
    refine w_lc1 ?_ (by decide)
    refine i_rng2 ?_
    repeat walk_at "e"
    rw [nums_len]
    refine ⟨by omega, ?_⟩
    rw [show (((cs.length : Nat) : Int) - (r : Nat) - 1).toNat = cs.length - (r + 1) by omega]
    refine lc_R2 (fun i => .int (cs.getD (r + i.toNat) 0 * bin N i.toNat)) (by omega) (fun i acc hi => ?_) ?_
    · rw [show (1 : Int) + (i : Int) = ((1 + i : Nat) : Int) by omega]
      refine g_name ?_
      repeat walk_at "e"
      rw [show ((r : Nat) : Int) + ((1 + i : Nat) : Int) = ((r + (1 + i) : Nat) : Int) by omega]
      refine w_ixT (atI_getD (by omega)) ?_
      repeat walk_at "e"
      refine ⟨N, 1 + i, rfl, rfl, by omega, hN, ⟨⟨_, rfl⟩, ?_⟩⟩
      refine w_mulW (mul_okP (getD_sml hs _) (bin_bd hN (1 + i) (by omega)) (by omega)) ?_
      exact ⟨rfl, rfl⟩
    have e : ((List.range (cs.length - (r + 1))).map fun i : Nat => D.int (cs.getD (r + ((1 : Int) + i).toNat) 0 * bin N ((1 : Int) + i).toNat)) = nums ((List.range (cs.length - (r + 1))).map fun i => cs.getD (r + (1 + i)) 0 * bin N (1 + i)) := by
      unfold nums
      rw [List.map_map]
      refine List.map_congr_left fun i _ => ?_
      rw [show ((1 : Int) + (i : Int)).toNat = 1 + i by omega] <;> rfl
    rw [e]
    repeat walk_at "e"
    refine c_sum lstD_v ?_
    rw [My.rowL_terms]
    exact ⟨rfl, p⟩
theorem sc_keeps : FnScope ["coefs", "modulus", "length", ".0", "row"] ["coefs", "modulus", "length"] (defScope (top 46)) := ⟨rfl, rfl, rfl, by decide +kernel, rfl, by decide +kernel, by decide +kernel⟩
theorem ok_keeps {P : Program} {w : World} {K : PySem.W.Frag} {mg : Str → Option Value} {base : Heap} (T : Tx K mg) (h_left_in : Fn P w K mg base 2 (He.fAd K ("left_in", none)) ["coefs", "row", "length"] (sp_p_leftin K)) : Fn P w K mg base 3 (He.fAd K ("keeps", none)) ["coefs", "modulus", "length"] (sp_p_keeps K) := by
  obtain ⟨_, F_left_in, b_left_in, kp_left_in, lk_left_in⟩ := h_left_in
  obtain ⟨fd, F⟩ := T.d_keeps
  refine ⟨fd, F.ok sc_keeps (lift_len ?_) (fun cdv A outer s H vs Q E hr h => ?_), F.bindsN fun _ _ _ _ _ _ us hl => (match us, hl with | [_, _, _], _ => rfl), F.kp, lk_of F⟩
  · intro ts O P X h
    exact sp_p_keeps_len h
  · have hu := hr.units
    refine ⟨_, (PSs.nox (pss_one (ps_ret (pe_callB (cr_allK K rfl) (by rfl) T.n_all boot_all (pa_cons (pe_lc (own := [(".0", 3), ("row", 4)]) rfl sc_keeps.nd (pi_range1 (by rfl) T.n_range (pa_cons (pe_op op_sub (pe_callB (cr_lenK K) (by rfl) T.n_len boot_len (pa_cons (pv 0) pa_nil)) pe_int) pa_nil)) (blkOk_by (own := [(".0", 3), ("row", 4)]) (N := ["coefs", "modulus", "length", ".0", "row"]) (sc := defScope (top 46)) (by decide +kernel)) (fun _ _ _ _ _ => (pg_name (i := 4) sc_keeps.nd rfl (.inl rfl))) (fun _ _ _ _ _ => pts_nil) (fun _ _ _ _ _ => (pe_cmpR op_eq (pe_op op_mod (pe_call F_left_in (hr.mono (by decide)) (by rfl) T.g_left_in kp_left_in b_left_in .nil passL (pa_cons (pv 0) (pa_cons (pv 4) (pa_cons (pv 2) pa_nil)))) (pv 1)) pe_int (nomark _)))) pa_nil))))), enter h fun ts O P X h _ => ?_⟩
    try dsimp only [cxOf, Cx.nox, Cx.wish]
    
    obtain ⟨cs, M, N, rfl, rfl, hM, hl, hs, hN, p⟩ := h
    show WS _ _ _ _ [.v (.tup (nums cs)), .v (.int (M : Nat)), .v (.int N), .no, .no] _
    repeat walk_at "e"
    refine w_lc1 ?_ (by decide)
    refine i_rng1 ?_
    repeat walk_at "e"
    rw [nums_len]
    refine ⟨by omega, ?_⟩
    rw [show (((cs.length : Nat) : Int) - 1).toNat = cs.length - 1 by omega]
    refine lc_R (fun r => .bl (decide (rowL cs r N % (M : Int) = 0))) (by omega) (fun r acc hr => ?_) ?_
    · refine g_name ?_
      repeat walk_at "e"
      refine ⟨cs, r, N, rfl, rfl, hl, hs, by omega, hN, ⟨⟨_, rfl⟩, ?_⟩⟩
      repeat walk_at "e"
      exact ⟨rfl, rfl⟩
    have e : ((List.range (cs.length - 1)).map fun r => D.bl (decide (rowL cs r N % (M : Int) = 0))) = ((List.range (cs.length - 1)).map fun r => decide (rowL cs r N % (M : Int) = 0)).map D.bl := by rw [List.map_map] <;> rfl
    rw [e]
    repeat walk_at "e"
    refine c_all lstD_v ?_
    exact ⟨rfl, p⟩
theorem sc_leaving_row : FnScope ["coefs", "modulus", "length", "row"] ["coefs", "modulus", "length"] (defScope (top 47)) := ⟨rfl, rfl, rfl, by decide +kernel, rfl, by decide +kernel, by decide +kernel⟩
theorem ok_leaving_row {P : Program} {w : World} {K : PySem.W.Frag} {mg : Str → Option Value} {base : Heap} (T : Tx K mg) (h_left_in : Fn P w K mg base 2 (He.fAd K ("left_in", none)) ["coefs", "row", "length"] (sp_p_leftin K)) : Fn P w K mg base 3 (He.fAd K ("leaving_row", none)) ["coefs", "modulus", "length"] (sp_p_leaving K) := by
  obtain ⟨_, F_left_in, b_left_in, kp_left_in, lk_left_in⟩ := h_left_in
  obtain ⟨fd, F⟩ := T.d_leaving_row
  refine ⟨fd, F.ok sc_leaving_row (lift_len ?_) (fun cdv A outer s H vs Q E hr h => ?_), F.bindsN fun _ _ _ _ _ _ us hl => (match us, hl with | [_, _, _], _ => rfl), F.kp, lk_of F⟩
  · intro ts O P X h
    exact sp_p_leaving_len h
  · have hu := hr.units
    refine ⟨_, (PSs.nox (pss_cons (ps_set (i := 3) sc_leaving_row.nd rfl (.inl rfl) pe_int)
    (pss_cons (ps_while PassesOwn.never (pt_cmpR op_eq (pe_op op_mod (pe_call F_left_in (hr.mono (by decide)) (by rfl) T.g_left_in kp_left_in b_left_in .nil passL (pa_cons (pv 0) (pa_cons (pv 3) (pa_cons (pv 2) pa_nil)))) (pv 1)) pe_int (nomark _))
    (pss_one (ps_aug (i := 3) sc_leaving_row.nd rfl (.inl rfl) pe_int ip_add)))
    (pss_one (ps_ret (pv 3)))))), enter h fun ts O P X h _ => ?_⟩
    try dsimp only [cxOf, Cx.nox, Cx.wish]
    
    obtain ⟨cs, M, N, rfl, rfl, hM, hl, hs, hN, hno, p⟩ := h
    obtain ⟨r, hr⟩ := first_row hno
    obtain ⟨r1, r2, r3⟩ := id hr
    show WS _ _ _ _ [.v (.tup (nums cs)), .v (.int (M : Nat)), .v (.int N), .no] _
    walk_at "n"
    refine s_seq ?_
    refine s_while (fun j ts' O' => ∃ i : Nat, j + i = r ∧ O' = [] ∧ ts' = [.v (.tup (nums cs)), .v (.int (M : Nat)), .v (.int N), .v (.int (i : Nat))]) r ⟨0, rfl, rfl, rfl⟩ ?_
    rintro j _ _ ⟨i, hij, rfl, rfl⟩
    repeat walk_at "e"
    refine ⟨cs, i, N, rfl, rfl, hl, hs, by omega, hN, ⟨⟨_, rfl⟩, ?_⟩⟩
    repeat walk_at "e"
    by_cases hi : i = r
    · subst hi
      rw [decide_eq_false (fun z => r2 (Int.dvd_of_emod_eq_zero z))]
      repeat walk_at "e"
      exact ⟨rfl, p i hr⟩
    · rw [decide_eq_true (Int.emod_eq_zero_of_dvd (r3 i (by omega)))]
      repeat walk_at "e"
      refine s_aug rfl ?_
      repeat walk_at "e"
      exact ⟨j - 1, by omega, i + 1, by omega, rfl, rfl⟩
theorem sc_small_power : FnScope ["coefs", "prime", "times", "found"] ["coefs", "prime", "times"] (defScope (top 48)) := ⟨rfl, rfl, rfl, by decide +kernel, rfl, by decide +kernel, by decide +kernel⟩
theorem ok_small_power {P : Program} {w : World} {K : PySem.W.Frag} {mg : Str → Option Value} {base : Heap} (T : Tx K mg) (h_keeps : Fn P w K mg base 3 (He.fAd K ("keeps", none)) ["coefs", "modulus", "length"] (sp_p_keeps K)) (h_power_of : Fn P w K mg base 1 (He.fAd K ("power_of", none)) ["number", "times"] (sp_power_of K)) : Fn P w K mg base 4 (He.fAd K ("small_power", none)) ["coefs", "prime", "times"] (sp_p_power K) := by
  obtain ⟨_, F_keeps, b_keeps, kp_keeps, lk_keeps⟩ := h_keeps
  obtain ⟨_, F_power_of, b_power_of, kp_power_of, lk_power_of⟩ := h_power_of
  obtain ⟨fd, F⟩ := T.d_small_power
  refine ⟨fd, F.ok sc_small_power (lift_len ?_) (fun cdv A outer s H vs Q E hr h => ?_), F.bindsN fun _ _ _ _ _ _ us hl => (match us, hl with | [_, _, _], _ => rfl), F.kp, lk_of F⟩
  · intro ts O P X h
    exact sp_p_power_len h
  · have hu := hr.units
    refine ⟨_, (PSs.nox (pss_cons (ps_set (i := 3) sc_small_power.nd rfl (.inl rfl) pe_int)
    (pss_cons (ps_while PassesOwn.never (pt_not (pt_val (pe_call F_keeps (hr.mono (by decide)) (by rfl) T.g_keeps kp_keeps b_keeps .nil passL (pa_cons (pv 0) (pa_cons (pe_call F_power_of (hr.mono (by decide)) (by rfl) T.g_power_of kp_power_of b_power_of .nil passL (pa_cons (pv 1) (pa_cons (pv 2) pa_nil))) (pa_cons (pe_call F_power_of (hr.mono (by decide)) (by rfl) T.g_power_of kp_power_of b_power_of .nil passL (pa_cons (pv 1) (pa_cons (pv 3) pa_nil))) pa_nil))))))
    (pss_one (ps_aug (i := 3) sc_small_power.nd rfl (.inl rfl) pe_int ip_add)))
    (pss_one (ps_ret (pv 3)))))), enter h fun ts O P X h _ => ?_⟩
    try dsimp only [cxOf, Cx.nox, Cx.wish]
    
    obtain ⟨cs, q, e, rfl, rfl, hq, hl, hs, p⟩ := h
    obtain ⟨t, ht⟩ := lpT_exists (e := e) hq.1 hl
    have q2 := My.pr_two hq.1
    have e1 := hq.e
    show WS _ _ _ _ [.v (.tup (nums cs)), .v (.int (q : Nat)), .v (.int (e : Nat)), .no] _
    walk_at "n"
    refine s_seq ?_
    refine s_while (fun j ts' O' => ∃ i : Nat, j + i = t ∧ O' = [] ∧ ts' = [.v (.tup (nums cs)), .v (.int (q : Nat)), .v (.int (e : Nat)), .v (.int (i : Nat))]) t ⟨0, rfl, rfl, rfl⟩ ?_
    rintro j _ _ ⟨i, hij, rfl, rfl⟩
    have hi3 : i ≤ e + 3 := by have := ht.2; omega
    repeat walk_at "e"
    refine ⟨q, e, rfl, rfl, by omega, by omega, ⟨⟨_, rfl⟩, ?_⟩⟩
    repeat walk_at "e"
    refine ⟨q, i, rfl, rfl, by omega, by omega, ⟨⟨_, rfl⟩, ?_⟩⟩
    repeat walk_at "e"
    refine ⟨cs, q ^ e, ((q ^ i : Nat) : Int), rfl, rfl, Nat.pow_pos (by omega), hl, hs, pw_far hq hi3, ⟨⟨_, rfl⟩, ?_⟩⟩
    by_cases hi : i = t
    · subst hi
      rw [perB_iff.mpr ((lpT_per hq.1 ht).mpr (Nat.le_refl _))]
      repeat walk_at "e"
      exact ⟨rfl, p i ht⟩
    · rw [perB_no (fun z => (by have := (lpT_per hq.1 ht).mp z; omega))]
      repeat walk_at "e"
      refine s_aug rfl ?_
      repeat walk_at "e"
      exact ⟨j - 1, by omega, i + 1, by omega, rfl, rfl⟩
theorem sc_small_shown : FnScope ["coefs", "prime", "times", "found"] ["coefs", "prime", "times"] (defScope (top 49)) := ⟨rfl, rfl, rfl, by decide +kernel, rfl, by decide +kernel, by decide +kernel⟩
theorem ok_small_shown {P : Program} {w : World} {K : PySem.W.Frag} {mg : Str → Option Value} {base : Heap} (T : Tx K mg) (h_small_power : Fn P w K mg base 4 (He.fAd K ("small_power", none)) ["coefs", "prime", "times"] (sp_p_power K)) (h_leaving_row : Fn P w K mg base 3 (He.fAd K ("leaving_row", none)) ["coefs", "modulus", "length"] (sp_p_leaving K)) (h_power_of : Fn P w K mg base 1 (He.fAd K ("power_of", none)) ["number", "times"] (sp_power_of K)) : Fn P w K mg base 5 (He.fAd K ("small_shown", none)) ["coefs", "prime", "times"] (sp_p_shown K) := by
  obtain ⟨_, F_small_power, b_small_power, kp_small_power, lk_small_power⟩ := h_small_power
  obtain ⟨_, F_leaving_row, b_leaving_row, kp_leaving_row, lk_leaving_row⟩ := h_leaving_row
  obtain ⟨_, F_power_of, b_power_of, kp_power_of, lk_power_of⟩ := h_power_of
  obtain ⟨fd, F⟩ := T.d_small_shown
  refine ⟨fd, F.ok sc_small_shown (lift_len ?_) (fun cdv A outer s H vs Q E hr h => ?_), F.bindsN fun _ _ _ _ _ _ us hl => (match us, hl with | [_, _, _], _ => rfl), F.kp, lk_of F⟩
  · intro ts O P X h
    exact sp_p_shown_len h
  · have hu := hr.units
    refine ⟨_, (PSs.nox (pss_cons (ps_set (i := 3) sc_small_shown.nd rfl (.inl rfl) (pe_call F_small_power (hr.mono (by decide)) (by rfl) T.g_small_power kp_small_power b_small_power .nil passL (pa_cons (pv 0) (pa_cons (pv 1) (pa_cons (pv 2) pa_nil)))))
    (pss_cons (ps_if (pt_cmpR op_eq (pv 3) pe_int (nomark _))
    (pss_one (ps_ret (pe_tup (pa_cons (pv 1) (pa_cons pe_int (pa_cons pe_non pa_nil))))))
    pss_nil)
    (pss_one (ps_ret (pe_tup (pa_cons (pv 1) (pa_cons (pv 3) (pa_cons (pe_call F_leaving_row (hr.mono (by decide)) (by rfl) T.g_leaving_row kp_leaving_row b_leaving_row .nil passL (pa_cons (pv 0) (pa_cons (pe_call F_power_of (hr.mono (by decide)) (by rfl) T.g_power_of kp_power_of b_power_of .nil passL (pa_cons (pv 1) (pa_cons (pv 2) pa_nil))) (pa_cons (pe_call F_power_of (hr.mono (by decide)) (by rfl) T.g_power_of kp_power_of b_power_of .nil passL (pa_cons (pv 1) (pa_cons (pe_op op_sub (pv 3) pe_int) pa_nil))) pa_nil)))) pa_nil))))))))), enter h fun ts O P X h _ => ?_⟩
    try dsimp only [cxOf, Cx.nox, Cx.wish]
    
    obtain ⟨cs, q, e, rfl, rfl, hq, hl, hs, p⟩ := h
    have q2 := My.pr_two hq.1
    have e1 := hq.e
    show WS _ _ _ _ [.v (.tup (nums cs)), .v (.int (q : Nat)), .v (.int (e : Nat)), .no] _
    walk_at "n"
    refine ⟨cs, q, e, rfl, rfl, hq, hl, hs, fun t ht => ⟨⟨_, rfl⟩, ?_⟩⟩
    repeat walk_at "e"
    refine s_seq ?_
    repeat walk_at "e"
    refine br (fun h0 => ?_) (fun h0 => ?_)
    · obtain rfl : t = 0 := by omega
      repeat walk_at "e"
      exact ⟨rfl, p 0 .non ht (.inl ⟨rfl, rfl⟩)⟩
    · obtain ⟨s, rfl⟩ : ∃ s, t = s + 1 := ⟨t - 1, by omega⟩
      repeat walk_at "e"
      refine ⟨q, e, rfl, rfl, by omega, by omega, ⟨⟨_, rfl⟩, ?_⟩⟩
      repeat walk_at "e"
      rw [show (((s + 1 : Nat)) : Int) - 1 = (s : Nat) by omega]
      refine ⟨q, s, rfl, rfl, by omega, by have := ht.2; omega, ⟨⟨_, rfl⟩, ?_⟩⟩
      repeat walk_at "e"
      refine ⟨cs, q ^ e, ((q ^ s : Nat) : Int), rfl, rfl, Nat.pow_pos (by omega), hl, hs, pw_far hq (by have := ht.2; omega), fun z => (by have := (lpT_per hq.1 ht).mp z; omega), fun r hr => ⟨⟨_, rfl⟩, ?_⟩⟩
      repeat walk_at "e"
      exact ⟨rfl, p (s + 1) (.int (r : Nat)) ht (.inr ⟨s, r, rfl, rfl, hr⟩)⟩
theorem sc_PeriodU_initU : FnScope ["self", "length", "great", "multipliers", "smalls"] ["self", "length", "great", "multipliers", "smalls"] (defScope (inClass (top 43) 0)) := ⟨rfl, rfl, rfl, by decide +kernel, rfl, by decide +kernel, by decide +kernel⟩
theorem ok_PeriodU_initU {P : Program} {w : World} {K : PySem.W.Frag} {mg : Str → Option Value} {base : Heap} (T : Tx K mg)  : Fn P w K mg base 1 (He.fAd K ("Period", some "__init__")) ["self", "length", "great", "multipliers", "smalls"] (sp_P_init K) := by
  obtain ⟨fd, F⟩ := T.d_PeriodU_initU
  have hc_Period := T.cl_Period
  have hn_Period_great := T.na_Period_great
  have hc_Period := T.cl_Period
  have hn_Period_length := T.na_Period_length
  have hc_Period := T.cl_Period
  have hn_Period_multipliers := T.na_Period_multipliers
  have hc_Period := T.cl_Period
  have hn_Period_smalls := T.na_Period_smalls
  refine ⟨fd, F.ok sc_PeriodU_initU (lift_len ?_) (fun cdv A outer s H vs Q E hr h => ?_), F.bindsN fun _ _ _ _ _ _ us hl => (match us, hl with | [_, _, _, _, _], _ => rfl), F.kp, lk_of F⟩
  · intro ts O P X h
    exact sp_P_init_len h
  · have hu := hr.units
    refine ⟨_, (PSs.nox (pss_cons (ps_fld (pv 0) (pv 1) rfl)
    (pss_cons (ps_fld (pv 0) (pv 2) rfl)
    (pss_cons (ps_fld (pv 0) (pv 3) rfl)
    (pss_one (ps_fld (pv 0) (pv 4) rfl)))))), enter h fun ts O P X h _ => ?_⟩
    try dsimp only [cxOf, Cx.nox, Cx.wish]
    
    obtain ⟨a, b, c, d, rfl, rfl, p⟩ := h
    show WS _ _ _ _ [.own 0, .v a, .v b, .v c, .v d] _
    repeat walk_at "g"
    exact ⟨rfl, p⟩
theorem sc_PeriodU_eqU : FnScope ["self", "other"] ["self", "other"] (defScope (inClass (top 43) 1)) := ⟨rfl, rfl, rfl, by decide +kernel, rfl, by decide +kernel, by decide +kernel⟩
theorem ok_PeriodU_eqU {P : Program} {w : World} {K : PySem.W.Frag} {mg : Str → Option Value} {base : Heap} (T : Tx K mg)  : Fn P w K mg base 1 (He.fAd K ("Period", some "__eq__")) ["self", "other"] (sp_P_eq K) := by
  obtain ⟨fd, F⟩ := T.d_PeriodU_eqU
  have hc_Period := T.cl_Period
  have hn_Period_great := T.na_Period_great
  have hc_Period := T.cl_Period
  have hn_Period_length := T.na_Period_length
  have hc_Period := T.cl_Period
  have hn_Period_multipliers := T.na_Period_multipliers
  have hc_Period := T.cl_Period
  have hn_Period_smalls := T.na_Period_smalls
  refine ⟨fd, F.ok sc_PeriodU_eqU (lift_len ?_) (fun cdv A outer s H vs Q E hr h => ?_), F.bindsN fun _ _ _ _ _ _ us hl => (match us, hl with | [_, _], _ => rfl), F.kp, lk_of F⟩
  · intro ts O P X h
    exact sp_P_eq_len h
  · have hu := hr.units
    refine ⟨_, (PSs.nox (pss_cons (ps_if (PW.pt (pw_or (pt_not (pt_val (pe_callB (call_isiK K) (by rfl) T.n_isinstance boot_isinstance (pa_cons (pv 1) (pa_cons (pe_glob (v := .ref (He.ga K "Period")) (by rfl) T.g_Period rfl) pa_nil))))) (pw_or (pt_cmpR (op_neQK K hu) (pe_fldK K (pv 0)) (pe_fldK K (pv 1)) (nomark _)) (pw_or1 (pt_cmpR (op_neQK K hu) (pe_fldK K (pv 0)) (pe_fldK K (pv 1)) (nomark _))))))
    (pss_one (ps_ret pe_bl))
    pss_nil)
    (pss_one (ps_ret (pe_and (pe_cmpR (op_eqQK K hu) (pe_fldK K (pv 0)) (pe_fldK K (pv 1)) (nomark _)) (pe_one (pe_cmpR (op_eqQK K hu) (pe_fldK K (pv 0)) (pe_fldK K (pv 1)) (nomark _)))))))), enter h fun ts O P X h _ => ?_⟩
    try dsimp only [cxOf, Cx.nox, Cx.wish]
    
    obtain ⟨a, b, c, d, e, rfl, rfl, h⟩ := h
    show WS _ _ _ _ [.v (perX K a b c d), .v e] _
    refine s_seq ?_
    repeat walk_at "e"
    rcases h with ⟨t, ht, hk, p⟩ | ⟨a', b', c', d', r, rfl, h, p⟩
    · refine c_isi ht (.own _) hk ?_
      repeat walk_at "e"
      exact ⟨rfl, p⟩
    obtain ⟨c1, h1, h⟩ := h
    refine c_isi (.ins _ _ T.it_Period) (.own _) T.kit_Period_Period ?_
    repeat walk_at "e"
    refine w_neQ h1 ?_
    rcases h with ⟨rfl, rfl⟩ | ⟨rfl, c2, h2, h⟩
    · repeat walk_at "e"
      exact ⟨rfl, p⟩
    repeat walk_at "e"
    refine w_neQ h2 ?_
    rcases h with ⟨rfl, rfl⟩ | ⟨rfl, c3, h3, h⟩
    · repeat walk_at "e"
      exact ⟨rfl, p⟩
    repeat walk_at "e"
    refine w_eqQ h3 ?_
    rcases h with ⟨rfl, rfl⟩ | ⟨rfl, h4⟩
    · repeat walk_at "e"
      exact ⟨rfl, p⟩
    repeat walk_at "e"
    refine w_eqQ h4 ?_
    exact ⟨rfl, p⟩
theorem sc_least_period : FnScope ["a_sum", "great", "divisor", "multipliers", "smalls", "length", "prime", "times", "small"] ["a_sum"] (defScope (top 50)) := ⟨rfl, rfl, rfl, by decide +kernel, rfl, by decide +kernel, by decide +kernel⟩
theorem ok_least_period {P : Program} {w : World} {K : PySem.W.Frag} {mg : Str → Option Value} {base : Heap} (T : Tx K mg) (h_need_sum : Fn P w K mg base 1 (He.fAd K ("need_sum", none)) ["a_sum"] (sp_p_need K)) (h_great_in : Fn P w K mg base 3 (He.fAd K ("great_in", none)) ["number", "most"] (sp_great_in K)) (h_Sum_degree : Fn P w K mg base 1 (pr_Sum_degree.g K) ["self"] (sp_s_deg K)) (h_shared_in : Fn P w K mg base 2 (He.fAd K ("shared_in", none)) ["modulus", "numbers"] (sp_shared_in K)) (h_small_in : Fn P w K mg base 2 (He.fAd K ("small_in", none)) ["number", "most"] (sp_small_in K)) (h_small_shown : Fn P w K mg base 5 (He.fAd K ("small_shown", none)) ["coefs", "prime", "times"] (sp_p_shown K)) (h_power_of : Fn P w K mg base 1 (He.fAd K ("power_of", none)) ["number", "times"] (sp_power_of K)) (h_PeriodU_initU : Fn P w K mg base 1 (He.fAd K ("Period", some "__init__")) ["self", "length", "great", "multipliers", "smalls"] (sp_P_init K)) : Fn P w K mg base 6 (He.fAd K ("least_period", none)) ["a_sum"] (sp_p_leastF K) := by
  obtain ⟨_, F_need_sum, b_need_sum, kp_need_sum, lk_need_sum⟩ := h_need_sum
  obtain ⟨_, F_great_in, b_great_in, kp_great_in, lk_great_in⟩ := h_great_in
  obtain ⟨_, F_Sum_degree, b_Sum_degree, kp_Sum_degree, lk_Sum_degree⟩ := h_Sum_degree
  obtain ⟨_, F_shared_in, b_shared_in, kp_shared_in, lk_shared_in⟩ := h_shared_in
  obtain ⟨_, F_small_in, b_small_in, kp_small_in, lk_small_in⟩ := h_small_in
  obtain ⟨_, F_small_shown, b_small_shown, kp_small_shown, lk_small_shown⟩ := h_small_shown
  obtain ⟨_, F_power_of, b_power_of, kp_power_of, lk_power_of⟩ := h_power_of
  obtain ⟨_, F_PeriodU_initU, b_PeriodU_initU, kp_PeriodU_initU, lk_PeriodU_initU⟩ := h_PeriodU_initU
  obtain ⟨fd, F⟩ := T.d_least_period
  have hc_Sum := T.cl_Sum
  have hn_Sum_coefs := T.na_Sum_coefs
  have hc_Sum := T.cl_Sum
  have hn_Sum_modulus := T.na_Sum_modulus
  refine ⟨fd, F.ok sc_least_period (lift_len ?_) (fun cdv A outer s H vs Q E hr h => ?_), F.bindsN fun _ _ _ _ _ _ us hl => (match us, hl with | [_], _ => rfl), F.kp, lk_of F⟩
  · intro ts O P X h
    exact sp_p_leastF_len h
  · have hu := hr.units
    refine ⟨_, (PSs.nox (pss_cons (ps_expr (pe_call F_need_sum (hr.mono (by decide)) (by rfl) T.g_need_sum kp_need_sum b_need_sum .nil passL (pa_cons (pv 0) pa_nil)))
    (pss_cons (ps_set (i := 1) sc_least_period.nd rfl (.inl rfl) (pe_call F_great_in (hr.mono (by decide)) (by rfl) T.g_great_in kp_great_in b_great_in .nil passL (pa_cons (pe_fldK K (pv 0)) (pa_cons (pe_prop (pv 0) T.cl_Sum T.pp_Sum_degree F_Sum_degree (hr.mono (by decide)) b_Sum_degree .nil passL (by rfl)) pa_nil))))
    (pss_cons (ps_asg (pe_call F_shared_in (hr.mono (by decide)) (by rfl) T.g_shared_in kp_shared_in b_shared_in .nil passL (pa_cons (pv 1) (pa_cons (pe_slice (sl_tupAK K) (pe_fldK K (pv 0)) (po_some pe_int) po_none) pa_nil))) (pg_tupK K (n := 2) rfl (pgs_cons (pg_name (i := 2) sc_least_period.nd rfl (.inl rfl)) (pgs_cons (pg_name (i := 3) sc_least_period.nd rfl (.inl rfl)) pgs_nil))))
    (pss_cons (ps_par (i := 4) (j := 5) rfl sc_least_period.nd rfl rfl (by decide) rfl rfl (pa_cons (pe_lst pa_nil) (pa_cons (pe_op op_fdivW (pv 1) (pv 2)) pa_nil)) rfl)
    (pss_cons (ps_for PassesOwn.never rfl (pi_listK K (pe_call F_small_in (hr.mono (by decide)) (by rfl) T.g_small_in kp_small_in b_small_in .nil passL (pa_cons (pe_fldK K (pv 0)) (pa_cons (pe_prop (pv 0) T.cl_Sum T.pp_Sum_degree F_Sum_degree (hr.mono (by decide)) b_Sum_degree .nil passL (by rfl)) pa_nil)))) (pg_tupK K (n := 2) rfl (pgs_cons (pg_name (i := 6) sc_least_period.nd rfl (.inl rfl)) (pgs_cons (pg_name (i := 7) sc_least_period.nd rfl (.inl rfl)) pgs_nil)))
    (pss_cons (ps_set (i := 8) sc_least_period.nd rfl (.inl rfl) (pe_call F_small_shown (hr.mono (by decide)) (by rfl) T.g_small_shown kp_small_shown b_small_shown .nil passL (pa_cons (pe_fldK K (pv 0)) (pa_cons (pv 6) (pa_cons (pv 7) pa_nil)))))
    (pss_cons (ps_expr (pe_bm PySem.F.plainAttrs_list PySem.F.slot_list_append PySem.F.type_list_append mt_append (pv 4) (pa_cons (pv 8) pa_nil)))
    (pss_one (ps_set (i := 5) sc_least_period.nd rfl (.inl rfl) (pe_op op_mulW (pv 5) (pe_call F_power_of (hr.mono (by decide)) (by rfl) T.g_power_of kp_power_of b_power_of .nil passL (pa_cons (pv 6) (pa_cons (pe_ix (ix_tupK K) (pv 8) pe_int (fun _ _ => rfl)) pa_nil)))))))))
    (pss_one (ps_ret (pe_make T.mk_Period F_PeriodU_initU (hr.mono (by decide)) (by rfl) T.g_Period b_PeriodU_initU .nil passL (pa_cons (pv 5) (pa_cons (pv 1) (pa_cons (pv 3) (pa_cons (pe_callTy (cr_tupK K) (by rfl) T.n_tuple boot_tuple (pa_cons (pv 4) pa_nil)) pa_nil))))))))))))), enter h fun ts O P X h _ => ?_⟩
    try dsimp only [cxOf, Cx.nox, Cx.wish]
    
    obtain ⟨m, cs, rfl, rfl, ok, p⟩ := h
    have ok1 := ok.two
    have ok2 := ok.most
    have okl := ok.len
    have sc : Sml 140 cs := fun x hx => Nat.lt_of_lt_of_le (ok.sml x hx) (Nat.pow_le_pow_right (by decide) (by decide))
    obtain ⟨M, rfl⟩ : ∃ M : Nat, m = M := ⟨m.toNat, by omega⟩
    rw [Int.toNat_natCast] at p
    obtain ⟨gr, hG⟩ : ∃ gr, gr = My.great M (cs.length - 1) := ⟨_, rfl⟩
    have G1 : 1 ≤ gr := by rw [hG]; exact My.great_pos _ (by omega)
    have GM : gr ≤ M := by
      rw [hG]
      exact Nat.le_of_dvd (by omega) ⟨_, My.great_mul (cs.length - 1) (by omega)⟩
    obtain ⟨g, hg⟩ : ∃ g, g = My.gcdL gr (cs.drop 1) := ⟨_, rfl⟩
    have g1 : 1 ≤ g := by rw [hg]; exact My.gcdL_pos G1 _
    have gG : g ≤ gr := by rw [hg]; exact My.gcdL_le G1 _
    show WS _ _ _ _ [.v (sumD K (M : Nat) cs), .no, .no, .no, .no, .no, .no, .no, .no] _
    walk_at "n"
    refine ⟨_, cs, rfl, rfl, ⟨⟨_, rfl⟩, ?_⟩⟩
    walk_at "n"
    refine ⟨_, cs, rfl, rfl, ⟨⟨_, rfl⟩, ?_⟩⟩
    repeat walk_at "e"
    refine ⟨M, cs.length - 1, rfl, rfl, by omega, by omega, ⟨⟨_, rfl⟩, ?_⟩⟩
    rw [← hG]
    walk_at "n"
    rw [cut_tail cs]
    refine ⟨gr, cs.drop 1, rfl, rfl, G1, by omega, by rw [List.length_drop]; omega, ⟨⟨_, rfl⟩, ?_⟩⟩
    have hms := mulF_ok G1 (cs.drop 1)
    obtain ⟨ms, hmf⟩ : ∃ ms, mulF gr (cs.drop 1) = ms := ⟨_, rfl⟩
    rw [← hg, hmf] at hms
    rw [← hg, hmf]
    repeat walk_at "e"
    refine s_seq ?_
    repeat walk_at "o"
    refine s_seq ?_
    refine s_forE ?_
    refine i_list ?_
    repeat walk_at "e"
    refine ⟨_, cs, rfl, rfl, ⟨⟨_, rfl⟩, ?_⟩⟩
    repeat walk_at "e"
    refine ⟨M, cs.length - 1, rfl, rfl, by omega, by omega, ⟨⟨_, rfl⟩, ?_⟩⟩
    refine ⟨_, rfl, ?_⟩
    have sl := My.small_len M (cs.length - 1)
    refine for_A (fun i ts' O' => ∃ (sm : List D) (Ls : List Nat) (a b c : G.T), SmsOk cs ((My.small M (cs.length - 1)).take i) sm Ls ∧ sm.length = i ∧ My.prodN (gr / g :: Ls) < 2 ^ (100 + 120 * i) ∧ O' = [.lst sm] ∧ ts' = [.v (sumD K (M : Nat) cs), .v (.int (gr : Nat)), .v (.int (g : Nat)), .v (.tup (nums ms)), .own 0, .v (.int (My.prodN (gr / g :: Ls) : Nat)), a, b, c]) ⟨[], [], G.T.no, G.T.no, G.T.no, ⟨rfl, rfl⟩, rfl, ?_, rfl, ?_⟩ ?_ ?_
    · rw [My.prodN_cons, My.prodN_nil, Nat.mul_one]
      have := Nat.div_le_self gr g
      omega
    · rw [My.prodN_cons, My.prodN_nil, Nat.mul_one, Int.natCast_ediv]
      rfl
    · rintro i x _ _ hi hx ⟨sm, Ls, a, b, c, hsm, hsl, hbd, rfl, rfl⟩
      obtain ⟨x1, x2, x3, x4⟩ := My.small_mem (List.mem_of_getElem? hx)
      have xd := My.small_dvd (n := M) (by omega) (List.mem_of_getElem? hx)
      have hpw : PwOk x.1 x.2 := ⟨x1, by have := Nat.le_of_dvd (by omega) xd.2; omega⟩
      have q2 := My.pr_two x1
      unfold smD
      refine g_pair rfl ?_
      walk_at "n"
      refine ⟨cs, x.1, x.2, rfl, rfl, hpw, okl, sc, fun t w ht hw => ⟨⟨_, rfl⟩, ?_⟩⟩
      have tb := hpw.far ht.2
      have te := hpw.e
      walk_at "n"
      refine m_append (by exact rfl) (lt_szD (by omega)) ?_
      repeat walk_at "e"
      refine ⟨x.1, t, rfl, rfl, by omega, by have := ht.2; omega, ⟨⟨_, rfl⟩, ?_⟩⟩
      refine w_mulW (mul_okP (a := 100 + 120 * i) (b := 120) (by rw [Int.natAbs_natCast]; exact hbd) (by rw [Int.natAbs_natCast]; exact tb) (by omega)) ?_
      have e1 : ((My.prodN (gr / g :: Ls) : Nat) : Int) * ((x.1 ^ t : Nat) : Int) = ((My.prodN (gr / g :: (Ls ++ [x.1 ^ t])) : Nat) : Int) := by
        rw [← Int.natCast_mul, My.prodN_cons, My.prodN_cons, My.prodN_app, My.prodN_cons, My.prodN_nil, Nat.mul_one, Nat.mul_assoc]
      rw [e1]
      refine ⟨sm ++ [.tup [.int (x.1 : Nat), .int (t : Nat), w]], Ls ++ [x.1 ^ t], _, _, _, ?_, by rw [List.length_append, hsl] <;> rfl, ?_, rfl, rfl⟩
      · rw [List.take_succ, hx]
        exact hsm.snoc ht hw
      · rw [show My.prodN (gr / g :: (Ls ++ [x.1 ^ t])) = My.prodN (gr / g :: Ls) * x.1 ^ t by rw [My.prodN_cons, My.prodN_cons, My.prodN_app, My.prodN_cons, My.prodN_nil, Nat.mul_one, Nat.mul_assoc], show 100 + 120 * (i + 1) = (100 + 120 * i) + 120 by omega, Nat.pow_add]
        exact Nat.mul_lt_mul'' hbd tb
    · rintro _ _ ⟨sm, Ls, a, b, c, hsm, hsl, hbd, rfl, rfl⟩
      rw [List.take_length] at hsm
      refine s_frz 0 rfl rfl ?_
      repeat walk_at "e"
      refine ⟨.int (My.prodN (gr / g :: Ls) : Nat), .int (gr : Nat), .tup (nums ms), .tup sm, rfl, rfl, ⟨rfl, _, rfl, ?_⟩⟩
      refine ⟨rfl, p _ gr ms sm ⟨?_, ?_, hG, by rw [← hg]; exact hms, ⟨Ls, hsm, by rw [← hg]⟩⟩ hmf.symm⟩
      · have := lp_end (M := M) (cs := cs) (by omega) okl hsm
        rwa [← hG, ← hg] at this
      · exact Nat.lt_of_lt_of_le hbd (Nat.pow_le_pow_right (by decide) (by omega))
theorem sc_most_power : FnScope ["prime", "most", "found"] ["prime", "most"] (defScope (top 52)) := ⟨rfl, rfl, rfl, by decide +kernel, rfl, by decide +kernel, by decide +kernel⟩
theorem ok_most_power {P : Program} {w : World} {K : PySem.W.Frag} {mg : Str → Option Value} {base : Heap} (T : Tx K mg) (h_power_of : Fn P w K mg base 1 (He.fAd K ("power_of", none)) ["number", "times"] (sp_power_of K)) : Fn P w K mg base 2 (He.fAd K ("most_power", none)) ["prime", "most"] (sp_q_most K) := by
  obtain ⟨_, F_power_of, b_power_of, kp_power_of, lk_power_of⟩ := h_power_of
  obtain ⟨fd, F⟩ := T.d_most_power
  refine ⟨fd, F.ok sc_most_power (lift_len ?_) (fun cdv A outer s H vs Q E hr h => ?_), F.bindsN fun _ _ _ _ _ _ us hl => (match us, hl with | [_, _], _ => rfl), F.kp, lk_of F⟩
  · intro ts O P X h
    exact sp_q_most_len h
  · have hu := hr.units
    refine ⟨_, (PSs.nox (pss_cons (ps_set (i := 2) sc_most_power.nd rfl (.inl rfl) pe_int)
    (pss_cons (ps_while PassesOwn.never (pt_cmpR op_le (pe_call F_power_of (hr.mono (by decide)) (by rfl) T.g_power_of kp_power_of b_power_of .nil passL (pa_cons (pv 0) (pa_cons (pe_op op_add (pv 2) pe_int) pa_nil))) (pv 1) (nomark _))
    (pss_one (ps_aug (i := 2) sc_most_power.nd rfl (.inl rfl) pe_int ip_add)))
    (pss_one (ps_ret (pv 2)))))), enter h fun ts O P X h _ => ?_⟩
    try dsimp only [cxOf, Cx.nox, Cx.wish]
    
    obtain ⟨q, d, rfl, rfl, h2, h11, hd, p⟩ := h
    obtain ⟨s, hs1, hs2⟩ := most_ex h2 d
    have hs12 : s ≤ 12 := by
      rcases hs2 with z | z
      · omega
      · refine Nat.le_of_not_lt fun w => ?_
        have : 2 ^ 13 ≤ q ^ s := Nat.le_trans (Nat.pow_le_pow_right (by decide) w) (Nat.pow_le_pow_left h2 s)
        have e : (2 : Nat) ^ 13 = 8192 := by decide
        omega
    show WS _ _ _ _ [.v (.int (q : Nat)), .v (.int (d : Nat)), .no] _
    walk_at "n"
    refine s_seq ?_
    refine s_while (fun j ts' O' => ∃ i : Nat, j + i = s ∧ O' = [] ∧ ts' = [.v (.int (q : Nat)), .v (.int (d : Nat)), .v (.int (i : Nat))]) s ⟨0, rfl, rfl, rfl⟩ ?_
    rintro j _ _ ⟨i, hij, rfl, rfl⟩
    repeat walk_at "e"
    rw [show ((i : Nat) : Int) + 1 = ((i + 1 : Nat) : Int) by omega]
    refine ⟨q, i + 1, rfl, rfl, by omega, by omega, ⟨⟨_, rfl⟩, ?_⟩⟩
    repeat walk_at "e"
    refine br (fun hc => ?_) (fun hc => ?_)
    · have hi : i ≠ s := fun z => by rw [z] at hc; omega
      repeat walk_at "e"
      refine s_aug rfl ?_
      repeat walk_at "e"
      exact ⟨j - 1, by omega, i + 1, by omega, rfl, rfl⟩
    · have hi : i = s := by
        refine Nat.le_antisymm (by omega) (Nat.le_of_not_lt fun z => ?_)
        have h1 : q ^ (i + 1) ≤ q ^ s := Nat.pow_le_pow_right (by omega) (by omega)
        rcases hs2 with w | w
        · omega
        · omega
      subst hi
      repeat walk_at "e"
      exact ⟨rfl, p i hs1 hs2⟩
theorem sc_divisor_shown : FnScope ["great", "coefs", "multipliers", "rest", "divisor", ".0", "many", "coef"] ["great", "coefs", "multipliers"] (defScope (top 53)) := ⟨rfl, rfl, rfl, by decide +kernel, rfl, by decide +kernel, by decide +kernel⟩
theorem ok_divisor_shown {P : Program} {w : World} {K : PySem.W.Frag} {mg : Str → Option Value} {base : Heap} (T : Tx K mg)  : Fn P w K mg base 1 (He.fAd K ("divisor_shown", none)) ["great", "coefs", "multipliers"] (sp_q_divsh K) := by
  obtain ⟨fd, F⟩ := T.d_divisor_shown
  refine ⟨fd, F.ok sc_divisor_shown (lift_len ?_) (fun cdv A outer s H vs Q E hr h => ?_), F.bindsN fun _ _ _ _ _ _ us hl => (match us, hl with | [_, _, _], _ => rfl), F.kp, lk_of F⟩
  · intro ts O P X h
    exact sp_q_divsh_len h
  · have hu := hr.units
    refine ⟨_, (PSs.nox (pss_cons (ps_set (i := 3) sc_divisor_shown.nd rfl (.inl rfl) (pe_op op_mod (pe_callB (cr_sumK K rfl) (by rfl) T.n_sum boot_sum (pa_cons (pe_lc (own := [(".0", 5), ("many", 6), ("coef", 7)]) rfl sc_divisor_shown.nd (RZ.pi_zipA (by rfl) T.n_zip (pa_cons (pv 2) (pa_cons (pv 1) pa_nil))) (blkOk_by (own := [(".0", 5), ("many", 6), ("coef", 7)]) (N := ["great", "coefs", "multipliers", "rest", "divisor", ".0", "many", "coef"]) (sc := defScope (top 53)) (by decide +kernel)) (fun _ _ _ _ _ => (pg_tupK K (n := 2) rfl (pgs_cons (pg_name (i := 6) sc_divisor_shown.nd rfl (.inl rfl)) (pgs_cons (pg_name (i := 7) sc_divisor_shown.nd rfl (.inl rfl)) pgs_nil)))) (fun _ _ _ _ _ => pts_nil) (fun _ _ _ _ _ => (pe_op op_mulW (pv 6) (pv 7)))) pa_nil)) (pv 0)))
    (pss_cons (ps_set (i := 4) sc_divisor_shown.nd rfl (.inr rfl) (pe_ifExp (pt_cmpR op_gt (pv 3) pe_int (nomark _)) (pv 3) (pv 0)))
    (pss_cons (ps_if (PW.pt (pw_or (pt_cmpR op_gt (pe_op op_mod (pv 0) (pv 4)) pe_int (nomark _)) (pw_or1 (pt_val (pe_callB (cr_anyK K rfl) (by rfl) T.n_any boot_any (pa_cons (pe_lc (own := [(".0", 5), ("coef", 7)]) rfl sc_divisor_shown.nd (pi_tupK K (pv 1)) (blkOk_by (own := [(".0", 5), ("coef", 7)]) (N := ["great", "coefs", "multipliers", "rest", "divisor", ".0", "many", "coef"]) (sc := defScope (top 53)) (by decide +kernel)) (fun _ _ _ _ _ => (pg_name (i := 7) sc_divisor_shown.nd rfl (.inl rfl))) (fun _ _ _ _ _ => pts_nil) (fun _ _ _ _ _ => (pe_cmpR op_gt (pe_op op_mod (pv 7) (pv 4)) pe_int (nomark _)))) pa_nil))))))
    (pss_one (ps_ret pe_non))
    pss_nil)
    (pss_one (ps_ret (pv 4))))))), enter h fun ts O P X h _ => ?_⟩
    try dsimp only [cxOf, Cx.nox, Cx.wish]
    
    obtain ⟨g0, ns, ms, rfl, rfl, G1, GM, hl, hs, hml, hmr, py, pn⟩ := h
    have r0 := Int.emod_nonneg (My.sumM ms ns) (show (g0 : Int) ≠ 0 by omega)
    have r1 := Int.emod_lt_of_pos (My.sumM ms ns) (show (0 : Int) < g0 by omega)
    show WS _ _ _ _ [.v (.int (g0 : Nat)), .v (.tup (nums ns)), .v (.tup (nums ms)), .no, .no, .no, .no, .no] _
    refine s_seq ?_
    repeat walk_at "e"
    refine w_lcT ?_ (tgt_pair (by decide) (by decide))
    refine i_zipT ?_
    repeat walk_at "e"
    refine lc_Z ms ns D.int D.int (fun x y => .int (x * y)) hml (by omega) (fun x y acc hx hy => ?_) ?_
    · obtain ⟨x1, x2⟩ := hmr x hx
      have y1 := hs y hy
      refine g_pair rfl ?_
      repeat walk_at "e"
      exact ⟨rfl, rfl⟩
    have e : List.zipWith (fun x y => D.int (x * y)) ms ns = (List.zipWith (· * ·) ms ns).map D.int := by rw [List.map_zipWith]
    rw [e]
    repeat walk_at "e"
    refine c_sum lstD_v ?_
    repeat walk_at "e"
    rw [show (List.zipWith (· * ·) ms ns).sum = My.sumM ms ns from rfl]
    obtain ⟨dv, hdv⟩ : ∃ dv, dvOf g0 (My.sumM ms ns % (g0 : Int)) = dv := ⟨_, rfl⟩
    have dv1 : 1 ≤ dv := by rw [← hdv]; unfold dvOf; split <;> omega
    try dsimp only
    refine s_cut (fun ts' O' => O' = [] ∧ ∃ r : G.T, ts' = [.v (.int (g0 : Nat)), .v (.tup (nums ns)), .v (.tup (nums ms)), r, .v (.int dv), .no, .no, .no]) ?_ ?_
    · refine s_set ?_
      repeat walk_at "e"
      refine br (fun hc => ?_) (fun hc => ?_)
      · repeat walk_at "e"
        exact ⟨rfl, _, by rw [← hdv]; unfold dvOf; rw [if_pos (by omega)] <;> rfl⟩
      · repeat walk_at "e"
        exact ⟨rfl, _, by rw [← hdv]; unfold dvOf; rw [if_neg (by omega)] <;> rfl⟩
    rintro _ _ ⟨rfl, r, rfl⟩
    have key := My.dv_shown (ns := ns) (ms := ms) G1
    rw [hdv] at key
    refine s_seq ?_
    repeat walk_at "e"
    have z0 := Int.emod_nonneg (g0 : Int) (show dv ≠ 0 by omega)
    refine br (fun hc => ?_) (fun hc => ?_)
    · repeat walk_at "e"
      exact ⟨rfl, pn fun z => by have := Int.emod_eq_zero_of_dvd (key.mpr z).1; omega⟩
    repeat walk_at "e"
    refine w_lc1 ?_ (by decide)
    refine i_tup ?_
    repeat walk_at "e"
    refine lc_A ns D.int (fun x => .bl (decide (0 < x % dv))) (by omega) (fun x acc hx => ?_) ?_
    · refine g_name ?_
      repeat walk_at "e"
      exact ⟨rfl, rfl⟩
    rw [show (ns.map fun x => D.bl (decide (0 < x % dv))) = (ns.map fun x => decide (0 < x % dv)).map D.bl by rw [List.map_map] <;> rfl]
    repeat walk_at "e"
    refine c_any lstD_v ?_
    by_cases hall : ∀ n ∈ ns, dv ∣ n
    · rw [show (ns.map fun x => decide (0 < x % dv)).any id = false from List.any_eq_false.mpr fun b hb => (by
        obtain ⟨x, hx, rfl⟩ := List.mem_map.mp hb
        have := Int.emod_eq_zero_of_dvd (hall x hx)
        rw [this]
        decide)]
      repeat walk_at "e"
      have hg := key.mp ⟨Int.dvd_of_emod_eq_zero (by omega), hall⟩
      have e3 := My.dv_is G1 hg
      rw [hdv] at e3
      rw [e3]
      exact ⟨rfl, py hg⟩
    · have hx : ∃ n, n ∈ ns ∧ ¬ dv ∣ n := Classical.byContradiction fun z => hall fun n hn => Classical.byContradiction fun w => z ⟨n, hn, w⟩
      obtain ⟨n, hn, hnd⟩ := hx
      rw [show (ns.map fun x => decide (0 < x % dv)).any id = true from List.any_eq_true.mpr ⟨_, List.mem_map.mpr ⟨n, hn, rfl⟩, decide_eq_true (by
        have h1 := Int.emod_nonneg n (show dv ≠ 0 by omega)
        have h2 : n % dv ≠ 0 := fun z => hnd (Int.dvd_of_emod_eq_zero z)
        omega)⟩]
      repeat walk_at "e"
      exact ⟨rfl, pn fun z => hnd ((key.mpr z).2 n hn)⟩
theorem sc_shows_small : FnScope ["a_sum", "value", "prime", "times", "power", "found", "row", "less"] ["a_sum", "value", "prime", "times"] (defScope (top 54)) := ⟨rfl, rfl, rfl, by decide +kernel, rfl, by decide +kernel, by decide +kernel⟩
theorem ok_shows_small {P : Program} {w : World} {K : PySem.W.Frag} {mg : Str → Option Value} {base : Heap} (T : Tx K mg) (h_is_between : Fn P w K mg base 2 (He.fAd K ("is_between", none)) ["value", "low", "high"] (sp_is_between K)) (h_power_of : Fn P w K mg base 1 (He.fAd K ("power_of", none)) ["number", "times"] (sp_power_of K)) (h_most_power : Fn P w K mg base 2 (He.fAd K ("most_power", none)) ["prime", "most"] (sp_q_most K)) (h_Sum_degree : Fn P w K mg base 1 (pr_Sum_degree.g K) ["self"] (sp_s_deg K)) (h_keeps : Fn P w K mg base 3 (He.fAd K ("keeps", none)) ["coefs", "modulus", "length"] (sp_p_keeps K)) (h_left_in : Fn P w K mg base 2 (He.fAd K ("left_in", none)) ["coefs", "row", "length"] (sp_p_leftin K)) : Fn P w K mg base 4 (He.fAd K ("shows_small", none)) ["a_sum", "value", "prime", "times"] (sp_q_shsm K) := by
  obtain ⟨_, F_is_between, b_is_between, kp_is_between, lk_is_between⟩ := h_is_between
  obtain ⟨_, F_power_of, b_power_of, kp_power_of, lk_power_of⟩ := h_power_of
  obtain ⟨_, F_most_power, b_most_power, kp_most_power, lk_most_power⟩ := h_most_power
  obtain ⟨_, F_Sum_degree, b_Sum_degree, kp_Sum_degree, lk_Sum_degree⟩ := h_Sum_degree
  obtain ⟨_, F_keeps, b_keeps, kp_keeps, lk_keeps⟩ := h_keeps
  obtain ⟨_, F_left_in, b_left_in, kp_left_in, lk_left_in⟩ := h_left_in
  obtain ⟨fd, F⟩ := T.d_shows_small
  have hc_Sum := T.cl_Sum
  have hn_Sum_coefs := T.na_Sum_coefs
  refine ⟨fd, F.ok sc_shows_small (lift_len ?_) (fun cdv A outer s H vs Q E hr h => ?_), F.bindsN fun _ _ _ _ _ _ us hl => (match us, hl with | [_, _, _, _], _ => rfl), F.kp, lk_of F⟩
  · intro ts O P X h
    exact sp_q_shsm_len h
  · have hu := hr.units
    refine ⟨_, (PSs.nox (pss_cons (ps_if (PW.pt (pw_or (pt_not (pt_val (pe_callB (call_isiK K) (by rfl) T.n_isinstance boot_isinstance (pa_cons (pv 1) (pa_cons (pe_bltn (v := .ty "tuple") (by rfl) T.n_tuple boot_tuple rfl) pa_nil))))) (pw_or (pt_cmpR op_ne (pe_callB (cr_lenK K) (by rfl) T.n_len boot_len (pa_cons (pv 1) pa_nil)) pe_int (nomark _)) (pw_or1 (pt_not (pt_val (pe_call F_is_between (hr.mono (by decide)) (by rfl) T.g_is_between kp_is_between b_is_between .nil passL (pa_cons (pe_ix (ix_tupK K) (pv 1) pe_int (fun _ _ => rfl)) (pa_cons (pv 2) (pa_cons (pv 2) pa_nil))))))))))
    (pss_one (ps_ret pe_bl))
    pss_nil)
    (pss_cons (ps_par3 (i := 4) (j := 5) (l := 6) rfl sc_shows_small.nd rfl rfl rfl (by decide) (by decide) (by decide) rfl rfl rfl (pa_cons (pe_call F_power_of (hr.mono (by decide)) (by rfl) T.g_power_of kp_power_of b_power_of .nil passL (pa_cons (pv 2) (pa_cons (pv 3) pa_nil))) (pa_cons (pe_ix (ix_tupK K) (pv 1) pe_int (fun _ _ => rfl)) (pa_cons (pe_ix (ix_tupK K) (pv 1) pe_int (fun _ _ => rfl)) pa_nil))) rfl)
    (pss_cons (ps_if (pt_not (pt_val (pe_call F_is_between (hr.mono (by decide)) (by rfl) T.g_is_between kp_is_between b_is_between .nil passL (pa_cons (pv 5) (pa_cons pe_int (pa_cons (pe_op op_add (pv 3) (pe_call F_most_power (hr.mono (by decide)) (by rfl) T.g_most_power kp_most_power b_most_power .nil passL (pa_cons (pv 2) (pa_cons (pe_prop (pv 0) T.cl_Sum T.pp_Sum_degree F_Sum_degree (hr.mono (by decide)) b_Sum_degree .nil passL (by rfl)) pa_nil)))) pa_nil))))))
    (pss_one (ps_ret pe_bl))
    pss_nil)
    (pss_cons (ps_if (pt_not (pt_val (pe_call F_keeps (hr.mono (by decide)) (by rfl) T.g_keeps kp_keeps b_keeps .nil passL (pa_cons (pe_fldK K (pv 0)) (pa_cons (pv 4) (pa_cons (pe_call F_power_of (hr.mono (by decide)) (by rfl) T.g_power_of kp_power_of b_power_of .nil passL (pa_cons (pv 2) (pa_cons (pv 5) pa_nil))) pa_nil))))))
    (pss_one (ps_ret pe_bl))
    pss_nil)
    (pss_cons (ps_if (pt_cmpR op_eq (pv 5) pe_int (nomark _))
    (pss_one (ps_ret (pe_cmpR op_isN1 (pv 6) pe_non (nomark _))))
    pss_nil)
    (pss_cons (ps_set (i := 7) sc_shows_small.nd rfl (.inl rfl) (pe_call F_power_of (hr.mono (by decide)) (by rfl) T.g_power_of kp_power_of b_power_of .nil passL (pa_cons (pv 2) (pa_cons (pe_op op_sub (pv 5) pe_int) pa_nil))))
    (pss_one (ps_ret (pe_and (pe_call F_is_between (hr.mono (by decide)) (by rfl) T.g_is_between kp_is_between b_is_between .nil passL (pa_cons (pv 6) (pa_cons pe_int (pa_cons (pe_op op_sub (pe_prop (pv 0) T.cl_Sum T.pp_Sum_degree F_Sum_degree (hr.mono (by decide)) b_Sum_degree .nil passL (by rfl)) pe_int) pa_nil)))) (pe_one (pe_cmpR op_gt (pe_op op_mod (pe_call F_left_in (hr.mono (by decide)) (by rfl) T.g_left_in kp_left_in b_left_in .nil passL (pa_cons (pe_fldK K (pv 0)) (pa_cons (pv 6) (pa_cons (pv 7) pa_nil)))) (pv 4)) pe_int (nomark _))))))))))))), enter h fun ts O P X h _ => ?_⟩
    try dsimp only [cxOf, Cx.nox, Cx.wish]
    
    obtain ⟨m, cs, e, q, k, rfl, rfl, ok, hq, he, p⟩ := h
    have ok1 := ok.two
    have okl := ok.len
    have sc : Sml 140 cs := fun x hx => Nat.lt_of_lt_of_le (ok.sml x hx) (Nat.pow_le_pow_right (by decide) (by decide))
    have q2 := My.pr_two hq.1
    have e1 := hq.e
    show WS _ _ _ _ [.v (sumD K m cs), .v e, .v (.int (q : Nat)), .v (.int (k : Nat)), .no, .no, .no, .no] _
    refine s_seq ?_
    repeat walk_at "e"
    rcases he with ⟨ds, rfl, hds, hsv⟩ | he
    case inr =>
      obtain ⟨t, ht, hk⟩ := he.kit (K := K)
      refine c_isi ht (.ty _) hk ?_
      repeat walk_at "e"
      exact ⟨rfl, p false (iff_no fun ⟨_, _, z, _⟩ => he.ne _ z)⟩
    refine c_isi (.tup _) (.ty _) (kit_ty (r := true) (by decide +kernel)) ?_
    repeat walk_at "e"
    refine nbr (fun hl => ?_) (fun hl => ?_)
    · repeat walk_at "e"
      refine ⟨rfl, p false (iff_no fun ⟨_, _, z, _⟩ => hl ?_)⟩
      cases z
      rfl
    obtain ⟨d0, d1, d2, rfl⟩ := len3 hl
    have v0 := hsv d0 List.mem_cons_self
    have v1 := hsv d1 (List.mem_cons_of_mem _ List.mem_cons_self)
    have v2 := hsv d2 (List.mem_cons_of_mem _ (List.mem_cons_of_mem _ List.mem_cons_self))
    repeat walk_at "e"
    refine u_is_between (v0.btw _ _) ⟨⟨_, rfl⟩, ?_⟩
    cases hb0 : btB (q : Nat) (q : Nat) d0 with
    | false =>
      repeat walk_at "e"
      refine ⟨rfl, p false (iff_no fun ⟨t, w, z, _⟩ => ?_)⟩
      cases z
      have := btB_iff.mpr ⟨_, rfl, Int.le_refl ((q : Nat) : Int), Int.le_refl _⟩
      rw [hb0] at this
      cases this
    | true =>
    obtain ⟨n0, rfl, n1, n2⟩ := btB_iff.mp hb0
    obtain rfl : n0 = (q : Nat) := by omega
    repeat walk_at "e"
    try dsimp only
    refine s_seq ?_
    repeat walk_at "e"
    refine ⟨q, k, rfl, rfl, by omega, by omega, ⟨⟨_, rfl⟩, ?_⟩⟩
    repeat walk_at "e"
    try dsimp only
    refine s_seq ?_
    repeat walk_at "e"
    refine ⟨_, cs, rfl, rfl, ⟨⟨_, rfl⟩, ?_⟩⟩
    repeat walk_at "e"
    refine ⟨q, cs.length - 1, rfl, rfl, by omega, by omega, by omega, fun s hs1 hs2 => ⟨⟨_, rfl⟩, ?_⟩⟩
    have s3 : s ≤ 3 := by
      rcases hs2 with z | z
      · omega
      · refine Nat.le_of_not_lt fun w => ?_
        have : 2 ^ 4 ≤ q ^ s := Nat.le_trans (Nat.pow_le_pow_right (by decide) w) (Nat.pow_le_pow_left q2.1 s)
        omega
    repeat walk_at "e"
    refine u_is_between (v1.btw _ _) ⟨⟨_, rfl⟩, ?_⟩
    cases hb1 : btB 0 ((k : Nat) + (s : Nat)) d1 with
    | false =>
      repeat walk_at "e"
      refine ⟨rfl, p false (iff_no fun ⟨t, w, z, ht, _⟩ => ?_)⟩
      cases z
      have hts := My.lp_most hq.1 (s := s) (by omega) ht.1
      have := btB_iff.mpr ⟨((t : Nat) : Int), rfl, (by omega : (0 : Int) ≤ (t : Nat)), (by omega : ((t : Nat) : Int) ≤ (k : Nat) + (s : Nat))⟩
      rw [hb1] at this
      cases this
    | true =>
    obtain ⟨n1, rfl, n3, n4⟩ := btB_iff.mp hb1
    obtain ⟨f, rfl⟩ : ∃ f : Nat, n1 = f := ⟨n1.toNat, by omega⟩
    repeat walk_at "e"
    try dsimp only
    refine s_seq ?_
    repeat walk_at "e"
    refine ⟨q, f, rfl, rfl, by omega, by omega, ⟨⟨_, rfl⟩, ?_⟩⟩
    repeat walk_at "e"
    refine ⟨cs, q ^ k, ((q ^ f : Nat) : Int), rfl, rfl, Nat.pow_pos (by omega), okl, sc, pw_far hq (by omega), ⟨⟨_, rfl⟩, ?_⟩⟩
    by_cases hper : My.Per (q ^ k) cs ((q ^ f : Nat) : Int)
    case neg =>
      rw [perB_no hper]
      repeat walk_at "e"
      refine ⟨rfl, p false (iff_no fun ⟨t, w, z, ht, _⟩ => ?_)⟩
      injection z with z
      injection z with _ z
      injection z with z _
      injection z with z
      have : f = t := by omega
      subst this
      exact hper ((lpT_per hq.1 ht).mpr (Nat.le_refl _))
    rw [perB_iff.mpr hper]
    repeat walk_at "e"
    try dsimp only
    refine s_seq ?_
    repeat walk_at "e"
    refine br (fun hf => ?_) (fun hf => ?_)
    · obtain rfl : f = 0 := by omega
      have ht := lpT_0 hq.1 okl hper
      repeat walk_at "e"
      refine ⟨rfl, p _ ?_⟩
      cases d2 with
      | non => exact iff_yes ⟨0, _, rfl, ht, .inl ⟨rfl, rfl⟩⟩
      | _ =>
        refine iff_no fun ⟨t, w, z, _, hw⟩ => ?_
        injection z with z
        injection z with _ z
        injection z with zt z
        injection z with zw _
        injection zt with zt
        rcases hw with ⟨_, hw⟩ | ⟨s', r', hw, ew, _⟩
        · rw [hw] at zw
          cases zw
        · omega
    · obtain ⟨u, rfl⟩ : ∃ u, f = u + 1 := ⟨f - 1, by omega⟩
      repeat walk_at "e"
      try dsimp only
      refine s_seq ?_
      repeat walk_at "e"
      rw [show (((u + 1 : Nat)) : Int) - 1 = (u : Nat) by omega]
      refine ⟨q, u, rfl, rfl, by omega, by omega, ⟨⟨_, rfl⟩, ?_⟩⟩
      repeat walk_at "e"
      try dsimp only
      repeat walk_at "e"
      refine ⟨_, cs, rfl, rfl, ⟨⟨_, rfl⟩, ?_⟩⟩
      repeat walk_at "e"
      refine u_is_between (v2.btw _ _) ⟨⟨_, rfl⟩, ?_⟩
      cases hb2 : btB 0 (((cs.length - 1 : Nat) : Int) - 1) d2 with
      | false =>
        repeat walk_at "e"
        refine ⟨rfl, p false (iff_no fun ⟨t, w, z, ht, hw⟩ => ?_)⟩
        injection z with z
        injection z with _ z
        injection z with zt z
        injection z with zw _
        injection zt with zt
        rcases hw with ⟨hw, _⟩ | ⟨s', r', hw, ew, hr, _⟩
        · omega
        · rw [zw, ew] at hb2
          have := btB_iff.mpr ⟨((r' : Nat) : Int), rfl, (by omega : (0 : Int) ≤ (r' : Nat)), (by omega : ((r' : Nat) : Int) ≤ ((cs.length - 1 : Nat) : Int) - 1)⟩
          rw [hb2] at this
          cases this
      | true =>
      obtain ⟨n5, rfl, n6, n7⟩ := btB_iff.mp hb2
      obtain ⟨r, rfl⟩ : ∃ r : Nat, n5 = r := ⟨n5.toNat, by omega⟩
      repeat walk_at "e"
      refine ⟨cs, r, ((q ^ u : Nat) : Int), rfl, rfl, okl, sc, by omega, pw_far hq (by omega), ⟨⟨_, rfl⟩, ?_⟩⟩
      have hpe : 0 < q ^ k := Nat.pow_pos (by omega)
      repeat walk_at "e"
      refine ⟨rfl, p _ ?_⟩
      have h1 := Int.emod_nonneg (rowL cs r ((q ^ u : Nat) : Int)) (show ((q ^ k : Nat) : Int) ≠ 0 by omega)
      rw [decide_eq_true_iff]
      constructor
      · intro hpos
        have hnd : ¬ ((q ^ k : Nat) : Int) ∣ rowL cs r ((q ^ u : Nat) : Int) := fun z => by
          have := Int.emod_eq_zero_of_dvd z
          omega
        exact ⟨u + 1, _, rfl, lpT_of hq.1 okl hper (row_no (by omega) hnd), .inr ⟨u, r, rfl, rfl, by omega, hnd⟩⟩
      · rintro ⟨t, w, z, ht, hw⟩
        injection z with z
        injection z with _ z
        injection z with zt z
        injection z with zw _
        injection zt with zt
        rcases hw with ⟨hw, _⟩ | ⟨s', r', hw, ew, hr, hnd⟩
        · omega
        · rw [← zw] at ew
          injection ew with ew
          have e1 : r = r' := by omega
          have e2 : u = s' := by omega
          subst e1 e2
          have h2 : rowL cs r ((q ^ u : Nat) : Int) % ((q ^ k : Nat) : Int) ≠ 0 := fun z => hnd (Int.dvd_of_emod_eq_zero z)
          omega
theorem sc_shows_period : FnScope ["a_sum", "value", "great", "divisor", "smalls", "length", "small", "pair"] ["a_sum", "value"] (defScope (top 55)) := ⟨rfl, rfl, rfl, by decide +kernel, rfl, by decide +kernel, by decide +kernel⟩
theorem ok_shows_period {P : Program} {w : World} {K : PySem.W.Frag} {mg : Str → Option Value} {base : Heap} (T : Tx K mg) (h_need_sum : Fn P w K mg base 1 (He.fAd K ("need_sum", none)) ["a_sum"] (sp_p_need K)) (h_great_in : Fn P w K mg base 3 (He.fAd K ("great_in", none)) ["number", "most"] (sp_great_in K)) (h_Sum_degree : Fn P w K mg base 1 (pr_Sum_degree.g K) ["self"] (sp_s_deg K)) (h_is_integer : Fn P w K mg base 1 (He.fAd K ("is_integer", none)) ["value"] (sp_is_integer K)) (h_is_between : Fn P w K mg base 2 (He.fAd K ("is_between", none)) ["value", "low", "high"] (sp_is_between K)) (h_are_multipliers : Fn P w K mg base 3 (He.fAd K ("are_multipliers", none)) ["value", "many", "modulus"] (sp_are_multipliers K)) (h_divisor_shown : Fn P w K mg base 1 (He.fAd K ("divisor_shown", none)) ["great", "coefs", "multipliers"] (sp_q_divsh K)) (h_small_in : Fn P w K mg base 2 (He.fAd K ("small_in", none)) ["number", "most"] (sp_small_in K)) (h_shows_small : Fn P w K mg base 4 (He.fAd K ("shows_small", none)) ["a_sum", "value", "prime", "times"] (sp_q_shsm K)) (h_power_of : Fn P w K mg base 1 (He.fAd K ("power_of", none)) ["number", "times"] (sp_power_of K)) : Fn P w K mg base 5 (He.fAd K ("shows_period", none)) ["a_sum", "value"] (sp_q_shper K) := by
  obtain ⟨_, F_need_sum, b_need_sum, kp_need_sum, lk_need_sum⟩ := h_need_sum
  obtain ⟨_, F_great_in, b_great_in, kp_great_in, lk_great_in⟩ := h_great_in
  obtain ⟨_, F_Sum_degree, b_Sum_degree, kp_Sum_degree, lk_Sum_degree⟩ := h_Sum_degree
  obtain ⟨_, F_is_integer, b_is_integer, kp_is_integer, lk_is_integer⟩ := h_is_integer
  obtain ⟨_, F_is_between, b_is_between, kp_is_between, lk_is_between⟩ := h_is_between
  obtain ⟨_, F_are_multipliers, b_are_multipliers, kp_are_multipliers, lk_are_multipliers⟩ := h_are_multipliers
  obtain ⟨_, F_divisor_shown, b_divisor_shown, kp_divisor_shown, lk_divisor_shown⟩ := h_divisor_shown
  obtain ⟨_, F_small_in, b_small_in, kp_small_in, lk_small_in⟩ := h_small_in
  obtain ⟨_, F_shows_small, b_shows_small, kp_shows_small, lk_shows_small⟩ := h_shows_small
  obtain ⟨_, F_power_of, b_power_of, kp_power_of, lk_power_of⟩ := h_power_of
  obtain ⟨fd, F⟩ := T.d_shows_period
  have hc_Period := T.cl_Period
  have hn_Period_great := T.na_Period_great
  have hc_Period := T.cl_Period
  have hn_Period_length := T.na_Period_length
  have hc_Period := T.cl_Period
  have hn_Period_multipliers := T.na_Period_multipliers
  have hc_Period := T.cl_Period
  have hn_Period_smalls := T.na_Period_smalls
  have hc_Sum := T.cl_Sum
  have hn_Sum_coefs := T.na_Sum_coefs
  have hc_Sum := T.cl_Sum
  have hn_Sum_modulus := T.na_Sum_modulus
  refine ⟨fd, F.ok sc_shows_period (lift_len ?_) (fun cdv A outer s H vs Q E hr h => ?_), F.bindsN fun _ _ _ _ _ _ us hl => (match us, hl with | [_, _], _ => rfl), F.kp, lk_of F⟩
  · intro ts O P X h
    exact sp_q_shper_len h
  · have hu := hr.units
    refine ⟨_, (PSs.nox (pss_cons (ps_expr (pe_call F_need_sum (hr.mono (by decide)) (by rfl) T.g_need_sum kp_need_sum b_need_sum .nil passL (pa_cons (pv 0) pa_nil)))
    (pss_cons (ps_set (i := 2) sc_shows_period.nd rfl (.inl rfl) (pe_call F_great_in (hr.mono (by decide)) (by rfl) T.g_great_in kp_great_in b_great_in .nil passL (pa_cons (pe_fldK K (pv 0)) (pa_cons (pe_prop (pv 0) T.cl_Sum T.pp_Sum_degree F_Sum_degree (hr.mono (by decide)) b_Sum_degree .nil passL (by rfl)) pa_nil))))
    (pss_cons (ps_if (PW.pt (pw_or (pt_not (pt_val (pe_callB (call_isiK K) (by rfl) T.n_isinstance boot_isinstance (pa_cons (pv 1) (pa_cons (pe_glob (v := .ref (He.ga K "Period")) (by rfl) T.g_Period rfl) pa_nil))))) (pw_or (pt_not (pt_val (pe_call F_is_integer (hr.mono (by decide)) (by rfl) T.g_is_integer kp_is_integer b_is_integer .nil passL (pa_cons (pe_fldK K (pv 1)) pa_nil)))) (pw_or1 (pt_not (pt_val (pe_call F_is_between (hr.mono (by decide)) (by rfl) T.g_is_between kp_is_between b_is_between .nil passL (pa_cons (pe_fldK K (pv 1)) (pa_cons (pv 2) (pa_cons (pv 2) pa_nil))))))))))
    (pss_one (ps_ret pe_bl))
    pss_nil)
    (pss_cons (ps_if (pt_not (pt_val (pe_call F_are_multipliers (hr.mono (by decide)) (by rfl) T.g_are_multipliers kp_are_multipliers b_are_multipliers .nil passL (pa_cons (pe_fldK K (pv 1)) (pa_cons (pe_callB (cr_lenK K) (by rfl) T.n_len boot_len (pa_cons (pe_slice (sl_tupAK K) (pe_fldK K (pv 0)) (po_some pe_int) po_none) pa_nil)) (pa_cons (pv 2) pa_nil))))))
    (pss_one (ps_ret pe_bl))
    pss_nil)
    (pss_cons (ps_set (i := 3) sc_shows_period.nd rfl (.inl rfl) (pe_call F_divisor_shown (hr.mono (by decide)) (by rfl) T.g_divisor_shown kp_divisor_shown b_divisor_shown .nil passL (pa_cons (pv 2) (pa_cons (pe_slice (sl_tupAK K) (pe_fldK K (pv 0)) (po_some pe_int) po_none) (pa_cons (pe_fldK K (pv 1)) pa_nil)))))
    (pss_cons (ps_set (i := 4) sc_shows_period.nd rfl (.inl rfl) (pe_call F_small_in (hr.mono (by decide)) (by rfl) T.g_small_in kp_small_in b_small_in .nil passL (pa_cons (pe_fldK K (pv 0)) (pa_cons (pe_prop (pv 0) T.cl_Sum T.pp_Sum_degree F_Sum_degree (hr.mono (by decide)) b_Sum_degree .nil passL (by rfl)) pa_nil))))
    (pss_cons (ps_if (PW.pt (pw_or (pt_cmpR op_isN1 (pv 3) pe_non (nomark _)) (pw_or (pt_not (pt_val (pe_callB (call_isiK K) (by rfl) T.n_isinstance boot_isinstance (pa_cons (pe_fldK K (pv 1)) (pa_cons (pe_bltn (v := .ty "tuple") (by rfl) T.n_tuple boot_tuple rfl) pa_nil))))) (pw_or1 (pt_cmpR op_ne (pe_callB (cr_lenK K) (by rfl) T.n_len boot_len (pa_cons (pe_fldK K (pv 1)) pa_nil)) (pe_callB (cr_lenK K) (by rfl) T.n_len boot_len (pa_cons (pv 4) pa_nil)) (nomark _))))))
    (pss_one (ps_ret pe_bl))
    pss_nil)
    (pss_cons (ps_set (i := 5) sc_shows_period.nd rfl (.inl rfl) (pe_op op_fdivW (pv 2) (pv 3)))
    (pss_cons (ps_for PassesOwn.never rfl (RZ.pi_zipM (by rfl) T.n_zip (pa_cons (pe_fldK K (pv 1)) (pa_cons (pv 4) pa_nil))) (pg_tupK K (n := 2) rfl (pgs_cons (pg_name (i := 6) sc_shows_period.nd rfl (.inl rfl)) (pgs_cons (pg_name (i := 7) sc_shows_period.nd rfl (.inl rfl)) pgs_nil)))
    (pss_cons (ps_if (pt_not (pt_val (pe_call F_shows_small (hr.mono (by decide)) (by rfl) T.g_shows_small kp_shows_small b_shows_small .nil passL (pa_cons (pv 0) (pa_cons (pv 6) (pa_cons (pe_ix (ix_tupK K) (pv 7) pe_int (fun _ _ => rfl)) (pa_cons (pe_ix (ix_tupK K) (pv 7) pe_int (fun _ _ => rfl)) pa_nil)))))))
    (pss_one (ps_ret pe_bl))
    pss_nil)
    (pss_one (ps_set (i := 5) sc_shows_period.nd rfl (.inl rfl) (pe_op op_mulW (pv 5) (pe_call F_power_of (hr.mono (by decide)) (by rfl) T.g_power_of kp_power_of b_power_of .nil passL (pa_cons (pe_ix (ix_tupK K) (pv 7) pe_int (fun _ _ => rfl)) (pa_cons (pe_ix (ix_tupK K) (pv 6) pe_int (fun _ _ => rfl)) pa_nil))))))))
    (pss_one (ps_ret (pe_cmpR op_eq (pe_fldK K (pv 1)) (pv 5) (nomark _)))))))))))))), enter h fun ts O P X h _ => ?_⟩
    try dsimp only [cxOf, Cx.nox, Cx.wish]
    
    obtain ⟨m, cs, e, rfl, rfl, ok, h⟩ := h
    have ok1 := ok.two
    have ok2 := ok.most
    have okl := ok.len
    have sc : Sml 140 cs := fun x hx => Nat.lt_of_lt_of_le (ok.sml x hx) (Nat.pow_le_pow_right (by decide) (by decide))
    obtain ⟨M, rfl⟩ : ∃ M : Nat, m = M := ⟨m.toNat, by omega⟩
    rw [Int.toNat_natCast] at h
    obtain ⟨G0, hG⟩ : ∃ G0, My.great M (cs.length - 1) = G0 := ⟨_, rfl⟩
    have G1 : 1 ≤ G0 := by rw [← hG]; exact My.great_pos _ (by omega)
    have GM : G0 ≤ M := by
      rw [← hG]
      exact Nat.le_of_dvd (by omega) ⟨_, My.great_mul (cs.length - 1) (by omega)⟩
    show WS _ _ _ _ [.v (sumD K (M : Nat) cs), .v e, .no, .no, .no, .no, .no, .no] _
    walk_at "n"
    refine ⟨_, cs, rfl, rfl, ⟨⟨_, rfl⟩, ?_⟩⟩
    walk_at "n"
    refine ⟨_, cs, rfl, rfl, ⟨⟨_, rfl⟩, ?_⟩⟩
    repeat walk_at "e"
    refine ⟨M, cs.length - 1, rfl, rfl, by omega, by omega, ⟨⟨_, rfl⟩, ?_⟩⟩
    rw [hG]
    repeat walk_at "e"
    try dsimp only
    refine s_seq ?_
    repeat walk_at "e"
    rcases h with ⟨t, ht, hk, p⟩ | ⟨a, b, c, d, rfl, ⟨fa, fb, fc, fd⟩, p⟩
    · refine c_isi ht (.own _) hk ?_
      repeat walk_at "e"
      exact ⟨rfl, p⟩
    unfold Due at p
    rw [hG] at p
    refine c_isi (.ins _ _ T.it_Period) (.own _) T.kit_Period_Period ?_
    repeat walk_at "e"
    refine u_is_integer fa.isi ⟨⟨_, rfl⟩, ?_⟩
    cases ha : isI a with
    | false =>
      repeat walk_at "e"
      refine ⟨rfl, p false (iff_no fun ⟨ms, sm, Ls, _, _, _, _, _, z⟩ => ?_)⟩
      rw [isI_iff.mpr ⟨_, z⟩] at ha
      cases ha
    | true =>
    obtain ⟨na, rfl⟩ := isI_iff.mp ha
    repeat walk_at "e"
    refine u_is_between (fb.btw _ _) ⟨⟨_, rfl⟩, ?_⟩
    cases hb : btB (G0 : Nat) (G0 : Nat) b with
    | false =>
      repeat walk_at "e"
      refine ⟨rfl, p false (iff_no fun ⟨ms, sm, Ls, z, _⟩ => ?_)⟩
      rw [btB_iff.mpr ⟨_, z, Int.le_refl _, Int.le_refl _⟩] at hb
      cases hb
    | true =>
    obtain ⟨nb, rfl, nb1, nb2⟩ := btB_iff.mp hb
    obtain rfl : nb = (G0 : Nat) := by omega
    repeat walk_at "e"
    try dsimp only
    refine s_seq ?_
    repeat walk_at "e"
    rw [cut_tail cs]
    repeat walk_at "e"
    rw [nums_len, List.length_drop]
    obtain ⟨r1, hr1, hr2⟩ := mulQ_of (K := K) (n := cs.length - 1) (m := (G0 : Nat)) fc
    refine ⟨_, _, G0, r1, rfl, rfl, hr1, ⟨⟨_, rfl⟩, ?_⟩⟩
    cases r1 with
    | false =>
      repeat walk_at "e"
      refine ⟨rfl, p false (iff_no fun ⟨ms, sm, Ls, _, z, hmu, _⟩ => ?_)⟩
      have := hr2.mpr ⟨ms, z, by rw [hmu.1, List.length_drop], hmu.2.1⟩
      cases this
    | true =>
    obtain ⟨ms, rfl, ml, mr⟩ := hr2.mp rfl
    repeat walk_at "e"
    try dsimp only
    refine s_seq ?_
    repeat walk_at "e"
    rw [cut_tail cs]
    repeat walk_at "e"
    refine ⟨G0, cs.drop 1, ms, rfl, rfl, G1, by omega, by rw [List.length_drop]; omega, fun x hx => sc x (List.mem_of_mem_drop hx), by rw [List.length_drop]; exact ml, mr, fun hd => ⟨⟨_, rfl⟩, ?_⟩, fun hd => ⟨⟨_, rfl⟩, ?_⟩⟩
    case refine_2 =>
      repeat walk_at "e"
      try dsimp only
      refine s_seq ?_
      repeat walk_at "e"
      refine ⟨_, cs, rfl, rfl, ⟨⟨_, rfl⟩, ?_⟩⟩
      repeat walk_at "e"
      refine ⟨M, cs.length - 1, rfl, rfl, by omega, by omega, ⟨⟨_, rfl⟩, ?_⟩⟩
      repeat walk_at "e"
      try dsimp only
      refine s_seq ?_
      repeat walk_at "e"
      refine ⟨rfl, p false (iff_no fun ⟨ms', sm, Ls, _, z, hmu, _⟩ => hd ?_)⟩
      have e : ms = ms' := by
        injection z with z
        exact numsI z
      rw [e]
      exact hmu.2.2
    obtain ⟨g, hg⟩ : ∃ g, gcdL G0 (cs.drop 1) = g := ⟨_, rfl⟩
    have g1 : 1 ≤ g := by rw [← hg]; exact My.gcdL_pos G1 _
    have gle : g ≤ G0 := by rw [← hg]; exact My.gcdL_le G1 _
    rw [hg] at p hd ⊢
    repeat walk_at "e"
    try dsimp only
    refine s_seq ?_
    repeat walk_at "e"
    refine ⟨_, cs, rfl, rfl, ⟨⟨_, rfl⟩, ?_⟩⟩
    repeat walk_at "e"
    refine ⟨M, cs.length - 1, rfl, rfl, by omega, by omega, ⟨⟨_, rfl⟩, ?_⟩⟩
    repeat walk_at "e"
    try dsimp only
    refine s_seq ?_
    repeat walk_at "e"
    rcases fd with ⟨sm, rfl, sml, smt⟩ | fd
    case inr =>
      obtain ⟨t, ht, hk⟩ := fd.kit (K := K)
      refine c_isi ht (.ty _) hk ?_
      repeat walk_at "e"
      exact ⟨rfl, p false (iff_no fun ⟨_, _, _, _, _, _, z, _⟩ => fd.ne _ z)⟩
    refine c_isi (.tup _) (.ty _) (kit_ty (r := true) (by decide +kernel)) ?_
    repeat walk_at "e"
    have sl := My.small_len M (cs.length - 1)
    rw [List.length_map]
    refine nbr (fun hl => ?_) (fun hl => ?_)
    · repeat walk_at "e"
      refine ⟨rfl, p false (iff_no fun ⟨_, sm', Ls, _, _, _, z, hs, _⟩ => hl ?_)⟩
      injection z with z
      rw [z, (SmsR.get hs).1]
    have sl1 : sm.length = (My.small M (cs.length - 1)).length := by omega
    repeat walk_at "e"
    try dsimp only
    refine s_seq ?_
    repeat walk_at "e"
    try dsimp only
    refine s_seq ?_
    refine s_forE ?_
    refine i_zipM ?_
    repeat walk_at "e"
    have p1 : ((G0 : Nat) : Int) / ((g : Nat) : Int) = ((My.prodN (G0 / g :: []) : Nat) : Int) := by
      rw [My.prodN_cons, My.prodN_nil, Nat.mul_one, Int.natCast_ediv]
    rw [p1]
    refine for_Z (ds := sm) (es := (My.small M (cs.length - 1)).map smD) (by rw [List.length_map, sl1]) (fun i ts' O' => O' = [] ∧ ∃ (Ls : List Nat) (x1 x2 : G.T), SmsR cs ((My.small M (cs.length - 1)).take i) (sm.take i) Ls ∧ My.prodN (G0 / g :: Ls) < 2 ^ (100 + 120 * i) ∧ ts' = [.v (sumD K (M : Nat) cs), .v (perX K (.int na) (.int (G0 : Nat)) (.tup (nums ms)) (.tup sm)), .v (.int (G0 : Nat)), .v (.int (g : Nat)), .v (.lst ((My.small M (cs.length - 1)).map smD)), .v (.int (My.prodN (G0 / g :: Ls) : Nat)), x1, x2]) ⟨rfl, [], _, _, ⟨rfl, rfl⟩, ?_, rfl⟩ ?_ ?_
    · rw [My.prodN_cons, My.prodN_nil, Nat.mul_one]
      have := Nat.div_le_self G0 g
      omega
    · rintro i d e _ _ hi hd1 he ⟨rfl, Ls, x1, x2, hsr, hbd, rfl⟩
      rw [List.getElem?_map] at he
      cases hx : (My.small M (cs.length - 1))[i]? with
      | none => rw [hx] at he; cases he
      | some x =>
        rw [hx] at he
        cases (Option.some.inj he : smD x = e)
        obtain ⟨x1', x2', x3', x4'⟩ := My.small_mem (List.mem_of_getElem? hx)
        have xd := My.small_dvd (n := M) (by omega) (List.mem_of_getElem? hx)
        have hpw : PwOk x.1 x.2 := ⟨x1', by have := Nat.le_of_dvd (by omega) xd.2; omega⟩
        have xq := My.pr_two x1'
        have te := hpw.e
        refine g_pair rfl ?_
        refine s_seq ?_
        repeat walk_at "e"
        refine ⟨_, cs, d, x.1, x.2, rfl, rfl, ok, hpw, smt d (List.mem_of_getElem? hd1), fun r hr => ⟨⟨_, rfl⟩, ?_⟩⟩
        cases r with
        | false =>
          repeat walk_at "e"
          refine ⟨rfl, p false (iff_no fun ⟨_, sm', Ls', _, _, _, z, hs, _⟩ => ?_)⟩
          injection z with z
          subst z
          obtain ⟨t, w, q1, _, q2, q3⟩ := (SmsR.get hs).2.2 i x hx
          rw [hd1] at q1
          have := hr.mpr ⟨t, w, Option.some.inj q1, q2, q3⟩
          cases this
        | true =>
        obtain ⟨t, w, rfl, ht, hw⟩ := hr.mp rfl
        have tb := hpw.far ht.2
        have te2 := ht.2
        repeat walk_at "e"
        try dsimp only
        repeat walk_at "e"
        refine ⟨x.1, t, rfl, rfl, by omega, by omega, ⟨⟨_, rfl⟩, ?_⟩⟩
        refine w_mulW (mul_okP (a := 100 + 120 * i) (b := 120) (by rw [Int.natAbs_natCast]; exact hbd) (by rw [Int.natAbs_natCast]; exact tb) (by omega)) ?_
        have ep : My.prodN (G0 / g :: (Ls ++ [x.1 ^ t])) = My.prodN (G0 / g :: Ls) * x.1 ^ t := by rw [My.prodN_cons, My.prodN_cons, My.prodN_app, My.prodN_cons, My.prodN_nil, Nat.mul_one, Nat.mul_assoc]
        rw [← Int.natCast_mul, ← ep]
        refine ⟨rfl, Ls ++ [x.1 ^ t], _, _, ?_, ?_, rfl⟩
        · rw [List.take_succ, List.take_succ, hx, hd1]
          exact SmsR.snoc ht hw hsr
        · rw [ep, show 100 + 120 * (i + 1) = (100 + 120 * i) + 120 by omega, Nat.pow_add]
          exact Nat.mul_lt_mul'' hbd tb
    · rintro _ _ ⟨rfl, Ls, x1, x2, hsr, _, rfl⟩
      rw [List.take_length, sl1, List.take_length] at hsr
      repeat walk_at "e"
      refine ⟨rfl, p _ ?_⟩
      rw [decide_eq_true_iff]
      constructor
      · intro z
        exact ⟨ms, sm, Ls, rfl, rfl, ⟨by rw [List.length_drop]; exact ml, mr, hd⟩, rfl, hsr, by rw [z]⟩
      · rintro ⟨_, sm', Ls', _, _, _, z, hs, z2⟩
        injection z with z
        subst z
        rw [SmsR.uniq (fun x hx => (My.small_mem hx).1) hs hsr] at z2
        injection z2
end My

set_option Elab.async false
set_option linter.all false
set_option maxRecDepth 100000
set_option maxHeartbeats 0
namespace My
open PySem PySem.Spec PyProof.Rows L2 G

def sp_l_made (K : PySem.W.Frag) : SpD := fun ts O P _ => ∃ (m : Int) (xs : List Int), ts = [.v (.int m), .v (.lst (nums xs))] ∧ O = [] ∧ 2 ≤ m ∧ m ≤ 1000000000000000000000000000000 ∧ xs.length ≤ 13 ∧ P (.v (sumD K m (tr m xs))) []
theorem sp_l_made_len {K : PySem.W.Frag} {ts O P X} (h : sp_l_made K ts O P X) : ts.length = 2 := by
  obtain ⟨m, xs, rfl, _⟩ := h
  rfl
def sp_l_bin (K : PySem.W.Frag) : SpD := fun ts O P _ => ∃ (n : Int) (j : Nat), ts = [.v (.int n), .v (.int j)] ∧ O = [] ∧ j ≤ 12 ∧ n.natAbs + 12 < 2 ^ 230 ∧ P (.v (.int (bin n j))) []
theorem sp_l_bin_len {K : PySem.W.Frag} {ts O P X} (h : sp_l_bin K ts O P X) : ts.length = 2 := by
  obtain ⟨n, j, rfl, _⟩ := h
  rfl
def sp_l_value (K : PySem.W.Frag) : SpD := fun ts O P _ => ∃ (m : Int) (xs : List Int) (n : Int), ts = [.v (.int m), .v (.lst (nums xs)), .v (.int n)] ∧ O = [] ∧ 2 ≤ m ∧ xs.length ≤ 13 ∧ Sml 140 xs ∧ n.natAbs + 12 < 2 ^ 230 ∧ P (.v (.int (V xs n % m))) []
theorem sp_l_value_len {K : PySem.W.Frag} {ts O P X} (h : sp_l_value K ts O P X) : ts.length = 3 := by
  obtain ⟨m, xs, n, rfl, _⟩ := h
  rfl
def sp_l_drawn (K : PySem.W.Frag) : SpD := fun ts O P _ => ∃ (n : Nat) (p : List D) (ms : List Int) (M : Nat), ts = [.own 0, .v (.lst (nums ms)), .v (.int (M : Nat))] ∧ O = [.lst p] ∧ Pen n p ∧ n < 900000 ∧ M ≤ 13 ∧ 1 ≤ ms.length ∧ ms.length ≤ 1000 ∧ (∀ m ∈ ms, 2 ≤ m ∧ m ≤ 1000000000000000000000000000000) ∧ ∀ p' (m : Int) (cs : List Int), Pen (n + 40) p' → SumOk m cs → cs.length ≤ M → m ∈ ms → P (.v (.tup [.int m, .lst (nums cs)])) [.lst p']
theorem sp_l_drawn_len {K : PySem.W.Frag} {ts O P X} (h : sp_l_drawn K ts O P X) : ts.length = 3 := by
  obtain ⟨n, p, ms, M, rfl, _⟩ := h
  rfl
theorem ints_in {xs : List Int} {j : Nat} {d : D} (h : (nums xs)[j]? = some d) : ∃ x : Int, d = .int x ∧ x ∈ xs := by
  unfold nums at h
  rw [List.getElem?_map] at h
  cases e : xs[j]? with
  | none => rw [e] at h; cases h
  | some x =>
    rw [e] at h
    cases h
    exact ⟨x, rfl, List.mem_of_getElem? e⟩
theorem cut_last1 {zs : List Int} {z : Int} : G.cutD (nums (zs ++ [z])) none (some (-1)) = nums zs := by
  rw [← nums_app]
  unfold G.cutD
  have e : HT.sIx (nums zs ++ [D.int z]).length (nums zs ++ [D.int z]).length (some (-1)) = (nums zs).length := by
    rw [List.length_append, List.length_singleton]
    unfold HT.sIx
    simp
    omega
  rw [HT.sIx_none, e, List.drop_zero, Nat.sub_zero, List.take_left']
  rfl
theorem ok_sml {m : Int} {cs : List Int} (ok : SumOk m cs) : Sml 140 cs := fun x hx => Nat.lt_of_lt_of_le (ok.sml x hx) (Nat.pow_le_pow_right (by decide) (by decide))
def sp_l_trim (K : PySem.W.Frag) : SpD := fun ts O P _ => ∃ (m : Int) (xs : List Int), ts = [.v (.int m), .v (.lst (nums xs))] ∧ O = [] ∧ 2 ≤ m ∧ xs.length ≤ 13 ∧ P (.v (.lst (nums (tr m xs)))) []
theorem sp_l_trim_len {K : PySem.W.Frag} {ts O P X} (h : sp_l_trim K ts O P X) : ts.length = 2 := by
  obtain ⟨m, xs, rfl, _⟩ := h
  rfl
def sp_l_left (K : PySem.W.Frag) : SpD := fun ts O P _ => ∃ (m : Int) (cs : List Int) (r : Nat) (N : Int), ts = [.v (.int m), .v (.lst (nums cs)), .v (.int (r : Nat)), .v (.int N)] ∧ O = [] ∧ 2 ≤ m ∧ cs.length ≤ 13 ∧ Sml 140 cs ∧ r < 1000 ∧ N.natAbs + 12 < 2 ^ 230 ∧ P (.v (.int (My.rowL cs r N % m))) []
theorem sp_l_left_len {K : PySem.W.Frag} {ts O P X} (h : sp_l_left K ts O P X) : ts.length = 4 := by
  obtain ⟨m, cs, r, N, rfl, _⟩ := h
  rfl

local macro_rules | `(tactic| walk_at "ws") => `(tactic| first
  | with_reducible refine s_set ?_
  | with_reducible refine s_if ?_
  | refine s_fldaug (by assumption) (by assumption) ?_
  | with_reducible refine s_ret ?_
  | with_reducible refine s_retN ?_
  | with_reducible refine s_drop ?_
  | with_reducible refine s_next ?_
  | with_reducible refine s_par ?_
  | with_reducible refine s_par3 ?_
  | refine s_fldN (by assumption) (by assumption) ?_
  | with_reducible refine s_asg ?_
  | refine s_raise1 ?_
  | refine s_raise2 ?_)
local macro_rules | `(tactic| walk_at "we") => `(tactic| first
  | ((with_reducible refine w_v (d := ?k2) ?k1 ?_); (case k1 => exact rfl))
  | ((with_reducible refine w_o (j := ?k2) ?k1 ?_); (case k1 => exact rfl))
  | ((guard_target = G.WE _ _ (tFld _ _ _) _ _ _ _); (refine w_fldN (by assumption) (by assumption) ?_))
  | ((guard_target = G.WE _ _ (tC (.ref _)) _ _ _ _); (refine w_ctup (by assumption) ?_))
  | with_reducible refine w_ci ?_
  | with_reducible refine w_op ?_
  | with_reducible refine w_call ?_
  | with_reducible refine w_cty ?_
  | with_reducible refine w_cb ?_
  | with_reducible refine w_cn ?_
  | with_reducible refine w_cs ?_
  | with_reducible refine w_cr ?_
  | with_reducible refine w_un ?_
  | with_reducible refine w_andV ?_
  | with_reducible refine w_orV ?_
  | with_reducible refine w_notV ?_
  | with_reducible refine w_ife ?_
  | with_reducible refine w_chain ?_
  | with_reducible refine w_tup ?_
  | with_reducible refine w_revL ?_
  | with_reducible refine w_slL ?_
  | with_reducible refine w_slT ?_
  | (guard_target = G.WE _ _ (tCall (lift _ (sp_draw _)) _ _ _) _ _ _ _; refine w_fn10 0 ?_)
  | (guard_target = G.WE _ _ (tCall (lift _ (sp_pick _)) _ _ _) _ _ _ _; refine w_fn10 0 ?_)
  | (guard_target = G.WE _ _ (tCall (lift _ (sp_w_coefs _)) _ _ _) _ _ _ _; refine w_fn10 0 ?_)
  | (guard_target = G.WE _ _ (tCall (lift _ (sp_l_drawn _)) _ _ _) _ _ _ _; refine w_fn10 0 ?_)
  | (guard_target = G.WE _ _ (tCall (lift _ (sp_l_right _)) _ _ _) _ _ _ _; refine w_fn10 0 ?_)
  | (guard_target = G.WE _ _ (tCall (lift _ (sp_l_btri _)) _ _ _) _ _ _ _; refine w_fn10 0 ?_)
  | (guard_target = G.WE _ _ (tCall (lift _ (sp_l_bent _)) _ _ _) _ _ _ _; refine w_fn10 0 ?_)
  | (guard_target = G.WE _ _ (tMeth _ _ (lift _ (sp_w_next _)) _ _ _ _) _ _ _ _; refine w_methO 0 ?_)
  | (guard_target = G.WE _ _ (tMeth _ _ (lift _ (sp_w_refuse _)) _ _ _ _) _ _ _ _; refine w_methO 0 ?_)
  | (guard_target = G.WE _ _ (tMeth _ _ (lift _ (sp_w_word _)) _ _ _ _) _ _ _ _; refine w_methO 0 ?_)
  | (guard_target = G.WE _ _ (tMeth _ _ (lift _ (sp_w_number _)) _ _ _ _) _ _ _ _; refine w_methO 0 ?_)
  | (guard_target = G.WE _ _ (tMeth _ _ (lift _ (sp_w_end _)) _ _ _ _) _ _ _ _; refine w_methO 0 ?_)
  | (guard_target = G.WE _ _ (tMake _ (lift _ (sp_w_init _)) _ _ _) _ _ _ _; refine w_makeO ?_)
  | with_reducible refine w_fn0 ?_
  | with_reducible refine w_fnS0 ?_
  | with_reducible refine w_meth0 ?_
  | with_reducible refine w_make0 ?_
  | with_reducible refine w_bmL ?_
  | with_reducible refine w_bmL0 ?_
  | with_reducible refine w_lst ?_
  | with_reducible refine w_callKX ?_
  | with_reducible refine w_makeKX ?_
  | with_reducible refine w_makeX ?_
  | with_reducible refine w_smethX ?_
  | with_reducible refine w_smethK ?_
  | with_reducible refine w_smethK0 ?_
  | with_reducible refine w_fnV ?_
  | with_reducible refine w_fnX ?_
  | with_reducible refine w_fnSX ?_
  | with_reducible refine w_methX ?_
  | with_reducible refine w_callX ?_
  | with_reducible refine w_methK ?_
  | with_reducible refine w_callK2 ?_
  | with_reducible refine w_callI ?_
  | with_reducible refine w_prop ?_
  | with_reducible refine w_dic0 ?_
  | with_reducible refine w_jcons ?_
  | with_reducible refine w_jnil ?_
  | with_reducible refine w_join ?_
  | with_reducible refine w_split ?_
  | with_reducible refine w_smeth ?_
  | with_reducible refine w_fnKr ?_)
local macro_rules | `(tactic| walk_at "wt") => `(tactic| first
  | with_reducible refine w_test ?_
  | with_reducible refine w_B ?_
  | with_reducible refine w_and ?_
  | with_reducible refine w_or ?_
  | with_reducible refine w_not ?_)
local macro_rules | `(tactic| walk_at "wa") => `(tactic| first
  | with_reducible refine w_cons ?_
  | with_reducible refine w_nil ?_
  | with_reducible refine w_star ?_)
local macro_rules | `(tactic| walk_at "wr") => `(tactic| first
  | with_reducible refine w_add ?_
  | with_reducible refine w_sub ?_
  | with_reducible refine w_lt ?_
  | with_reducible refine w_le ?_
  | with_reducible refine w_gt ?_
  | with_reducible refine w_ge ?_
  | with_reducible refine w_eqI ?_
  | with_reducible refine w_neI ?_
  | with_reducible refine w_isN ?_
  | with_reducible refine w_notN ?_
  | ((with_reducible refine w_mod ?k1 ?_); (case k1 => first | decide | omega))
  | ((with_reducible refine w_mul ?k1 ?_); (case k1 => first | exact Or.inl ⟨by decide, by decide⟩ | exact Or.inr ⟨by decide, by decide⟩ | exact Or.inl ⟨by omega, by omega⟩ | exact Or.inr ⟨by omega, by omega⟩))
  | ((with_reducible refine w_pow ?k1 ?_); (case k1 => first | exact ⟨by decide, by decide, by decide⟩ | exact ⟨by omega, by omega, by omega⟩))
  | ((with_reducible refine w_fdivW ?k1 ?_); (case k1 => exact divW_ok (by first | decide | omega) (by first | decide | omega)))
  | ((with_reducible refine w_mulW ?k1 ?_); (case k1 => exact mulW_ok ⟨by omega, by omega⟩ ⟨by omega, by omega⟩))
  | ((guard_target = G.WR _ (rIxT _) _ _ _ _); (refine w_ixT (by first | exact atI_0 | exact atI_1 | exact atI_2 | exact atI_3 | exact atI_4 | exact atI_5 | exact atI_6 | assumption) ?_))
  | ((guard_target = G.WR _ (rIxL _) _ _ _ _); (refine w_ixL (by first | exact lstD_v | exact lstD_o rfl) (by first | exact atI_0 | exact atI_1 | exact atI_2 | exact atI_3 | exact atI_4 | exact atI_5 | exact atI_6 | assumption) ?_)))
local macro_rules | `(tactic| walk_at "wc") => `(tactic| first
  | with_reducible refine c_int ?_
  | with_reducible refine c_intB ?_
  | with_reducible refine c_abs ?_
  | ((guard_target = G.WC _ (G.rLen _) _ _ _); (refine c_lenL (by first | exact lstD_v | exact lstD_o rfl) ?_))
  | with_reducible refine c_lenT ?_
  | ((guard_target = G.WC _ (G.rListOf _) _ _ _); (refine c_listL (by first | exact lstD_v | exact lstD_o rfl) ?_))
  | with_reducible refine c_listT ?_
  | ((guard_target = G.WC _ (G.rTupOf _) _ _ _); (refine c_tupL (by first | exact lstD_v | exact lstD_o rfl) ?_))
  | with_reducible refine c_tupT ?_)
local macro_rules | `(tactic| walk_at "e") => `(tactic| first
  | (guard_target = G.WE _ _ _ _ _ _ _; walk_at "we")
  | (guard_target = G.WS _ _ _ _ _ _; walk_at "ws")
  | (guard_target = G.WA _ _ _ _ _ _ _; walk_at "wa")
  | (guard_target = G.WR _ _ _ _ _ _; walk_at "wr")
  | (guard_target = G.WT _ _ _ _ _ _ _; walk_at "wt")
  | (guard_target = G.WC _ _ _ _ _; walk_at "wc")
  | (guard_target = G.WU _ _ _ _ _; with_reducible refine w_neg ?_)
  | (guard_target = G.WG _ _ _ _ _ _ _; first | with_reducible refine g_name ?_ | with_reducible refine g_setL ?_ | refine g_pair rfl ?_ | refine g_trip rfl ?_ | refine g_quad rfl ?_)
  | (guard_target = G.WO _ _ _ _ _ _ _; first | with_reducible refine o_none ?_ | with_reducible refine o_some ?_)
  | with_reducible refine tt_ ?_
  | with_reducible refine ff_ ?_
  | with_reducible refine ntt_ ?_
  | with_reducible refine nff_ ?_
  | ((guard_target = ((!G.isNon _) = true → _) ∧ _); (first | refine bnF rfl ?_ | refine bnT rfl ?_))
  | ((guard_target = (G.isNon _ = true → _) ∧ _); (first | refine bF rfl ?_ | refine bT rfl ?_))
  | (guard_target = Exists _; first
    | refine ⟨_, rfl, rfl, rfl, ?_⟩
    | refine ⟨_, _, _, rfl, rfl, rfl, Nat.le_of_ble_eq_true rfl, ?_⟩
    | refine ⟨_, _, _, rfl, rfl, rfl, ?_⟩
    | refine ⟨_, _, rfl, rfl, Nat.le_of_ble_eq_true rfl, ?_⟩
    | refine ⟨_, rfl, Nat.le_of_ble_eq_true rfl, Nat.le_of_ble_eq_true rfl, ?_⟩
    | refine ⟨_, _, _, _, _, rfl, rfl, rfl, rfl, rfl, ?_⟩
    | refine ⟨_, _, _, rfl, rfl, rfl, Nat.le_of_ble_eq_true rfl, ?_⟩
    | refine ⟨_, _, rfl, rfl, rfl, ?_⟩
    | refine ⟨_, _, _, rfl, ?_⟩
    | refine ⟨_, _, (by first | exact insD_v | exact insD_o rfl), rfl, ?_⟩
    | refine ⟨_, _, rfl, ?_⟩
    | refine ⟨_, rfl, rfl, ?_⟩
    | refine ⟨_, rfl, Nat.le_of_ble_eq_true rfl, ?_⟩
    | refine ⟨_, (by first | exact lstD_v | exact lstD_o rfl), ?_⟩
    | refine ⟨_, rfl, ?_⟩))
local macro_rules | `(tactic| walk_at "o") => `(tactic| first | with_reducible refine w_lstO ?_ | walk_at "e")
local macro_rules | `(tactic| walk_at "g") => `(tactic| first | walk_at "e" | with_reducible refine s_seq ?_)
local macro_rules | `(tactic| walk_at "n") => `(tactic| (with_reducible refine s_seq ?_); (repeat walk_at "e"))
theorem sc_law_choose : FnScope ["_law_n", "_law_j", "_law_found", "_law_k"] ["_law_n", "_law_j"] (defScope (top 60)) := ⟨rfl, rfl, rfl, by decide +kernel, rfl, by decide +kernel, by decide +kernel⟩
theorem ok_law_choose {P : Program} {w : World} {K : PySem.W.Frag} {mg : Str → Option Value} {base : Heap} (T : Tx K mg)  : Fn P w K mg base 1 (He.fAd K ("_law_choose", none)) ["_law_n", "_law_j"] (sp_l_bin K) := by
  obtain ⟨fd, F⟩ := T.d_law_choose
  refine ⟨fd, F.ok sc_law_choose (lift_len ?_) (fun cdv A outer s H vs Q E hr h => ?_), F.bindsN fun _ _ _ _ _ _ us hl => (match us, hl with | [_, _], _ => rfl), F.kp, lk_of F⟩
  · intro ts O P X h
    exact sp_l_bin_len h
  · have hu := hr.units
    refine ⟨_, (PSs.nox (pss_cons (ps_set (i := 2) sc_law_choose.nd rfl (.inl rfl) pe_int)
    (pss_cons (ps_for PassesOwn.never rfl (pi_range1 (by rfl) T.n_range (pa_cons (pv 1) pa_nil)) (pg_name (i := 3) sc_law_choose.nd rfl (.inl rfl))
    (pss_one (ps_set (i := 2) sc_law_choose.nd rfl (.inl rfl) (pe_op op_fdivW (pe_op op_mulW (pv 2) (pe_op op_sub (pv 0) (pv 3))) (pe_op op_add (pv 3) pe_int)))))
    (pss_one (ps_ret (pv 2)))))), enter h fun ts O P X h _ => ?_⟩
    try dsimp only [cxOf, Cx.nox, Cx.wish]
    
    obtain ⟨n, j, rfl, rfl, hj, hn, p⟩ := h
    show WS _ _ _ _ [.v (.int n), .v (.int j), .no, .no] _
    walk_at "n"
    refine s_seq ?_
    refine s_forE ?_
    refine i_rng1 ?_
    repeat walk_at "e"
    refine ⟨by omega, ?_⟩
    rw [Int.toNat_natCast]
    refine for_R1 (fun i ts' O' => ∃ a : G.T, O' = [] ∧ ts' = [.v (.int n), .v (.int j), .v (.int (bin n i)), a]) ⟨_, rfl, rfl⟩ ?_ ?_
    · rintro i _ _ hi ⟨a, rfl, rfl⟩
      refine g_name ?_
      have hb := bin_bd hn i (by omega)
      repeat walk_at "e"
      refine w_mulW (mul_okP hb (b := 231) (by omega) (by omega)) ?_
      repeat walk_at "e"
      exact ⟨_, rfl, rfl⟩
    · rintro _ _ ⟨a, rfl, rfl⟩
      repeat walk_at "e"
      exact ⟨rfl, p⟩
theorem sc_law_cut : FnScope ["_law_modulus", "_law_coefs", "_law_found", ".0", "_law_coef"] ["_law_modulus", "_law_coefs"] (defScope (top 61)) := ⟨rfl, rfl, rfl, by decide +kernel, rfl, by decide +kernel, by decide +kernel⟩
theorem ok_law_cut {P : Program} {w : World} {K : PySem.W.Frag} {mg : Str → Option Value} {base : Heap} (T : Tx K mg)  : Fn P w K mg base 1 (He.fAd K ("_law_cut", none)) ["_law_modulus", "_law_coefs"] (sp_l_trim K) := by
  obtain ⟨fd, F⟩ := T.d_law_cut
  refine ⟨fd, F.ok sc_law_cut (lift_len ?_) (fun cdv A outer s H vs Q E hr h => ?_), F.bindsN fun _ _ _ _ _ _ us hl => (match us, hl with | [_, _], _ => rfl), F.kp, lk_of F⟩
  · intro ts O P X h
    exact sp_l_trim_len h
  · have hu := hr.units
    refine ⟨_, (PSs.nox (pss_cons (ps_setLc (i := 2) (own := [(".0", 3), ("_law_coef", 4)]) rfl sc_law_cut.nd rfl rfl (sw_true rfl rfl rfl (by decide +kernel)) (pi_listK K (pv 1)) (blkOk_by (own := [(".0", 3), ("_law_coef", 4)]) (N := ["_law_modulus", "_law_coefs", "_law_found", ".0", "_law_coef"]) (sc := defScope (top 61)) (by decide +kernel)) (fun _ _ _ _ _ => (pg_name (i := 4) sc_law_cut.nd rfl (.inl rfl))) (fun _ _ _ _ _ => pts_nil) (fun _ _ _ _ _ => (pe_op op_mod (pe_callTy call_int1 (by rfl) T.n_int boot_int (pa_cons (pv 4) pa_nil)) (pv 0))))
    (pss_cons (ps_while PassesOwn.never (PW.pt (pw_and (pt_cmpR (op_neDK K hu) (pv 2) (pe_lst pa_nil) (nomark _)) (pw_and1 (pt_cmpR op_eq (pe_ix (ix_listK K) (pv 2) (pe_un un_neg pe_int) (fun _ _ => rfl)) pe_int (nomark _)))))
    (pss_one (ps_set (i := 2) sc_law_cut.nd rfl (.inl rfl) (pe_slice (sl_listK K) (pv 2) po_none (po_some (pe_un un_neg pe_int))))))
    (pss_one (ps_ret (pv 2)))))), enter h fun ts O P X h _ => ?_⟩
    try dsimp only [cxOf, Cx.nox, Cx.wish]
    
    obtain ⟨m, xs, rfl, rfl, hm, hl, p⟩ := h
    show WS _ _ _ _ [.v (.int m), .v (.lst (nums xs)), .no, .no, .no] _
    refine s_seq ?_
    repeat walk_at "e"
    refine w_lc1 ?_ (by decide)
    refine i_list ?_
    repeat walk_at "e"
    refine lc_A xs D.int (fun x => .int (x % m)) (by omega) (fun x acc hx => ?_) ?_
    · refine g_name ?_
      repeat walk_at "e"
      exact ⟨rfl, rfl⟩
    repeat walk_at "e"
    refine s_seq ?_
    refine s_while (fun n ts' O' => ∃ ys : List Int, n = ys.length ∧ O' = [] ∧ ts' = [.v (.int m), .v (.lst (nums xs)), .v (.lst (nums ys)), .no, .no] ∧ cut ys = tr m xs ∧ ys.length ≤ 100) (xs.map (· % m)).length ⟨xs.map (· % m), rfl, rfl, (by unfold nums; rw [List.map_map]; rfl), rfl, (by rw [List.length_map]; omega)⟩ ?_
    rintro n _ _ ⟨ys, rfl, rfl, rfl, hc, hl2⟩
    repeat walk_at "e"
    refine w_neD valD_v valD_v pl_numsL pl_nilL ?_
    rw [eqD_nilL]
    refine ⟨_, rfl, nbr (fun hn => ?_) (fun hn => ?_)⟩
    · obtain ⟨zs, z, rfl⟩ : ∃ zs z, ys = zs ++ [z] := ⟨_, _, (List.dropLast_concat_getLast hn).symm⟩
      repeat walk_at "e"
      refine w_ixL lstD_v atI_m1n ?_
      repeat walk_at "e"
      refine br (fun hz => ?_) (fun hz => ?_)
      · subst hz
        rw [List.length_append, List.length_singleton] at hl2 ⊢
        repeat walk_at "e"
        rw [cut_last1]
        exact ⟨zs.length, Nat.lt_succ_self _, zs, rfl, rfl, rfl, by rw [← hc, My.cut_snoc0], by omega⟩
      · rw [My.cut_snoc hz] at hc
        rw [hc]
        repeat walk_at "e"
        exact ⟨rfl, p⟩
    · subst hn
      have hc : [] = tr m xs := hc
      rw [hc]
      refine ff_ ?_
      repeat walk_at "e"
      exact ⟨rfl, p⟩
theorem sc_law_made : FnScope ["_law_modulus", "_law_coefs", "_law_some", ".0", "_law_one"] ["_law_modulus", "_law_coefs"] (defScope (top 62)) := ⟨rfl, rfl, rfl, by decide +kernel, rfl, by decide +kernel, by decide +kernel⟩
theorem ok_law_made {P : Program} {w : World} {K : PySem.W.Frag} {mg : Str → Option Value} {base : Heap} (T : Tx K mg) (h_law_cut : Fn P w K mg base 1 (He.fAd K ("_law_cut", none)) ["_law_modulus", "_law_coefs"] (sp_l_trim K)) (h_Sum_read : Fn P w K mg base 6 (pr_Sum_read.g K) ["text"] (sp_s_read K)) : Fn P w K mg base 7 (He.fAd K ("_law_made", none)) ["_law_modulus", "_law_coefs"] (sp_l_made K) := by
  obtain ⟨_, F_law_cut, b_law_cut, kp_law_cut, lk_law_cut⟩ := h_law_cut
  obtain ⟨_, F_Sum_read, b_Sum_read, kp_Sum_read, lk_Sum_read⟩ := h_Sum_read
  obtain ⟨fd, F⟩ := T.d_law_made
  refine ⟨fd, F.ok sc_law_made (lift_len ?_) (fun cdv A outer s H vs Q E hr h => ?_), F.bindsN fun _ _ _ _ _ _ us hl => (match us, hl with | [_, _], _ => rfl), F.kp, lk_of F⟩
  · intro ts O P X h
    exact sp_l_made_len h
  · have hu := hr.units
    refine ⟨_, (PSs.nox (pss_cons (ps_set (i := 2) sc_law_made.nd rfl (.inl rfl) (pe_call F_law_cut (hr.mono (by decide)) (by rfl) T.g__law_cut kp_law_cut b_law_cut .nil passL (pa_cons (pv 0) (pa_cons (pv 1) pa_nil))))
    (pss_one (ps_ret (pe_smeth (pe_glob (v := .ref (He.ga K "Sum")) (by rfl) T.g_Sum rfl) T.sm_Sum_read (rOf F_Sum_read b_Sum_read) (hr.mono (by decide)) passL (pa_cons (pe_op op_addS (pe_op op_addS (pe_op op_addS pe_str (pe_callTy call_str_int (by rfl) T.n_str boot_str (pa_cons (pv 0) pa_nil))) pe_str) (pe_joinK K pe_str (pe_ifExp (pt_cmpR (op_neDK K hu) (pv 2) (pe_lst pa_nil) (nomark _)) (pe_lc (own := [(".0", 3), ("_law_one", 4)]) rfl sc_law_made.nd (pi_listK K (pv 2)) (blkOk_by (own := [(".0", 3), ("_law_one", 4)]) (N := ["_law_modulus", "_law_coefs", "_law_some", ".0", "_law_one"]) (sc := defScope (top 62)) (by decide +kernel)) (fun _ _ _ _ _ => (pg_name (i := 4) sc_law_made.nd rfl (.inl rfl))) (fun _ _ _ _ _ => pts_nil) (fun _ _ _ _ _ => (pe_callTy call_str_int (by rfl) T.n_str boot_str (pa_cons (pv 4) pa_nil)))) (pe_lst (pa_cons pe_str pa_nil))))) pa_nil)))))), enter h fun ts O P X h _ => ?_⟩
    try dsimp only [cxOf, Cx.nox, Cx.wish]
    
    obtain ⟨m, xs, rfl, rfl, m1, m2, hl, p⟩ := h
    obtain ⟨cs, hcs⟩ : ∃ cs, cs = tr m xs := ⟨_, rfl⟩
    have ok : SumOk m cs := by rw [hcs]; exact .of m1 m2 hl
    have okl := ok.len
    rw [← hcs] at p
    have smm : Sm m := by unfold Sm; omega
    have sm : ∀ c ∈ cs, Sm c := fun c hc => Nat.lt_of_lt_of_le (ok.sml c hc) (Nat.pow_le_pow_right (by decide) (by decide))
    obtain ⟨r1, r2⟩ := sumRows_len sm okl
    have t1 := text_len smm
    have j1 := join_le (" " : Str) (sumRows cs)
    have e1 : (" " : Str).length = 1 := by decide
    have e7 : ("modulo " : Str).length = 7 := by decide
    have e3 : (" : " : Str).length = 3 := by decide
    rw [e1] at j1
    show WS _ _ _ _ [.v (.int m), .v (.lst (nums xs)), .no, .no, .no] _
    walk_at "n"
    refine ⟨m, xs, rfl, rfl, m1, hl, ⟨⟨_, rfl⟩, ?_⟩⟩
    rw [← hcs]
    repeat walk_at "e"
    refine ⟨rfl, ?_⟩
    repeat walk_at "e"
    refine c_strI (sm_1920 smm) ?_
    refine w_addS (Nat.le_trans (show _ ≤ 300 by rw [e7]; omega) (Nat.le_of_ble_eq_true rfl)) ?_
    repeat walk_at "e"
    refine w_addS (Nat.le_trans (show _ ≤ 300 by rw [Str.length_append, e7, e3]; omega) (Nat.le_of_ble_eq_true rfl)) ?_
    repeat walk_at "e"
    refine w_neD valD_v valD_v pl_numsL pl_nilL ?_
    rw [eqD_nilL]
    refine ⟨_, rfl, nbr (fun h0 => ?_) (fun h0 => ?_)⟩
    · repeat walk_at "e"
      refine w_lc1 ?_ (by decide)
      refine i_list ?_
      repeat walk_at "e"
      refine lc_A cs D.int (fun c => .str (toString c)) (by omega) (fun x acc hx => ?_) ?_
      · refine g_name ?_
        repeat walk_at "e"
        refine c_strI (sm_1920 (sm x hx)) ?_
        exact ⟨rfl, rfl⟩
      have e : (cs.map fun c => D.str (Str.ofString (toString c))) = (sumRows cs).map D.str := by
        unfold sumRows
        rw [if_neg h0, List.map_map]
        rfl
      rw [e]
      refine ⟨sumRows cs, lstD_v, by rw [e1]; omega, ?_⟩
      refine w_addS (Nat.le_trans (show _ ≤ 4000 by rw [Str.length_append, Str.length_append, e7, e3]; omega) (Nat.le_of_ble_eq_true rfl)) ?_
      repeat walk_at "e"
      exact ⟨m, cs, rfl, rfl, ok, ⟨⟨_, rfl⟩, rfl, p⟩⟩
    · repeat walk_at "e"
      have e : [D.str "0"] = (sumRows cs).map D.str := by
        unfold sumRows
        rw [if_pos h0]
        rfl
      refine ⟨sumRows cs, by rw [← e]; exact lstD_v, by rw [e1]; omega, ?_⟩
      refine w_addS (Nat.le_trans (show _ ≤ 4000 by rw [Str.length_append, Str.length_append, e7, e3]; omega) (Nat.le_of_ble_eq_true rfl)) ?_
      repeat walk_at "e"
      exact ⟨m, cs, rfl, rfl, ok, ⟨⟨_, rfl⟩, rfl, p⟩⟩
theorem sc_law_value : FnScope ["_law_modulus", "_law_coefs", "_law_n", ".0", "_law_j"] ["_law_modulus", "_law_coefs", "_law_n"] (defScope (top 63)) := ⟨rfl, rfl, rfl, by decide +kernel, rfl, by decide +kernel, by decide +kernel⟩
theorem ok_law_value {P : Program} {w : World} {K : PySem.W.Frag} {mg : Str → Option Value} {base : Heap} (T : Tx K mg) (h_law_choose : Fn P w K mg base 1 (He.fAd K ("_law_choose", none)) ["_law_n", "_law_j"] (sp_l_bin K)) : Fn P w K mg base 2 (He.fAd K ("_law_value", none)) ["_law_modulus", "_law_coefs", "_law_n"] (sp_l_value K) := by
  obtain ⟨_, F_law_choose, b_law_choose, kp_law_choose, lk_law_choose⟩ := h_law_choose
  obtain ⟨fd, F⟩ := T.d_law_value
  refine ⟨fd, F.ok sc_law_value (lift_len ?_) (fun cdv A outer s H vs Q E hr h => ?_), F.bindsN fun _ _ _ _ _ _ us hl => (match us, hl with | [_, _, _], _ => rfl), F.kp, lk_of F⟩
  · intro ts O P X h
    exact sp_l_value_len h
  · have hu := hr.units
    refine ⟨_, (PSs.nox (pss_one (ps_ret (pe_op op_mod (pe_callTy call_int1 (by rfl) T.n_int boot_int (pa_cons (pe_callB (cr_sumK K rfl) (by rfl) T.n_sum boot_sum (pa_cons (pe_lc (own := [(".0", 3), ("_law_j", 4)]) rfl sc_law_value.nd (pi_range1 (by rfl) T.n_range (pa_cons (pe_callB (cr_lenK K) (by rfl) T.n_len boot_len (pa_cons (pv 1) pa_nil)) pa_nil)) (blkOk_by (own := [(".0", 3), ("_law_j", 4)]) (N := ["_law_modulus", "_law_coefs", "_law_n", ".0", "_law_j"]) (sc := defScope (top 63)) (by decide +kernel)) (fun _ _ _ _ _ => (pg_name (i := 4) sc_law_value.nd rfl (.inl rfl))) (fun _ _ _ _ _ => pts_nil) (fun _ _ _ _ _ => (pe_op op_mulW (pe_ix (ix_listK K) (pv 1) (pv 4) (fun _ _ => rfl)) (pe_call F_law_choose (hr.mono (by decide)) (by rfl) T.g__law_choose kp_law_choose b_law_choose .nil passL (pa_cons (pv 2) (pa_cons (pv 4) pa_nil)))))) pa_nil)) pa_nil)) (pv 0))))), enter h fun ts O P X h _ => ?_⟩
    try dsimp only [cxOf, Cx.nox, Cx.wish]
    
    obtain ⟨m, xs, n, rfl, rfl, hm, hl, hs, hn, p⟩ := h
    show WS _ _ _ _ [.v (.int m), .v (.lst (nums xs)), .v (.int n), .no, .no] _
    repeat walk_at "e"
    refine w_lc1 ?_ (by decide)
    refine i_rng1 ?_
    repeat walk_at "e"
    rw [nums_len]
    refine ⟨by omega, ?_⟩
    rw [Int.toNat_natCast]
    refine lc_R (fun i => .int (xs.getD i 0 * bin n (0 + i))) (by omega) (fun i acc hi => ?_) ?_
    · refine g_name ?_
      repeat walk_at "e"
      refine w_ixL lstD_v (atI_getD (by omega)) ?_
      repeat walk_at "e"
      refine ⟨n, i, rfl, rfl, by omega, hn, ⟨⟨_, rfl⟩, ?_⟩⟩
      refine w_mulW (mul_okP (getD_sml hs i) (bin_bd hn i (by omega)) (by omega)) ?_
      exact ⟨by rw [Nat.zero_add], rfl⟩
    have e : ((List.range xs.length).map fun i => D.int (xs.getD i 0 * bin n (0 + i))) = nums ((List.range xs.length).map fun i => xs.getD i 0 * bin n (0 + i)) := by unfold nums; rw [List.map_map]; rfl
    rw [e]
    repeat walk_at "e"
    refine c_sum lstD_v ?_
    rw [My.terms_at]
    repeat walk_at "e"
    exact ⟨rfl, p⟩
theorem sc_law_drawn : FnScope ["_law_pen_here", "_law_moduli", "_law_most", "_law_modulus", "_law_found", "_law_turn"] ["_law_pen_here", "_law_moduli", "_law_most"] (defScope (top 65)) := ⟨rfl, rfl, rfl, by decide +kernel, rfl, by decide +kernel, by decide +kernel⟩
theorem ok_law_drawn {P : Program} {w : World} {K : PySem.W.Frag} {mg : Str → Option Value} {base : Heap} (T : Tx K mg) (h_law_pick : Fn P w K mg base 2 (He.fAd K ("_law_pick", none)) ["_law_pen_here", "_law_some"] (sp_pick K)) (h_law_draw : Fn P w K mg base 1 (He.fAd K ("_law_draw", none)) ["_law_pen_here", "_law_many"] (sp_draw K)) (h_law_cut : Fn P w K mg base 1 (He.fAd K ("_law_cut", none)) ["_law_modulus", "_law_coefs"] (sp_l_trim K)) : Fn P w K mg base 3 (He.fAd K ("_law_drawn", none)) ["_law_pen_here", "_law_moduli", "_law_most"] (sp_l_drawn K) := by
  obtain ⟨_, F_law_pick, b_law_pick, kp_law_pick, lk_law_pick⟩ := h_law_pick
  obtain ⟨_, F_law_draw, b_law_draw, kp_law_draw, lk_law_draw⟩ := h_law_draw
  obtain ⟨_, F_law_cut, b_law_cut, kp_law_cut, lk_law_cut⟩ := h_law_cut
  obtain ⟨fd, F⟩ := T.d_law_drawn
  refine ⟨fd, F.ok sc_law_drawn (lift_len ?_) (fun cdv A outer s H vs Q E hr h => ?_), F.bindsN fun _ _ _ _ _ _ us hl => (match us, hl with | [_, _, _], _ => rfl), F.kp, lk_of F⟩
  · intro ts O P X h
    exact sp_l_drawn_len h
  · have hu := hr.units
    refine ⟨_, (PSs.nox (pss_cons (ps_par (i := 3) (j := 4) rfl sc_law_drawn.nd rfl rfl (by decide) rfl rfl (pa_cons (pe_call F_law_pick (hr.mono (by decide)) (by rfl) T.g__law_pick kp_law_pick b_law_pick .nil passL (pa_cons (pv 0) (pa_cons (pv 1) pa_nil))) (pa_cons (pe_lst pa_nil) pa_nil)) rfl)
    (pss_cons (ps_for PassesOwn.never rfl (pi_range1 (by rfl) T.n_range (pa_cons (pe_call F_law_draw (hr.mono (by decide)) (by rfl) T.g__law_draw kp_law_draw b_law_draw .nil passL (pa_cons (pv 0) (pa_cons (pe_op op_add (pv 2) pe_int) pa_nil))) pa_nil)) (pg_name (i := 5) sc_law_drawn.nd rfl (.inl rfl))
    (pss_one (ps_expr (pe_bm PySem.F.plainAttrs_list PySem.F.slot_list_append PySem.F.type_list_append mt_append (pv 4) (pa_cons (pe_call F_law_pick (hr.mono (by decide)) (by rfl) T.g__law_pick kp_law_pick b_law_pick .nil passL (pa_cons (pv 0) (pa_cons (pe_lst (pa_cons pe_int (pa_cons pe_int (pa_cons (pe_op op_sub (pv 3) pe_int) (pa_cons (pe_op op_fdivW (pv 3) pe_int) (pa_cons (pe_call F_law_draw (hr.mono (by decide)) (by rfl) T.g__law_draw kp_law_draw b_law_draw .nil passL (pa_cons (pv 0) (pa_cons (pv 3) pa_nil))) pa_nil)))))) pa_nil))) pa_nil)))))
    (pss_one (ps_ret (pe_tup (pa_cons (pv 3) (pa_cons (pe_call F_law_cut (hr.mono (by decide)) (by rfl) T.g__law_cut kp_law_cut b_law_cut .nil passL (pa_cons (pv 3) (pa_cons (pv 4) pa_nil))) pa_nil)))))))), enter h fun ts O P X h _ => ?_⟩
    try dsimp only [cxOf, Cx.nox, Cx.wish]
    
    obtain ⟨n, p, ms, M, rfl, rfl, hp, hn, hM, hms, hms2, hmm, k⟩ := h
    show WS _ _ _ _ [.own 0, .v (.lst (nums ms)), .v (.int (M : Nat)), .no, .no, .no] _
    refine s_seq ?_
    repeat walk_at "o"
    refine u_pick hp (by omega) (by rw [nums_len]; exact hms) (by rw [nums_len]; omega) fun p1 j w hp1 hw => ⟨_, rfl, nno, ?_⟩
    obtain ⟨m, rfl, hmem⟩ := ints_in hw
    obtain ⟨m1, m2⟩ := hmm m hmem
    repeat walk_at "o"
    refine s_seq ?_
    refine s_forE ?_
    refine i_rng1 ?_
    repeat walk_at "e"
    refine u_draw hp1 (by omega) (by omega) (by omega) fun p2 r hp2 r0 r1 => ⟨_, rfl, nno, ?_⟩
    obtain ⟨r, rfl⟩ : ∃ j : Nat, r = j := ⟨r.toNat, by omega⟩
    repeat walk_at "e"
    refine ⟨by omega, ?_⟩
    rw [Int.toNat_natCast]
    refine for_R1 (fun i ts' O' => ∃ (xs : List Int) (q : List D) (a : G.T), Pen (n + 2 + 2 * i) q ∧ O' = [.lst q, .lst (nums xs)] ∧ ts' = [.own 0, .v (.lst (nums ms)), .v (.int (M : Nat)), .v (.int m), .own 1, a] ∧ xs.length = i) ⟨[], _, _, hp2, rfl, rfl, rfl⟩ ?_ ?_
    · rintro i _ _ hi ⟨xs, q, a, hq, rfl, rfl, hl⟩
      refine g_name ?_
      repeat walk_at "e"
      refine u_draw hq (by omega) (by omega) (by omega) fun q1 d hq1 d0 d1 => ⟨_, rfl, nno, ?_⟩
      repeat walk_at "e"
      refine u_pick hq1 (by omega) (Nat.le_of_ble_eq_true rfl) (Nat.le_of_ble_eq_true rfl) fun q2 j w hq2 hw => ⟨_, rfl, nno, ?_⟩
      have hw1 : ∃ x : Int, w = .int x := by
        match j, hw with
        | 0, h => cases h; exact ⟨_, rfl⟩
        | 1, h => cases h; exact ⟨_, rfl⟩
        | 2, h => cases h; exact ⟨_, rfl⟩
        | 3, h => cases h; exact ⟨_, rfl⟩
        | 4, h => cases h; exact ⟨_, rfl⟩
        | n + 5, h => cases h
      obtain ⟨x, rfl⟩ := hw1
      repeat walk_at "e"
      refine m_append (by exact rfl) (lt_sz (by omega)) ?_
      exact ⟨xs ++ [x], q2, _, hq2.mono (by omega), by rw [← nums_app] <;> rfl, rfl, by rw [List.length_append, hl] <;> rfl⟩
    · rintro _ _ ⟨xs, q, a, hq, rfl, rfl, hl⟩
      refine s_frz 1 rfl rfl ?_
      repeat walk_at "e"
      refine ⟨m, xs, rfl, rfl, m1, by omega, ⟨⟨_, rfl⟩, ?_⟩⟩
      repeat walk_at "e"
      exact ⟨rfl, k _ m (tr m xs) (hq.mono (by omega)) (.of m1 m2 (by omega)) (Nat.le_trans (My.tr_len m xs) (by omega)) hmem⟩
theorem sc_law_left : FnScope ["_law_modulus", "_law_coefs", "_law_row", "_law_length", "_law_some", ".0", "_law_i"] ["_law_modulus", "_law_coefs", "_law_row", "_law_length"] (defScope (top 64)) := ⟨rfl, rfl, rfl, by decide +kernel, rfl, by decide +kernel, by decide +kernel⟩
theorem ok_law_left {P : Program} {w : World} {K : PySem.W.Frag} {mg : Str → Option Value} {base : Heap} (T : Tx K mg) (h_law_choose : Fn P w K mg base 1 (He.fAd K ("_law_choose", none)) ["_law_n", "_law_j"] (sp_l_bin K)) : Fn P w K mg base 2 (He.fAd K ("_law_left", none)) ["_law_modulus", "_law_coefs", "_law_row", "_law_length"] (sp_l_left K) := by
  obtain ⟨_, F_law_choose, b_law_choose, kp_law_choose, lk_law_choose⟩ := h_law_choose
  obtain ⟨fd, F⟩ := T.d_law_left
  refine ⟨fd, F.ok sc_law_left (lift_len ?_) (fun cdv A outer s H vs Q E hr h => ?_), F.bindsN fun _ _ _ _ _ _ us hl => (match us, hl with | [_, _, _, _], _ => rfl), F.kp, lk_of F⟩
  · intro ts O P X h
    exact sp_l_left_len h
  · have hu := hr.units
    refine ⟨_, (PSs.nox (pss_cons (ps_setLc (i := 4) (own := [(".0", 5), ("_law_i", 6)]) rfl sc_law_left.nd rfl rfl (sw_true rfl rfl rfl (by decide +kernel)) (pi_range2 (by rfl) T.n_range (pa_cons pe_int (pa_cons (pe_op op_sub (pe_callB (cr_lenK K) (by rfl) T.n_len boot_len (pa_cons (pv 1) pa_nil)) (pv 2)) pa_nil))) (blkOk_by (own := [(".0", 5), ("_law_i", 6)]) (N := ["_law_modulus", "_law_coefs", "_law_row", "_law_length", "_law_some", ".0", "_law_i"]) (sc := defScope (top 64)) (by decide +kernel)) (fun _ _ _ _ _ => (pg_name (i := 6) sc_law_left.nd rfl (.inl rfl))) (fun _ _ _ _ _ => pts_nil) (fun _ _ _ _ _ => (pe_op op_mulW (pe_ix (ix_listK K) (pv 1) (pe_op op_add (pv 2) (pv 6)) (fun _ _ => rfl)) (pe_call F_law_choose (hr.mono (by decide)) (by rfl) T.g__law_choose kp_law_choose b_law_choose .nil passL (pa_cons (pv 3) (pa_cons (pv 6) pa_nil))))))
    (pss_one (ps_ret (pe_op op_mod (pe_callTy call_int1 (by rfl) T.n_int boot_int (pa_cons (pe_callB (cr_sumK K rfl) (by rfl) T.n_sum boot_sum (pa_cons (pv 4) pa_nil)) pa_nil)) (pv 0)))))), enter h fun ts O P X h _ => ?_⟩
    try dsimp only [cxOf, Cx.nox, Cx.wish]
    
    obtain ⟨m, cs, r, N, rfl, rfl, hm, hl, hs, hr, hN, p⟩ := h
    show WS _ _ _ _ [.v (.int m), .v (.lst (nums cs)), .v (.int (r : Nat)), .v (.int N), .no, .no, .no] _
    refine s_seq ?_
    repeat walk_at "e"
    refine w_lc1 ?_ (by decide)
    refine i_rng2 ?_
    repeat walk_at "e"
    rw [nums_len]
    refine ⟨by omega, ?_⟩
    rw [show (((cs.length : Nat) : Int) - (r : Nat) - 1).toNat = cs.length - (r + 1) by omega]
    refine lc_R2 (fun i => .int (cs.getD (r + i.toNat) 0 * bin N i.toNat)) (by omega) (fun i acc hi => ?_) ?_
    · rw [show (1 : Int) + (i : Int) = ((1 + i : Nat) : Int) by omega]
      refine g_name ?_
      repeat walk_at "e"
      rw [show ((r : Nat) : Int) + ((1 + i : Nat) : Int) = ((r + (1 + i) : Nat) : Int) by omega]
      refine w_ixL lstD_v (atI_getD (by omega)) ?_
      repeat walk_at "e"
      refine ⟨N, 1 + i, rfl, rfl, by omega, hN, ⟨⟨_, rfl⟩, ?_⟩⟩
      refine w_mulW (mul_okP (getD_sml hs _) (bin_bd hN (1 + i) (by omega)) (by omega)) ?_
      exact ⟨rfl, rfl⟩
    have e : ((List.range (cs.length - (r + 1))).map fun i : Nat => D.int (cs.getD (r + ((1 : Int) + i).toNat) 0 * bin N ((1 : Int) + i).toNat)) = nums ((List.range (cs.length - (r + 1))).map fun i => cs.getD (r + (1 + i)) 0 * bin N (1 + i)) := by
      unfold nums
      rw [List.map_map]
      refine List.map_congr_left fun i _ => ?_
      rw [show ((1 : Int) + (i : Int)).toNat = 1 + i by omega] <;> rfl
    rw [e]
    repeat walk_at "e"
    refine c_sum lstD_v ?_
    rw [My.rowL_terms]
    repeat walk_at "e"
    exact ⟨rfl, p⟩
end My

set_option Elab.async false
set_option linter.all false
set_option maxRecDepth 100000
set_option maxHeartbeats 4000000
namespace L2
open PySem PySem.Spec PySem.Calls PyProof.Rows
section
variable {X : Cx}
end
end L2
namespace G
open PySem PySem.Spec PyProof.Rows L2
section
variable {K : PySem.W.Frag} {W : WX} {O : List OD} {ts : List T} {P : PT'} {X : XX} {te : TE}
end
end G

set_option Elab.async false
set_option linter.all false
set_option maxRecDepth 100000
set_option maxHeartbeats 4000000
namespace L2
open PySem PySem.Spec PyProof.Rows HT
section
variable {prog : Program} {w : World} {A : Around} {E : Value → Shared → Prop} {s : Shared}
theorem adjust_rev (n : Nat) : Builtin.Slice.sliceAdjust none none (-1) (n : Int) = ((n : Int) - 1, -1) := rfl
theorem places_rev (n : Nat) : Builtin.Slice.slicePlaces ((n : Int) - 1) (-1) (-1) = n := by
  unfold Builtin.Slice.slicePlaces
  have h1 : ¬ ((-1 : Int) > 0) := by omega
  simp only [h1, if_false]
  split
  · rw [show (-(-1 : Int)) = 1 from rfl, Int.ediv_one]
    omega
  · omega
theorem applied_rev {sl : Addr} {vs : Value} {n : Nat} {Q : Int × Int × Nat → Shared → Prop} (hs : s.heap.IsSliceOf sl .none .none vs) (ps : IsPart vs (some (-1))) (h : Q ((n : Int) - 1, -1, n) s) : wpAny (model prog w) A (Builtin.Slice.sliceApplied (.ref sl) (pure (n : Int))) Q E s := by
  obtain ⟨os, hos, hcs, hds⟩ := id hs
  unfold Builtin.Slice.sliceApplied Builtin.Slice.sliceFields
  refine wpAny_bind (wpAny_bind (wpAny_field hos hds (x := .none) rfl (wpAny_bind (wpAny_field hos hds (x := .none) rfl (wpAny_bind (wpAny_field hos hds (x := vs) rfl (wpAny_pure ?_)))))))
  refine wpAny_bind (slicePart_ ps ?_)
  show wpAny _ _ (if ((-1 : Int) == 0) = true then _ else _) _ _ s
  rw [if_neg (by decide)]
  refine wpAny_bind (slicePart_none (wpAny_bind (slicePart_none (wpAny_bind (wpAny_pure ?_)))))
  show wpAny _ _ (match Builtin.Slice.sliceAdjust none none (-1) (n : Int) with | (lo, hi) => pure (lo, (-1 : Int), Builtin.Slice.slicePlaces lo hi (-1))) _ _ s
  rw [adjust_rev]
  show wpAny _ _ (pure ((n : Int) - 1, (-1 : Int), Builtin.Slice.slicePlaces ((n : Int) - 1) (-1) (-1))) _ _ s
  rw [places_rev]
  exact wpAny_pure h
theorem pick_down (xs : List Value) : ((List.range xs.length).filterMap fun (m : Nat) => xs[((xs.length : Int) - 1 + (m : Int) * (-1)).toNat]?) = xs.reverse := by
  have e : ∀ k, k ≤ xs.length → ((List.range k).filterMap fun (m : Nat) => xs[((xs.length : Int) - 1 + (m : Int) * (-1)).toNat]?) = (xs.drop (xs.length - k)).reverse := fun k => by
    induction k with
    | zero => intro _; rw [Nat.sub_zero, List.drop_length] <;> rfl
    | succ k ih =>
      intro hk
      rw [List.range_succ, List.filterMap_append, ih (by omega)]
      have hi : xs.length - (k + 1) < xs.length := by omega
      have e1 : ((xs.length : Int) - 1 + (k : Int) * (-1)).toNat = xs.length - (k + 1) := by omega
      have e2 : xs.drop (xs.length - (k + 1)) = xs[xs.length - (k + 1)] :: xs.drop (xs.length - k) := by
        rw [List.drop_eq_getElem_cons hi]
        congr 2
        omega
      rw [e2, List.reverse_cons]
      congr 1
      rw [List.filterMap_cons, e1, List.getElem?_eq_getElem hi] <;> rfl
  have := e xs.length (Nat.le_refl _)
  rw [Nat.sub_self, List.drop_zero] at this
  exact this
theorem getItem_tuple_turn {t sl : Addr} {items : Array Value} {vs : Value} {Q : Value → Shared → Prop} (ht : IsTup s.heap t items) (hs : s.heap.IsSliceOf sl .none .none vs) (ps : IsPart vs (some (-1)))
    (h : Q (.ref s.heap.objs.size) { s with heap := s.heap.push { cls := .type "tuple", data := .seq items.toList.reverse.toArray } }) (hsz : items.size ≤ sizeLine) : wpAny (model prog w) A (getItem (.ref t) (.ref sl)) Q E s := by
  have htake : sizeOk (.seq items.toList.reverse.toArray) := by
    show items.toList.reverse.toArray.size ≤ sizeLine
    rw [List.size_toArray, List.length_reverse, Array.length_toList]
    exact hsz
  obtain ⟨os, hos, hcs, hds⟩ := id hs
  have hTs : s.TypeIs (.ref sl) "slice" := ⟨os, hos, hcs⟩
  unfold getItem
  try with_reducible refine wpAny_holding ?_
  first | refine wpAny_bind (wpAny_pure ?_) | skip
  refine wpAny_bind (wpAny_sequenceKey ht.typeIs (by decide) ?_)
  refine wpAny_bind (wpAny_callSpecial?_slot (name := Str.ofString "__getitem__") ht.typeIs PyProof.Rows.slot_tuple_getitem
    (wpAny_call_entry PyProof.Rows.slot_tuple_getitem ht.typeIs entry_tuple_getitem ?_ (args_tuple_getitem _ _)))
  show wpAny _ _ (Builtin.Tuple.tupleItemsOf (.ref t) >>= _) _ _ s
  refine wpAny_bind (tupleItemsOf_ ht ?_)
  refine wpAny_bind (wpAny_typeOf hTs ?_)
  rw [if_pos (by decide)]
  refine wpAny_bind (applied_rev hs ps ?_)
  have hno : ¬ ((((items.size : Int) - 1) == 0 && (-1 : Int) == 1 && items.size == items.size) = true) := by
    intro q
    rw [Bool.and_eq_true, Bool.and_eq_true] at q
    exact absurd (eq_of_beq q.1.2) (by decide)
  show wpAny _ _ (if (((items.size : Int) - 1) == 0 && (-1 : Int) == 1 && items.size == items.size) = true then _ else _) _ _ s
  have e : ((List.range items.size).filterMap fun (m : Nat) => items[((items.size : Int) - 1 + (m : Int) * (-1)).toNat]?) = items.toList.reverse := by
    have := pick_down items.toList
    simp only [Array.length_toList, Array.getElem?_toList] at this
    exact this
  rw [if_neg hno, e]
  first
    | exact wpAny_bind (m := Builtin.Tuple.tupleExact _) (wpAny_newObj_type (wpAny_pure ⟨_, rfl, wpAny_pure h⟩) htake)
    | exact wpAny_bind (m := Builtin.Tuple.tupleExact _) (wpAny_newObj_type (wpAny_bind (wpAny_pure (wpAny_pure ⟨_, rfl, wpAny_pure h⟩))) htake)
    | exact wpAny_bind (wpAny_bind (m := Builtin.Tuple.tupleExact _) (wpAny_newObj_type (wpAny_pure (wpAny_pure ⟨_, rfl, wpAny_pure h⟩)) htake))
    | exact wpAny_bind (wpAny_bind (m := Builtin.Tuple.tupleExact _) (wpAny_newObj_type (wpAny_pure ⟨_, rfl, wpAny_pure h⟩) htake))
end
def tRevT (K : PySem.W.Frag) (te : TE) : TE := fun σ H Q => te σ H fun x H1 => ∃ a xs, x = .ref a ∧ SqT K H1 a xs ∧ ∀ p, H1 p = none → Q (.ref p) (upd H1 p (.tup xs.reverse))
section
variable {X : Cx}
theorem pe_revT {e : Expr} {te : TE} {k : Nat} {p1 p2 p3 pos : Pos} (he : PE X e te) : PE X (.Subscript e (.Slice none none (some (.UnaryOp .USub (.Constant (.int 1) k p1) p2)) p3) pos) (tRevT X.K te) := by
  refine ⟨fun pins s σ H Q I h => ?_⟩
  refine Subscript_ (thn (he.run pins s σ H _ I h) fun v s1 ⟨x, H1, I1, r1, q1⟩ => ?_)
  obtain ⟨a, xs, ex, hx, q⟩ := q1
  subst ex
  cases r1
  have hst : PO X (some (.UnaryOp .USub (.Constant (.int 1) k p1) p2)) (tPart (tUn (rU fun i => .int (-i)) (tC (.int 1)))) := po_some (pe_un un_neg pe_int)
  refine wpAny_Slice (thn (po_none.run pins s1 σ H1 (fun o H2 => o = none ∧ H2 = H1) I1 ⟨rfl, rfl⟩) fun vl s2 ⟨l, H2, I2, pl, el, e2⟩ => ?_)
  subst el e2
  refine thn (po_none.run pins s2 σ H2 (fun o H3 => o = none ∧ H3 = H2) I2 ⟨rfl, rfl⟩) fun vu s3 ⟨u, H3, I3, pu, eu, e3⟩ => ?_
  subst eu e3
  refine thn (hst.run pins s3 σ H3 (fun o H4 => o = some (-1) ∧ H4 = H3) I3 ⟨1, rfl, -1, rfl, rfl, rfl⟩) fun vs s4 ⟨o, H4, I4, ps, eo, e4⟩ => ?_
  subst eo e4
  cases pl
  cases pu
  have I5 : Inv X pins σ H4 { s4 with heap := s4.heap.push { cls := .type "slice", data := .fields #[.none, .none, vs] } } := I4.kept (t' := s4.toks) fun b ob q => Heap.get?_push_of_some _ q
  obtain ⟨its, r, ht, hz⟩ := I5.tuple hx
  have hlen := r.length
  show wpAny (model X.prog X.w) X.A (subscriptTail e (.Slice none none (some (.UnaryOp .USub (.Constant (.int 1) k p1) p2)) p3) (.ref a) (.ref s4.heap.objs.size)) (EP X pins σ Q) X.xe { s4 with heap := s4.heap.push { cls := .type "slice", data := .fields #[.none, .none, vs] } }
  refine tail_any (ops := [.ref a, .ref s4.heap.objs.size]) ht.typeIs (PyProof.Rows.slot_tuple_getitem.lookup) ?_ (by with_unfolding_all rfl)
  refine getItem_tuple_turn ht (Heap.IsSliceOf.new _ .none .none vs) ps ?_ (by rw [List.size_toArray]; omega)
  refine ⟨.ref _, _, I5.laid (t' := s4.toks) (o := .tup xs.reverse) (fun b ob q => Heap.get?_push_of_some _ q) (Nat.le_refl _) ?_, rfl, q _ (I5.hok.fresh (Nat.le_refl _))⟩
  exact ⟨by rw [List.length_reverse]; exact hz, _, r.reverse, IsTup.new _ _⟩
end
end L2
namespace G
open PySem PySem.Spec PyProof.Rows L2
section
variable {K : PySem.W.Frag} {W : WX} {O : List OD} {ts : List T} {P : PT'} {X : XX} {te : TE}
theorem w_revT (h : WE K W te O ts (fun x O1 => ∃ ds, x = .v (.tup ds) ∧ P (.v (.tup ds.reverse)) O1) X) : WE K W (tRevT K te) O ts P X := fun b A σ H Q s rs kv kx =>
  h b A σ H _ s rs (fun x v A1 O1 H1 p1 s1 n1 r1 => by
    obtain ⟨ds, rfl, k⟩ := p1
    obtain ⟨a, vs, rfl, h1, h2⟩ := tupD_at (hid_ex : Ex (Fz b A1 O1 H1) H1) r1
    refine ⟨a, vs, rfl, h1, fun p hp => ?_⟩
    obtain ⟨s2, n2, q⟩ := s1.lay hp (.tup vs.reverse)
    exact kv _ _ A1 O1 _ k s2 (n1.trans n2) ⟨_, rfl, p, _, rfl, SqT.of q, h2.reverse.ex n2.ext⟩) kx
variable {ta : TE}
theorem w_listRg1 (h : WE K W ta O ts (fun x O1 => ∃ j : Int, x = .v (.int j) ∧ RgOk 0 j ∧ P (.v (.lst (nums (rgI 0 j)))) O1) X) : WE K W (tLstRg (tRg1 ta)) O ts P X := fun b A σ H Q s rs kv kx =>
  h b A σ H _ s rs (fun x v A1 O1 H1 p1 s1 n1 r1 => by
    obtain ⟨j, rfl, ok, p⟩ := p1
    obtain ⟨_, e1, e2⟩ := r1
    cases e1
    refine ⟨j, e2, ok, fun q hq => ?_⟩
    obtain ⟨s3, n3, hz⟩ := s1.lay hq (.lst (rgV 0 j))
    exact kv _ _ A1 O1 _ p s3 (n1.trans n3) ⟨_, rfl, q, _, rfl, hz, by
      have e : rgV 0 j = (rgI 0 j).map V.int := by
        unfold rgV rgI
        rw [List.map_map]
        exact List.map_congr_left fun _ _ => rfl
      rw [e]
      exact repL_nums _⟩) kx
end
end G

set_option Elab.async false
set_option linter.all false
set_option maxRecDepth 100000
set_option maxHeartbeats 4000000
namespace G
open PySem PySem.Spec PyProof.Rows L2
end G

set_option Elab.async false
set_option linter.all false
set_option maxRecDepth 100000
set_option maxHeartbeats 4000000
namespace G
open PySem PySem.Spec PyProof.Rows L2
section
variable {X : Cx} {CX : CXT} {k : Nat} {C g : Addr} {sp : Sp} {E : L2.St → XK} {E1 : XK}
end
section
variable {K : PySem.W.Frag} {W : WX} {O : List OD} {ts : List T} {P : PT'} {X : XX} {sp : SpD} {ta tb : TE} {C : Addr}
end
end G

set_option Elab.async false
set_option linter.all false
set_option maxRecDepth 100000
set_option maxHeartbeats 4000000
namespace RZ
open PySem PySem.Spec PyProof.Rows L2
end RZ
namespace G
open PySem PySem.Spec PyProof.Rows L2
section
variable {K : PySem.W.Frag} {W : WX} {O : List OD} {ts : List T} {X : XX} {ta : TA}
end
end G

set_option Elab.async false
set_option linter.all false
set_option maxRecDepth 100000
set_option maxHeartbeats 4000000
namespace G
open PySem PySem.Spec PyProof.Rows L2
section
variable {K : PySem.W.Frag} {W : WX} {O : List OD} {ts : List T} {ta : TA}
end
end G

set_option Elab.async false
set_option linter.all false
set_option maxRecDepth 100000
set_option maxHeartbeats 4000000
namespace G
open PySem PySem.Spec PyProof.Rows L2
end G

set_option Elab.async false
set_option linter.all false
set_option maxRecDepth 100000
set_option maxHeartbeats 4000000
namespace G
open PySem PySem.Spec PyProof.Rows L2
section
variable {K : PySem.W.Frag} {W : WX} {O : List OD} {ts : List T} {P : PT'} {X : XX} {sp : SpD} {tr : TA} {ta : TE} {C : Addr}
end
end G

set_option Elab.async false
set_option linter.all false
set_option maxRecDepth 100000
set_option maxHeartbeats 4000000
namespace G
open PySem PySem.Spec PyProof.Rows L2
section
variable {X : Cx} {CX : CXT} {k : Nat} {C g : Addr} {sp : Sp} {E1 : XK}
end
end G

set_option Elab.async false
set_option linter.all false
set_option maxRecDepth 100000
set_option maxHeartbeats 4000000
namespace G
open PySem PySem.Spec PyProof.Rows L2
section
variable {K : PySem.W.Frag} {W : WX} {O : List OD} {ts : List T} {P : PB} {P' : PT'} {X : XX} {sp : SpD} {ta : TE} {C : Addr}
end
end G

set_option Elab.async false
set_option linter.all false
set_option maxRecDepth 100000
set_option maxHeartbeats 4000000
namespace G
open PySem PySem.Spec PyProof.Rows L2
section
variable {K : PySem.W.Frag} {W : WX} {O : List OD} {ts : List T} {P : PB} {X : XX} {t1 t2 : TT}
end
end G

set_option Elab.async false
set_option linter.all false
set_option maxRecDepth 100000
set_option maxHeartbeats 1000000
namespace GQ
open PySem PySem.Spec PyProof.Rows GenW L2

/-- the consumer: its list, its other things, how many items it may take, what it wants to know at each -/
structure Con where
  S : Addr
  oth : List Addr
  B : Nat
  yd : List V → Hp → Prop
def Far (X : Cx) (b : Addr) : Prop := X.s_0.heap.objs.size ≤ b ∧ b ≠ X.env.locals ∧ ∀ x c, X.env.cells.lookup x = some c → c ≠ b
section
variable {X : Cx} {C : Con} {cs ip : List (Addr × Obj)} {ys : List V} {σ : L2.St} {H : Hp} {s s' : Shared}
end

structure GE where
  nx : List V → L2.St → Hp → Prop
  rt : List V → VK
  bk : List V → L2.St → Hp → Prop := fun _ _ _ => False
  ct : List V → L2.St → Hp → Prop := fun _ _ _ => False
abbrev TG2 := Con → GE → List V → L2.St → Hp → Prop
def GE.at (D : GE) (ys : List V) : Ends := { nx := D.nx ys, rt := D.rt ys, bk := D.bk ys, ct := D.ct ys }
section
variable {X : Cx} {st : Stmt} {rest : List Stmt}
end
end GQ

set_option Elab.async false
set_option linter.all false
set_option maxRecDepth 100000
set_option maxHeartbeats 1000000
namespace GQ
open PySem PySem.Spec PyProof.Rows GenW L2

/-- arguments, heap, how many items may be taken, what is known at each item, at the end, errors -/
abbrev SpQ := List V → Hp → Nat → (List V → Hp → Prop) → (List V → Hp → Prop) → XK → Prop
end GQ

set_option Elab.async false
set_option linter.all false
set_option maxRecDepth 100000
set_option maxHeartbeats 1000000
namespace GQ
open PySem PySem.Spec PyProof.Rows GenW L2

section
variable {X : Cx} {k : Nat} {f C : Addr} {fd : FuncData} {ps : List Str} {sp : SpQ} {dvs : List V} {ds : List Value} {x m : Str} {p pos pos' apos : Pos} {o : Expr} {ta : TE}
end
end GQ

set_option Elab.async false
set_option linter.all false
set_option maxRecDepth 100000
set_option maxHeartbeats 4000000
namespace G
open PySem PySem.Spec PyProof.Rows L2 GQ

/-- a generator def's promise over data: its arguments, the items that it hands out -/
abbrev SqD := List T → List D → Prop
structure DQ where
  it : List D → Prop
  nx : List D → List T → List OD → Prop
  rt : List D → Prop
  bk : List D → List T → List OD → Prop := fun _ _ _ => False
  ct : List D → List T → List OD → Prop := fun _ _ _ => False
def KM (K : PySem.W.Frag) (b : Bs) (A : List Addr) (O : List OD) (H : Hp) (N : List D → List T → List OD → Prop) (Q : List V → L2.St → Hp → Prop) : Prop :=
  ∀ out ts ys σ A' O' H', N out ts O' → StO K b A' O' H' → Nxt b A O H A' O' H' → RepS K (Fz b A' O' H') A' ts σ → RepL K (Fz b A' O' H') out ys → Q ys σ H'
structure KQ (K : PySem.W.Frag) (b : Bs) (A : List Addr) (O : List OD) (H : Hp) (E : DQ) (C : GQ.Con) (D : GQ.GE) : Prop where
  it : ∀ out ys A' O' H', E.it out → StO K b A' O' H' → Nxt b A O H A' O' H' → RepL K (Fz b A' O' H') out ys → C.yd ys H'
  nx : KM K b A O H E.nx D.nx
  rt : ∀ out ys A' O' H', E.rt out → StO K b A' O' H' → Nxt b A O H A' O' H' → RepL K (Fz b A' O' H') out ys → D.rt ys .non H'
  bk : KM K b A O H E.bk D.bk
  ct : KM K b A O H E.ct D.ct
section
variable {K : PySem.W.Frag} {b : Bs} {A A' : List Addr} {O O' : List OD} {H H' : Hp} {E : DQ} {C : GQ.Con} {D : GQ.GE} {ts : List T} {out : List G.D} {t u : GQ.TG2}
theorem KM.nxt {N : List G.D → List T → List OD → Prop} {Q : List V → L2.St → Hp → Prop} (k : KM K b A O H N Q) (n : Nxt b A O H A' O' H') : KM K b A' O' H' N Q := fun out ts ys σ A2 O2 H2 x s m r q => k out ts ys σ A2 O2 H2 x s (n.trans m) r q
theorem KQ.nxt (k : KQ K b A O H E C D) (n : Nxt b A O H A' O' H') : KQ K b A' O' H' E C D :=
  ⟨fun out ys A2 O2 H2 x s m r => k.it out ys A2 O2 H2 x s (n.trans m) r, k.nx.nxt n, fun out ys A2 O2 H2 x s m r => k.rt out ys A2 O2 H2 x s (n.trans m) r, k.bk.nxt n, k.ct.nxt n⟩
end
section
variable {K : PySem.W.Frag} {W : WX} {O : List OD} {ts : List T} {P : PT'} {X : XX} {sp : SqD} {C : Addr} {m : Str} {ta : TE} {tr : TA} {dvs : List V} {dds : List D}
end
end G

set_option Elab.async false
set_option linter.all false
set_option maxRecDepth 100000
set_option maxHeartbeats 4000000
namespace My2
open PySem PySem.W PyProof.Rows
section
variable {pr : Program} {wo : World} {B : Around} {Er : Value → Shared → Prop} {st : Shared} {K : Frag} {a cl lo me : Addr} {base : Heap} {nsm : Str → Option Value} {oa : Obj} {da : Option Obj}
end
end My2
namespace G
open PySem PySem.Spec PyProof.Rows L2
section
variable {X : Cx} {CX : CXT} {k : Nat} {C g : Addr} {sp : Sp} {E : XK} {m : Str}
end
section
variable {K : PySem.W.Frag} {W : WX} {O : List OD} {P : PT'}
end
end G

set_option Elab.async false
set_option linter.all false
namespace G
open PySem PySem.Spec PyProof.Rows L2
end G

set_option Elab.async false
set_option linter.all false
set_option maxRecDepth 100000
namespace G
open PySem PySem.Spec PyProof.Rows L2
section
variable {K : PySem.W.Frag} {O : List OD} {P : PT'}
end
end G

set_option Elab.async false
set_option linter.all false
namespace G
open PySem PySem.Spec PyProof.Rows L2
end G

set_option Elab.async false
set_option linter.all false
set_option maxRecDepth 100000
set_option maxHeartbeats 1000000
namespace FnK
open PySem
open Sem (wp)
section
variable {prog : Program} {w : World} {A : Around} {E : Value → Shared → Prop} {h : Heap} {g : Array GenState} {d : Drawn} {t : Nat} {os : OsState} {a : Addr} {o : Obj}
end
end FnK
namespace G
open PySem PySem.Spec PyProof.Rows L2
section
variable {K : PySem.W.Frag} {O : List OD} {P : PT'}
end
end G

set_option Elab.async false
set_option linter.all false
set_option maxRecDepth 100000
set_option maxHeartbeats 4000000
namespace G
open PySem PySem.Spec PyProof.Rows L2
section
variable {P : Program} {w : World} {K : PySem.W.Frag} {mg : Str → Option Value} {base : Heap} {k : Nat} {x qual : Str} {params : Arguments} {body : List Stmt} {scope : Scope} {f : Addr} {fd : FuncData} {N ps ks : List Str} {pv : Str} {sp : SpD} {tw : Bool}
end
section
variable {X : Cx} {k n : Nat} {f : Addr} {ks : List Str} {sp : SpD} {x : Str} {kws : List Keyword} {tk : TA} {tw : Bool} {p pos : Pos}
end
section
variable {K : PySem.W.Frag} {W : WX} {O : List OD} {ts : List T} {P : PT'} {X : XX} {sp : SpD} {tk : TA} {tw : Bool} {m n : Nat}
end
end G

set_option Elab.async false
set_option linter.all false
set_option maxRecDepth 100000
set_option maxHeartbeats 4000000
namespace G
open PySem PySem.Spec PyProof.Rows L2
end G

set_option Elab.async false
set_option linter.all false
set_option maxRecDepth 100000
set_option maxHeartbeats 4000000
namespace My
open G (InR)
theorem per_great {M : Nat} {cs : List Int} (hl : cs.length ≤ 13) (t : Int) : Per M cs (27720 * M * t) := fun n => by
  have h := V_per (m := (M : Int)) (t := t) hl n
  exact Int.dvd_of_emod_eq_zero (Int.emod_eq_emod_iff_emod_sub_eq_zero.mp h)
/-- the least period divides 27,720 times the modulus -/
theorem lp_bd {M L : Nat} {cs : List Int} (hM : 1 ≤ M) (hl : cs.length ≤ 13) (h : IsLp M cs L) : L ∣ 27720 * M ∧ L ≤ 27720 * M := by
  have d := (h.2 _).mp (per_great (M := M) hl 1)
  rw [Int.mul_one, show (27720 : Int) * (M : Int) = ((27720 * M : Nat) : Int) by omega] at d
  have d2 := Int.ofNat_dvd.mp d
  exact ⟨d2, Nat.le_of_dvd (by omega) d2⟩
end My

set_option Elab.async false
set_option linter.all false
set_option maxRecDepth 100000
set_option maxHeartbeats 0
namespace My
open PySem PySem.Spec PyProof.Rows L2 G
open My (PR prodN prodN_cons prodN_nil prodN_app small great vl vl_eq pr_two pr_cop pr_nodup cop_prod great_mul)
/-- what is found of the first i primes -/
def dueS (n m i : Nat) : List (Nat × Nat) := ((PR.take i).filter fun p => decide (p ≤ m) && decide (n % p = 0)).map fun p => (p, vl p n)
theorem due_at {i : Nat} {r : Int} (h : [(2 : Int), 3, 5, 7, 11][i]? = some r) : ∃ p : Nat, r = p ∧ PR[i]? = some p := by
  match i, h with
  | 0, h => cases h; exact ⟨2, rfl, rfl⟩
  | 1, h => cases h; exact ⟨3, rfl, rfl⟩
  | 2, h => cases h; exact ⟨5, rfl, rfl⟩
  | 3, h => cases h; exact ⟨7, rfl, rfl⟩
  | 4, h => cases h; exact ⟨11, rfl, rfl⟩
  | n + 5, h => cases h
theorem due_cop {n m i p : Nat} (hp : PR[i]? = some p) : Nat.Coprime p (prodN ((dueS n m i).map fun x => x.1 ^ x.2)) := by
  refine cop_prod fun y hy => ?_
  obtain ⟨x, hx, rfl⟩ := List.mem_map.mp hy
  obtain ⟨q, hq, rfl⟩ := List.mem_map.mp hx
  have hq1 := (List.mem_filter.mp hq).1
  have hq2 : q ∈ PR := List.mem_of_mem_take hq1
  refine Nat.Coprime.pow_right _ (pr_cop (List.mem_of_getElem? hp) hq2 fun z => ?_)
  subst z
  obtain ⟨j, hj⟩ := List.mem_iff_getElem?.mp hq1
  have hj2 : j < i := by
    have := (List.getElem?_eq_some_iff.mp hj).1
    rw [List.length_take] at this
    omega
  rw [List.getElem?_take_of_lt hj2] at hj
  have hji := (List.getElem?_inj (by exact (List.getElem?_eq_some_iff.mp hj).1) pr_nodup).mp (hj.trans hp.symm)
  omega
theorem due_len (n m i : Nat) : (dueS n m i).length ≤ 5 := by
  unfold dueS
  rw [List.length_map]
  refine Nat.le_trans (List.length_filter_le _ _) ?_
  rw [List.length_take]
  exact Nat.min_le_right _ _
theorem due_end {n m l : Nat} (hn : 1 ≤ n) (hl : n = l * prodN ((dueS n m 5).map fun x => x.1 ^ x.2)) : dueS n m 5 = small n m ∧ l = great n m := by
  have e : dueS n m 5 = small n m := rfl
  refine ⟨e, ?_⟩
  rw [e] at hl
  have h2 := great_mul m hn
  have hw : 0 < prodN ((small n m).map fun x => x.1 ^ x.2) := Nat.pos_of_ne_zero fun z => by
    rw [z, Nat.mul_zero] at hl
    omega
  exact Nat.eq_of_mul_eq_mul_right hw (hl.symm.trans h2)
theorem due_step {n m i p l t l' : Nat} (hn : 1 ≤ n) (hp : PR[i]? = some p) (hl : n = l * prodN ((dueS n m i).map fun x => x.1 ^ x.2)) (e1 : l = p ^ t * l') (e2 : p ≤ m → l' % p ≠ 0) (e3 : ¬ p ≤ m → t = 0) :
    dueS n m (i + 1) = (if 0 < t then dueS n m i ++ [(p, t)] else dueS n m i) ∧ n = l' * prodN ((dueS n m (i + 1)).map fun x => x.1 ^ x.2) := by
  have hc := due_cop (n := n) (m := m) hp
  have hp2 := pr_two (List.mem_of_getElem? hp)
  have htake : PR.take (i + 1) = PR.take i ++ [p] := by
    rw [List.take_add_one, hp] <;> rfl
  have hS : dueS n m (i + 1) = dueS n m i ++ (if p ≤ m ∧ n % p = 0 then [(p, vl p n)] else []) := by
    unfold dueS
    rw [htake, List.filter_append, List.map_append]
    congr 1
    by_cases h : p ≤ m ∧ n % p = 0
    · rw [if_pos h]
      simp [h.1, h.2]
    · rw [if_neg h]
      by_cases h1 : p ≤ m
      · have h2 : ¬ n % p = 0 := fun z => h ⟨h1, z⟩
        simp [h1, h2]
      · simp [h1]
  generalize hw : prodN ((dueS n m i).map fun x => x.1 ^ x.2) = w at hl hc
  have hnw : n = p ^ t * (l' * w) := by rw [hl, e1, Nat.mul_assoc]
  by_cases hm : p ≤ m
  · have hq : (l' * w) % p ≠ 0 := fun z => e2 hm (Nat.mod_eq_zero_of_dvd (hc.dvd_of_dvd_mul_right (Nat.dvd_of_mod_eq_zero z)))
    have hv := vl_eq hp2.1 hn hnw hq
    by_cases ht : 0 < t
    · have h0 : n % p = 0 := by
        rw [hnw, show p ^ t = p * p ^ (t - 1) by rw [← Nat.pow_succ']; congr 1; omega, Nat.mul_assoc, Nat.mul_mod_right]
      rw [hS, if_pos ⟨hm, h0⟩, if_pos ht, hv]
      refine ⟨rfl, ?_⟩
      rw [List.map_append, prodN_app, List.map_cons, prodN_cons, List.map_nil, prodN_nil, Nat.mul_one, hw, hnw]
      show p ^ t * (l' * w) = l' * (w * p ^ t)
      rw [Nat.mul_comm (p ^ t), Nat.mul_assoc]
    · have ht0 : t = 0 := by omega
      subst ht0
      rw [Nat.pow_zero, Nat.one_mul] at hnw
      have h0 : ¬ (p ≤ m ∧ n % p = 0) := fun z => hq (by rw [← hnw]; exact z.2)
      rw [hS, if_neg h0, if_neg (by omega), List.append_nil]
      exact ⟨rfl, by rw [hw]; exact hnw⟩
  · have ht0 := e3 hm
    subst ht0
    rw [hS, if_neg (fun z => hm z.1), if_neg (by omega), List.append_nil]
    rw [Nat.pow_zero, Nat.one_mul] at hnw
    exact ⟨rfl, by rw [hw]; exact hnw⟩

def sp_l_parted (K : PySem.W.Frag) : SpD := fun ts O P X => ∃ (M d : Nat), ts = [.v (.int (M : Nat)), .v (.int (d : Nat))] ∧ O = [] ∧ 2 ≤ M ∧ (M : Int) ≤ 1000000000000000000000000000000 ∧ d ≤ 12 ∧ P (.v (.tup [.int (My.great M d : Nat), .lst ((My.small M d).map smD)])) []
theorem sp_l_parted_len {K : PySem.W.Frag} {ts O P X} (h : sp_l_parted K ts O P X) : ts.length = 2 := by
  obtain ⟨M, d, rfl, _⟩ := h
  rfl
def sp_l_leaves (K : PySem.W.Frag) : SpD := fun ts O P X => ∃ (m : Int) (cs : List Int) (N : Int), ts = [.v (.int m), .v (.lst (nums cs)), .v (.int N)] ∧ O = [] ∧ 2 ≤ m ∧ cs.length ≤ 13 ∧ Sml 140 cs ∧ N.natAbs + 12 < 2 ^ 230 ∧ P (.v (.lst (((List.range (cs.length - 1)).filter fun r => decide (0 < My.rowL cs r N % m)).map fun r => .int (r : Nat)))) []
theorem sp_l_leaves_len {K : PySem.W.Frag} {ts O P X} (h : sp_l_leaves K ts O P X) : ts.length = 3 := by
  obtain ⟨m, cs, N, rfl, _⟩ := h
  rfl
def sp_l_common (K : PySem.W.Frag) : SpD := fun ts O P X => ∃ (a b : Nat), ts = [.v (.int (a : Nat)), .v (.int (b : Nat))] ∧ O = [] ∧ a < 2 ^ 200 ∧ b < 2 ^ 200 ∧ P (.v (.int (Nat.gcd a b : Nat))) []
theorem sp_l_common_len {K : PySem.W.Frag} {ts O P X} (h : sp_l_common K ts O P X) : ts.length = 2 := by
  obtain ⟨a, b, rfl, _⟩ := h
  rfl
def sp_l_power (K : PySem.W.Frag) : SpD := fun ts O P X => ∃ (q e : Nat), ts = [.v (.int (q : Nat)), .v (.int (e : Nat))] ∧ O = [] ∧ 1 ≤ q ∧ q ≤ 11 ∧ e ≤ 150 ∧ P (.v (.int ((q ^ e : Nat) : Int))) []
theorem sp_l_power_len {K : PySem.W.Frag} {ts O P X} (h : sp_l_power K ts O P X) : ts.length = 2 := by
  obtain ⟨q, e, rfl, _⟩ := h
  rfl
def sp_l_isint (K : PySem.W.Frag) : SpD := fun ts O P X => ∃ (d : D), ts = [.v d] ∧ O = [] ∧ Sv d ∧ P (.v (.bl (isI d))) []
theorem sp_l_isint_len {K : PySem.W.Frag} {ts O P X} (h : sp_l_isint K ts O P X) : ts.length = 1 := by
  obtain ⟨d, rfl, _⟩ := h
  rfl
def sp_l_tri (K : PySem.W.Frag) : SpD := fun ts O P X => ∃ (cs : List Int) (e : D) (p k : Nat), ts = [.v (.lst (nums cs)), .v e, .v (.tup [.int (p : Nat), .int (k : Nat)])] ∧ O = [] ∧ PwOk p k ∧ 1 ≤ k ∧ cs.length ≤ 13 ∧ Sml 140 cs ∧ Tri e ∧ ∀ r : Bool, (r = true ↔ TriR cs (p, k) e) → P (.v (.bl r)) []
theorem sp_l_tri_len {K : PySem.W.Frag} {ts O P X} (h : sp_l_tri K ts O P X) : ts.length = 3 := by
  obtain ⟨cs, e, p, k, rfl, _⟩ := h
  rfl
def sp_l_due (K : PySem.W.Frag) : SpD := fun ts O P X => ∃ (m : Nat) (cs : List Int) (a b c d : D), ts = [.v (.int (m : Nat)), .v (.lst (nums cs)), .v (.lst [a, b, c, d])] ∧ O = [] ∧ SumOk (m : Nat) cs ∧ Fit a b c d ∧ ∀ r : Bool, (r = true ↔ Due m cs a b c d) → P (.v (.bl r)) []
theorem sp_l_due_len {K : PySem.W.Frag} {ts O P X} (h : sp_l_due K ts O P X) : ts.length = 3 := by
  obtain ⟨m, cs, a, b, c, d, rfl, _⟩ := h
  rfl
def sp_l_btri (K : PySem.W.Frag) : SpD := fun ts O P X => ∃ (n : Nat) (p : List D) (q t : Nat) (w : D) (d : Nat), ts = [.own 0, .v (.tup [.int (q : Nat), .int (t : Nat), w]), .v (.int (d : Nat))] ∧ O = [.lst p] ∧ Pen n p ∧ n < 850000 ∧ q ≤ 11 ∧ t ≤ 200 ∧ Sv w ∧ d ≤ 12 ∧ ∀ p' e, Pen (n + 3) p' → Tri e → P (.v e) [.lst p']
theorem sp_l_btri_len {K : PySem.W.Frag} {ts O P X} (h : sp_l_btri K ts O P X) : ts.length = 3 := by
  obtain ⟨n, p, q, t, w, d, rfl, _⟩ := h
  rfl
def sp_l_bent (K : PySem.W.Frag) : SpD := fun ts O P X => ∃ (n : Nat) (p : List D) (m L g : Nat) (ms : List Int) (sm : List D) (d : Nat), ts = [.own 0, .v (.int (m : Nat)), .v (.lst [.int (L : Nat), .int (g : Nat), .tup (nums ms), .tup sm]), .v (.int (d : Nat))] ∧ O = [.lst p] ∧ Pen n p ∧ n < 810000 ∧ (m : Int) ≤ 1000000000000000000000000000000 ∧ (L : Int) ≤ 27720 * 1000000000000000000000000000000 ∧ 1 ≤ g ∧ (g : Int) ≤ 1000000000000000000000000000000 ∧ ms.length = d ∧ G.InR g ms ∧ d ≤ 12 ∧ sm.length ≤ 5 ∧ (∀ e ∈ sm, ∃ (q t : Nat) (w : D), e = .tup [.int (q : Nat), .int (t : Nat), w] ∧ 2 ≤ q ∧ q ≤ 11 ∧ t ≤ 200 ∧ Sv w) ∧ ∀ p' a b c d, Pen (n + 40) p' → Fit a b c d → P (.v (.lst [a, b, c, d])) [.lst p']
theorem sp_l_bent_len {K : PySem.W.Frag} {ts O P X} (h : sp_l_bent K ts O P X) : ts.length = 4 := by
  obtain ⟨n, p, m, L, g, ms, sm, d, rfl, _⟩ := h
  rfl
def sp_l_right (K : PySem.W.Frag) : SpD := fun ts O P X => ∃ (n : Nat) (p : List D), ts = [.own 0] ∧ O = [.lst p] ∧ Pen n p ∧ n < 800000 ∧ ∀ p', Pen (n + 500) p' → P (.v (.bl true)) [.lst p']
theorem sp_l_right_len {K : PySem.W.Frag} {ts O P X} (h : sp_l_right K ts O P X) : ts.length = 1 := by
  obtain ⟨n, p, rfl, _⟩ := h
  rfl

theorem pw_far4 {q k s : Nat} (h : PwOk q k) (hs : s ≤ k + 4) : q ^ s < 2 ^ 120 := by
  have p2 := My.pr_two h.1
  have h1 : q ^ s ≤ q ^ k * q ^ 4 := by
    rw [← Nat.pow_add]
    exact Nat.pow_le_pow_right (by omega) hs
  have h3 : q ^ 4 ≤ 11 ^ 4 := Nat.pow_le_pow_left p2.2 4
  have h4 := Nat.mul_le_mul h.2 h3
  have h5 : (11 : Nat) ^ 4 = 14641 := rfl
  rw [h5] at h4
  omega
theorem pw_farN {q k s : Nat} (h : PwOk q k) (hs : s ≤ k + 4) : (((q ^ s : Nat) : Int)).natAbs + 12 < 2 ^ 230 := by
  have := pw_far4 h hs
  exact Nat.lt_of_lt_of_le (show (((q ^ s : Nat) : Int)).natAbs + 12 < 2 ^ 121 by omega) (Nat.pow_le_pow_right (by decide) (by decide))
def rowsL (cs : List Int) (M : Nat) (N : Int) : List Nat := (List.range (cs.length - 1)).filter fun r => decide (0 < My.rowL cs r N % (M : Int))
theorem rowsL_mem {cs : List Int} {M : Nat} {N : Int} {r : Nat} (hM : 1 ≤ M) : r ∈ rowsL cs M N ↔ r + 1 < cs.length ∧ ¬ (M : Int) ∣ rowL cs r N := by
  unfold rowsL
  rw [List.mem_filter, List.mem_range, decide_eq_true_iff]
  have h1 := Int.emod_nonneg (rowL cs r N) (show (M : Int) ≠ 0 by omega)
  constructor
  · rintro ⟨a, b⟩
    exact ⟨by omega, fun z => by rw [Int.emod_eq_zero_of_dvd z] at b; omega⟩
  · rintro ⟨a, b⟩
    have h2 : rowL cs r N % (M : Int) ≠ 0 := fun z => b (Int.dvd_of_emod_eq_zero z)
    exact ⟨by omega, by omega⟩
theorem rowsL_nil {cs : List Int} {M : Nat} {N : Int} (hM : 1 ≤ M) : rowsL cs M N = [] ↔ Per M cs N := by
  rw [My.per_rows]
  constructor
  · intro h r hr
    refine Classical.byContradiction fun z => ?_
    have := (rowsL_mem (cs := cs) (N := N) hM).mpr ⟨hr, z⟩
    rw [h] at this
    cases this
  · intro h
    cases e : rowsL cs M N with
    | nil => rfl
    | cons a r =>
      have := (rowsL_mem (cs := cs) (N := N) hM).mp (by rw [e]; exact List.mem_cons_self)
      exact absurd (h a this.1) this.2
theorem eqD_rows {rs : List Nat} : eqD (.lst (rs.map fun r => D.int (r : Nat))) (.lst []) = decide (rs = []) := by
  have e : (rs.map fun r => D.int (r : Nat)) = nums (rs.map fun r : Nat => (r : Int)) := by
    unfold nums
    rw [List.map_map] <;> rfl
  rw [e, eqD_nilL]
  cases rs <;> rfl
theorem pl_rows {rs : List Nat} {n : Nat} : pl (n + 1) (.lst (rs.map fun r => D.int (r : Nat))) = true := pl_lstA fun d hd => by
  obtain ⟨r, _, rfl⟩ := List.mem_map.mp hd
  exact pl_int
theorem inV_rows {x : Str} {rs : List Nat} : inV (V.str x) ((rs.map fun r => (PyData.int (r : Nat)).shown).map V.str) = true ↔ ∃ r ∈ rs, x = (PyData.int (r : Nat)).shown := by
  rw [inV_strs, List.any_eq_true]
  constructor
  · rintro ⟨y, hy, e⟩
    obtain ⟨r, hr, rfl⟩ := List.mem_map.mp hy
    exact ⟨r, hr, of_decide_eq_true e⟩
  · rintro ⟨r, hr, e⟩
    exact ⟨_, List.mem_map.mpr ⟨r, hr, rfl⟩, decide_eq_true e⟩

theorem max0 (n : Nat) : (if ((n : Nat) : Int) - 1 > 0 then ((n : Nat) : Int) - 1 else 0) = ((n - 1 : Nat) : Int) := by
  by_cases h : ((n : Nat) : Int) - 1 > 0
  · rw [if_pos h]; omega
  · rw [if_neg h]; omega
theorem showW_ex {p e t : Nat} {cs : List Int} (hp : p ∈ My.PR) (h : LpT p e cs t) : ∃ w, ShowW p e cs t w := by
  cases t with
  | zero => exact ⟨.non, .inl ⟨rfl, rfl⟩⟩
  | succ s =>
    obtain ⟨r, hr⟩ := first_row (M := p ^ e) (cs := cs) (N := ((p ^ s : Nat) : Int)) (fun z => (by have := (lpT_per hp h).mp z; omega))
    exact ⟨.int (r : Nat), .inr ⟨s, r, rfl, rfl, hr⟩⟩
theorem smsOk_of {cs : List Int} : ∀ {xs : List (Nat × Nat)} {sm : List D} {Ls : List Nat}, (∀ x ∈ xs, x.1 ∈ My.PR) → SmsR cs xs sm Ls → ∃ sm', SmsOk cs xs sm' Ls
  | [], _, _, _, ⟨_, e⟩ => ⟨[], rfl, e⟩
  | x :: xs, _, _, hp, ⟨t, w, sm, Ls, e1, e2, a, b, c⟩ => by
    obtain ⟨sm', h⟩ := smsOk_of (fun y hy => hp y (List.mem_cons_of_mem _ hy)) c
    obtain ⟨w', hw⟩ := showW_ex (hp x List.mem_cons_self) a
    exact ⟨_, t, w', sm', Ls, rfl, e2, a, hw, h⟩
theorem Sv.pl60 {ds : List D} (h : ∀ x ∈ ds, Sv x) : G.pl 60 (.lst ds) = true := pl_lstA fun d hd => (h d hd).pl.1

theorem all_c {α : Type} {Q : α → Prop} {a : α} {l : List α} (h : Q a) (k : ∀ x ∈ l, Q x) : ∀ x ∈ a :: l, Q x := fun x hx => (List.mem_cons.mp hx).elim (fun e => by rw [e]; exact h) (k x)
theorem all_n {α : Type} {Q : α → Prop} : ∀ x ∈ ([] : List α), Q x := fun x hx => by cases hx
theorem due_of {M : Nat} {cs : List Int} {L G : Nat} {ms : List Int} {sm : List D} (h : LpOk M cs L G ms sm) : Due M cs (.int (L : Nat)) (.int (G : Nat)) (.tup (nums ms)) (.tup sm) := by
  obtain ⟨_, _, e1, hmu, Ls, hs, hL⟩ := h
  subst e1
  exact ⟨ms, sm, Ls, rfl, rfl, hmu, rfl, smsR_of hs, by rw [hL]⟩
def svB (d : D) : Bool := niB d && (shB d && (pl 59 d && pl 58 d))
theorem sv_lit {d : D} (h : svB d = true) : Sv d := by
  obtain ⟨h1, h⟩ := He.ba h
  obtain ⟨h2, h3⟩ := He.ba h
  obtain ⟨p, sh, _⟩ := sv_of h2
  exact .inr ⟨h1, ⟨p, sh⟩, He.ba h3⟩
theorem svB_non : svB .non = true := by decide +kernel
theorem svB_tr : svB (.bl true) = true := by decide +kernel
theorem svB_0 : svB (.str "0") = true := by decide +kernel
theorem svB_1 : svB (.str "1") = true := by decide +kernel
theorem svB_t : svB (.tup [.int 1]) = true := by decide +kernel
theorem sv_k {n : Int} (h : n.natAbs < 2 ^ 190) : Sv (.int n) := sv_n (by unfold Sm; omega)
theorem sv_text {n : Int} (h : Sm n) : Sv (.str (toString n)) := by
  have h2 := text_len h
  have hc : ∀ c ∈ (Str.ofString (toString n)).cps.toList, c < 16 ^ 8 := fun c hc => by
    have h3 := strOk_of (toString n)
    unfold PyData.strOk at h3
    have h4 := Array.all_eq_true_iff_forall_mem.mp h3 c (Array.mem_toList_iff.mp hc)
    have := of_decide_eq_true h4
    omega
  have hl := PySem.StrLaws.reprText_len _ hc
  have h5 : 2012 ≤ sizeLine := Nat.le_of_ble_eq_true rfl
  refine .inr ⟨rfl, ⟨.str (toString n), rfl, rfl, (by show 0 ≤ 100; decide), ?_⟩, pl_int_shown 59 n, pl_int_shown 58 n⟩
  show (reprText (Str.ofString (toString n))).length ≤ sizeLine
  omega
theorem cut_tail1 (ms : List Int) : cutD (nums ms) (some 1) none = (nums ms).drop 1 := by
  cases ms with
  | nil => rfl
  | cons a r => exact cutD_drop (xs := nums (a :: r)) (n := 1) (by rw [nums_len, List.length_cons]; omega)
theorem eqD_nilT (ds : List D) : eqD (.tup ds) (.tup []) = decide (ds = []) := eqD_nil ds
theorem cut_tailD (ms : List D) : cutD ms (some 1) none = ms.drop 1 := by
  cases ms with
  | nil => rfl
  | cons a r => exact cutD_drop (xs := a :: r) (n := 1) (by rw [List.length_cons]; omega)
theorem sm_in {M : Nat} {cs : List Int} {Ls : List Nat} {sm : List D} (okl : cs.length ≤ 13) (hM : 1 ≤ M ∧ (M : Int) ≤ 1000000000000000000000000000000) (hs : SmsOk cs (My.small M (cs.length - 1)) sm Ls) : ∀ e ∈ sm, ∃ (q t : Nat) (w : D), e = .tup [.int (q : Nat), .int (t : Nat), w] ∧ 2 ≤ q ∧ q ≤ 11 ∧ t ≤ 200 ∧ Sv w := fun e he => by
  obtain ⟨i, hi, rfl⟩ := List.mem_iff_getElem.mp he
  have sl1 := hs.len.1
  obtain ⟨t, w, q1, _, ht, hw⟩ := hs.get i ((My.small M (cs.length - 1))[i]'(by omega)) (List.getElem?_eq_getElem _)
  have hx := List.getElem_mem (l := My.small M (cs.length - 1)) (n := i) (by omega)
  obtain ⟨x1', x2', x3', x4'⟩ := My.small_mem hx
  have xd := My.small_dvd (n := M) hM.1 hx
  have hpw : PwOk ((My.small M (cs.length - 1))[i]'(by omega)).1 ((My.small M (cs.length - 1))[i]'(by omega)).2 := ⟨x1', by have := Nat.le_of_dvd hM.1 xd.2; omega⟩
  have xq := My.pr_two x1'
  have te := hpw.e
  have te2 := ht.2
  rw [List.getElem?_eq_getElem hi] at q1
  refine ⟨_, t, w, Option.some.inj q1, xq.1, xq.2, by omega, ?_⟩
  rcases hw with ⟨_, rfl⟩ | ⟨s, r, _, rfl, hr⟩
  · exact sv_lit svB_non
  · exact sv_k (by have := hr.1; omega)
theorem shows_bl (b : Bool) : Shows (.bl b) (.bool b) := by cases b <;> exact ⟨rfl, rfl, (by decide +kernel : (0 : Nat) ≤ 100), (by rw [sizeLine_eq]; decide +kernel)⟩
theorem tri_3 {a b c : D} (h1 : Sv a) (h2 : Sv b) (h3 : Sv c) : Tri (.tup [a, b, c]) := .inl ⟨_, rfl, (by decide : 3 ≤ 6), all_c h1 (all_c h2 (all_c h3 all_n))⟩

theorem fit_of {M : Nat} {cs : List Int} {L G : Nat} {ms : List Int} {sm : List D} (okl : cs.length ≤ 13) (ok : SumOk (M : Nat) cs) (h : LpOk M cs L G ms sm) (hb : L ≤ 27720 * M) : Fit (.int (L : Nat)) (.int (G : Nat)) (.tup (nums ms)) (.tup sm) := by
  obtain ⟨_, _, e1, hmu, Ls, hs, hL⟩ := h
  have m2 := ok.most
  have m1 := ok.two
  have GM : G ≤ M := by
    rw [e1]
    exact Nat.le_of_dvd (by omega) ⟨_, My.great_mul (cs.length - 1) (by omega)⟩
  obtain ⟨sl1, sl2⟩ := hs.len
  have sl := My.small_len M (cs.length - 1)
  have u1 := hmu.1
  rw [List.length_drop] at u1
  refine ⟨sv_k (by omega), sv_k (by omega), .inl ⟨_, rfl, by rw [nums_len]; omega, fun x hx => ?_⟩, .inl ⟨_, rfl, by omega, fun e he => ?_⟩⟩
  · obtain ⟨v, hv, rfl⟩ := List.mem_map.mp hx
    have := hmu.2.1 v hv
    exact sv_k (by omega)
  · obtain ⟨q, t, w, rfl, q1, q2, t1, hw⟩ := sm_in okl (by omega) hs e he
    exact tri_3 (sv_k (by omega)) (sv_k (by omega)) hw

theorem trB : tr 4 [0, 1, 1] = [0, 1, 1] := by decide +kernel
theorem trC : tr 30 [0, 6, 5] = [0, 6, 5] := by decide +kernel
theorem okB : SumOk ((4 : Nat) : Int) [0, 1, 1] := by rw [← trB]; exact .of (by decide) (by decide) (by decide)
theorem lp3 {t : Nat} : LpT 2 2 [0, 1, 1] t ↔ t = 3 := by
  have p2 : (2 : Nat) ∈ My.PR := by decide
  have h3 : ∀ {t : Nat}, LpT 2 2 [0, 1, 1] t → t = 3 := fun {t} ht => by
    have t3 : t ≤ 3 := (lpT_per p2 ht).mp (perB_iff.mp (by decide +kernel))
    have t2 : ¬ t ≤ 2 := fun z => by
      have := perB_iff.mpr ((lpT_per p2 ht).mpr z)
      rw [show perB (2 ^ 2) [0, 1, 1] ((2 ^ 2 : Nat) : Int) = false from by decide +kernel] at this
      cases this
    omega
  refine ⟨h3, fun e => ?_⟩
  subst e
  obtain ⟨t, ht⟩ := lpT_exists (e := 2) p2 (cs := [0, 1, 1]) (by decide)
  have := h3 ht
  rwa [this] at ht
theorem due_tri {L a b : Nat} : Due 4 [0, 1, 1] (.int (L : Nat)) (.int ((1 : Nat) : Int)) (.tup (nums [0, 0])) (.tup [.tup [.int ((2 : Nat) : Int), .int (a : Nat), .int (b : Nat)]]) ↔ L = 8 ∧ a = 3 ∧ b = 0 := by
  unfold Due
  rw [show My.great 4 (([0, 1, 1] : List Int).length - 1) = 1 from by decide +kernel, show My.small 4 (([0, 1, 1] : List Int).length - 1) = [(2, 2)] from by decide +kernel, show gcdL 1 (([0, 1, 1] : List Int).drop 1) = 1 from by decide +kernel]
  constructor
  · rintro ⟨ms, sm, Ls, _, _, _, e1, hs, e2⟩
    injection e1 with e1
    subst e1
    obtain ⟨t, w, sm', Ls', e3, e4, ht, hw, e5, e6⟩ := hs
    injection e3 with e3 e7
    injection e3 with e3
    injection e3 with _ e3
    injection e3 with e8 e3
    injection e3 with e9 _
    injection e8 with e8
    have et := lp3.mp ht
    subst et
    subst e4 e6
    injection e2 with e2
    have e10 : My.prodN (1 / 1 :: [2 ^ 3]) = 8 := by decide +kernel
    have e11 : L = 8 := by
      have : L = My.prodN (1 / 1 :: [2 ^ 3]) := Int.ofNat_inj.mp e2
      rw [this, e10]
    refine ⟨e11, by omega, ?_⟩
    rcases hw with ⟨z, _⟩ | ⟨s, r, e12, e13, hr, hnd⟩
    · cases z
    · rw [e13] at e9
      injection e9 with e9
      have es : s = 2 := by omega
      subst es
      have hr2 : r + 1 < 3 := hr
      have : b = r := by omega
      subst this
      have hb : b = 0 ∨ b = 1 := by omega
      rcases hb with rfl | rfl
      · rfl
      · exact absurd (by decide +kernel : ((2 ^ 2 : Nat) : Int) ∣ rowL [0, 1, 1] 1 ((2 ^ 2 : Nat) : Int)) hnd
  · rintro ⟨rfl, rfl, rfl⟩
    refine ⟨[0, 0], _, [2 ^ 3], rfl, rfl, ⟨rfl, fun x hx => (by
      have : x = 0 := by simpa using hx
      omega), by decide +kernel⟩, rfl, ⟨3, .int ((0 : Nat) : Int), [], [], rfl, rfl, lp3.mpr rfl, .inr ⟨2, 0, rfl, rfl, by decide, by decide +kernel⟩, rfl, rfl⟩, by rw [show My.prodN (1 / 1 :: [2 ^ 3]) = 8 from by decide +kernel]⟩
theorem due_none {a d : D} : ¬ Due 30 [0, 6, 5] a (.int ((15 : Nat) : Int)) (.tup (nums [0, 0])) d := by
  unfold Due
  rw [show My.great 30 (([0, 6, 5] : List Int).length - 1) = 15 from by decide +kernel, show gcdL 15 (([0, 6, 5] : List Int).drop 1) = 1 from by decide +kernel]
  rintro ⟨ms, sm, Ls, _, e1, h, _⟩
  injection e1 with e1
  have := numsI e1
  subst this
  exact absurd h.2.2 (by decide +kernel)
theorem fit_tri {L G a b : Nat} (hL : L ≤ 100) (hG : G ≤ 100) (ha : a ≤ 100) (hb : b ≤ 100) : Fit (.int (L : Nat)) (.int (G : Nat)) (.tup (nums [0, 0])) (.tup [.tup [.int ((2 : Nat) : Int), .int (a : Nat), .int (b : Nat)]]) :=
  ⟨sv_k (by omega), sv_k (by omega), .inl ⟨_, rfl, by decide, fun x hx => (by
    obtain ⟨v, hv, rfl⟩ := List.mem_map.mp hx
    have : v = 0 := by simpa using hv
    exact sv_k (by omega))⟩, .inl ⟨_, rfl, (by decide : 1 ≤ 20), all_c (tri_3 (sv_k (by decide)) (sv_k (by omega)) (sv_k (by omega))) all_n⟩⟩

local macro_rules | `(tactic| walk_at "ws") => `(tactic| first
  | with_reducible refine s_set ?_
  | with_reducible refine s_if ?_
  | refine s_fldaug (by assumption) (by assumption) ?_
  | with_reducible refine s_ret ?_
  | with_reducible refine s_retN ?_
  | with_reducible refine s_drop ?_
  | with_reducible refine s_next ?_
  | with_reducible refine s_par ?_
  | with_reducible refine s_par3 ?_
  | refine s_fldN (by assumption) (by assumption) ?_
  | with_reducible refine s_asg ?_
  | refine s_raise1 ?_
  | refine s_raise2 ?_)
local macro_rules | `(tactic| walk_at "we") => `(tactic| first
  | ((with_reducible refine w_v (d := ?k2) ?k1 ?_); (case k1 => exact rfl))
  | ((with_reducible refine w_o (j := ?k2) ?k1 ?_); (case k1 => exact rfl))
  | ((guard_target = G.WE _ _ (tFld _ _ _) _ _ _ _); (refine w_fldN (by assumption) (by assumption) ?_))
  | ((guard_target = G.WE _ _ (tC (.ref _)) _ _ _ _); (refine w_ctup (by assumption) ?_))
  | with_reducible refine w_ci ?_
  | with_reducible refine w_op ?_
  | with_reducible refine w_call ?_
  | with_reducible refine w_cty ?_
  | with_reducible refine w_cb ?_
  | with_reducible refine w_cn ?_
  | with_reducible refine w_cs ?_
  | with_reducible refine w_cr ?_
  | with_reducible refine w_un ?_
  | with_reducible refine w_andV ?_
  | with_reducible refine w_orV ?_
  | with_reducible refine w_notV ?_
  | with_reducible refine w_ife ?_
  | with_reducible refine w_chain ?_
  | with_reducible refine w_tup ?_
  | with_reducible refine w_revL ?_
  | with_reducible refine w_slL ?_
  | with_reducible refine w_slT ?_
  | (guard_target = G.WE _ _ (tCall (lift _ (sp_draw _)) _ _ _) _ _ _ _; refine w_fn10 0 ?_)
  | (guard_target = G.WE _ _ (tCall (lift _ (sp_pick _)) _ _ _) _ _ _ _; refine w_fn10 0 ?_)
  | (guard_target = G.WE _ _ (tCall (lift _ (sp_w_coefs _)) _ _ _) _ _ _ _; refine w_fn10 0 ?_)
  | (guard_target = G.WE _ _ (tCall (lift _ (sp_l_drawn _)) _ _ _) _ _ _ _; refine w_fn10 0 ?_)
  | (guard_target = G.WE _ _ (tCall (lift _ (sp_l_right _)) _ _ _) _ _ _ _; refine w_fn10 0 ?_)
  | (guard_target = G.WE _ _ (tCall (lift _ (sp_l_btri _)) _ _ _) _ _ _ _; refine w_fn10 0 ?_)
  | (guard_target = G.WE _ _ (tCall (lift _ (sp_l_bent _)) _ _ _) _ _ _ _; refine w_fn10 0 ?_)
  | (guard_target = G.WE _ _ (tMeth _ _ (lift _ (sp_w_next _)) _ _ _ _) _ _ _ _; refine w_methO 0 ?_)
  | (guard_target = G.WE _ _ (tMeth _ _ (lift _ (sp_w_refuse _)) _ _ _ _) _ _ _ _; refine w_methO 0 ?_)
  | (guard_target = G.WE _ _ (tMeth _ _ (lift _ (sp_w_word _)) _ _ _ _) _ _ _ _; refine w_methO 0 ?_)
  | (guard_target = G.WE _ _ (tMeth _ _ (lift _ (sp_w_number _)) _ _ _ _) _ _ _ _; refine w_methO 0 ?_)
  | (guard_target = G.WE _ _ (tMeth _ _ (lift _ (sp_w_end _)) _ _ _ _) _ _ _ _; refine w_methO 0 ?_)
  | (guard_target = G.WE _ _ (tMake _ (lift _ (sp_w_init _)) _ _ _) _ _ _ _; refine w_makeO ?_)
  | with_reducible refine w_fn0 ?_
  | with_reducible refine w_fnS0 ?_
  | with_reducible refine w_meth0 ?_
  | with_reducible refine w_make0 ?_
  | with_reducible refine w_bmL ?_
  | with_reducible refine w_bmL0 ?_
  | with_reducible refine w_lst ?_
  | with_reducible refine w_callKX ?_
  | with_reducible refine w_makeKX ?_
  | with_reducible refine w_makeX ?_
  | with_reducible refine w_smethX ?_
  | with_reducible refine w_smethK ?_
  | with_reducible refine w_smethK0 ?_
  | with_reducible refine w_fnV ?_
  | with_reducible refine w_fnX ?_
  | with_reducible refine w_fnSX ?_
  | with_reducible refine w_methX ?_
  | with_reducible refine w_callX ?_
  | with_reducible refine w_methK ?_
  | with_reducible refine w_callK2 ?_
  | with_reducible refine w_callI ?_
  | with_reducible refine w_prop ?_
  | with_reducible refine w_dic0 ?_
  | with_reducible refine w_jcons ?_
  | with_reducible refine w_jnil ?_
  | with_reducible refine w_join ?_
  | with_reducible refine w_split ?_
  | with_reducible refine w_smeth ?_
  | with_reducible refine w_fnKr ?_)
local macro_rules | `(tactic| walk_at "wt") => `(tactic| first
  | with_reducible refine w_test ?_
  | with_reducible refine w_B ?_
  | with_reducible refine w_and ?_
  | with_reducible refine w_or ?_
  | with_reducible refine w_not ?_)
local macro_rules | `(tactic| walk_at "wa") => `(tactic| first
  | with_reducible refine w_cons ?_
  | with_reducible refine w_nil ?_
  | with_reducible refine w_star ?_)
local macro_rules | `(tactic| walk_at "wr") => `(tactic| first
  | with_reducible refine w_add ?_
  | with_reducible refine w_sub ?_
  | with_reducible refine w_lt ?_
  | with_reducible refine w_le ?_
  | with_reducible refine w_gt ?_
  | with_reducible refine w_ge ?_
  | with_reducible refine w_eqI ?_
  | with_reducible refine w_neI ?_
  | with_reducible refine w_isN ?_
  | with_reducible refine w_notN ?_
  | ((with_reducible refine w_mod ?k1 ?_); (case k1 => first | decide | omega))
  | ((with_reducible refine w_mul ?k1 ?_); (case k1 => first | exact Or.inl ⟨by decide, by decide⟩ | exact Or.inr ⟨by decide, by decide⟩ | exact Or.inl ⟨by omega, by omega⟩ | exact Or.inr ⟨by omega, by omega⟩))
  | ((with_reducible refine w_pow ?k1 ?_); (case k1 => first | exact ⟨by decide, by decide, by decide⟩ | exact ⟨by omega, by omega, by omega⟩))
  | ((with_reducible refine w_fdivW ?k1 ?_); (case k1 => exact divW_ok (by first | decide | omega) (by first | decide | omega)))
  | ((with_reducible refine w_mulW ?k1 ?_); (case k1 => exact mulW_ok ⟨by omega, by omega⟩ ⟨by omega, by omega⟩))
  | ((guard_target = G.WR _ (rIxT _) _ _ _ _); (refine w_ixT (by first | exact atI_0 | exact atI_1 | exact atI_2 | exact atI_3 | exact atI_4 | exact atI_5 | exact atI_6 | assumption) ?_))
  | ((guard_target = G.WR _ (rIxL _) _ _ _ _); (refine w_ixL (by first | exact lstD_v | exact lstD_o rfl) (by first | exact atI_0 | exact atI_1 | exact atI_2 | exact atI_3 | exact atI_4 | exact atI_5 | exact atI_6 | assumption) ?_)))
local macro_rules | `(tactic| walk_at "wc") => `(tactic| first
  | with_reducible refine c_int ?_
  | with_reducible refine c_intB ?_
  | with_reducible refine c_abs ?_
  | ((guard_target = G.WC _ (G.rLen _) _ _ _); (refine c_lenL (by first | exact lstD_v | exact lstD_o rfl) ?_))
  | with_reducible refine c_lenT ?_
  | ((guard_target = G.WC _ (G.rListOf _) _ _ _); (refine c_listL (by first | exact lstD_v | exact lstD_o rfl) ?_))
  | with_reducible refine c_listT ?_
  | ((guard_target = G.WC _ (G.rTupOf _) _ _ _); (refine c_tupL (by first | exact lstD_v | exact lstD_o rfl) ?_))
  | with_reducible refine c_tupT ?_)
local macro_rules | `(tactic| walk_at "e") => `(tactic| first
  | (guard_target = G.WE _ _ _ _ _ _ _; walk_at "we")
  | (guard_target = G.WS _ _ _ _ _ _; walk_at "ws")
  | (guard_target = G.WA _ _ _ _ _ _ _; walk_at "wa")
  | (guard_target = G.WR _ _ _ _ _ _; walk_at "wr")
  | (guard_target = G.WT _ _ _ _ _ _ _; walk_at "wt")
  | (guard_target = G.WC _ _ _ _ _; walk_at "wc")
  | (guard_target = G.WU _ _ _ _ _; with_reducible refine w_neg ?_)
  | (guard_target = G.WG _ _ _ _ _ _ _; first | with_reducible refine g_name ?_ | with_reducible refine g_setL ?_ | refine g_pair rfl ?_ | refine g_trip rfl ?_ | refine g_quad rfl ?_)
  | (guard_target = G.WO _ _ _ _ _ _ _; first | with_reducible refine o_none ?_ | with_reducible refine o_some ?_)
  | with_reducible refine tt_ ?_
  | with_reducible refine ff_ ?_
  | with_reducible refine ntt_ ?_
  | with_reducible refine nff_ ?_
  | ((guard_target = ((!G.isNon _) = true → _) ∧ _); (first | refine bnF rfl ?_ | refine bnT rfl ?_))
  | ((guard_target = (G.isNon _ = true → _) ∧ _); (first | refine bF rfl ?_ | refine bT rfl ?_))
  | (guard_target = Exists _; first
    | refine ⟨_, rfl, rfl, rfl, ?_⟩
    | refine ⟨_, _, _, rfl, rfl, rfl, Nat.le_of_ble_eq_true rfl, ?_⟩
    | refine ⟨_, _, _, rfl, rfl, rfl, ?_⟩
    | refine ⟨_, _, rfl, rfl, Nat.le_of_ble_eq_true rfl, ?_⟩
    | refine ⟨_, rfl, Nat.le_of_ble_eq_true rfl, Nat.le_of_ble_eq_true rfl, ?_⟩
    | refine ⟨_, _, _, _, _, rfl, rfl, rfl, rfl, rfl, ?_⟩
    | refine ⟨_, _, _, rfl, rfl, rfl, Nat.le_of_ble_eq_true rfl, ?_⟩
    | refine ⟨_, _, rfl, rfl, rfl, ?_⟩
    | refine ⟨_, _, _, rfl, ?_⟩
    | refine ⟨_, _, (by first | exact insD_v | exact insD_o rfl), rfl, ?_⟩
    | refine ⟨_, _, rfl, ?_⟩
    | refine ⟨_, rfl, rfl, ?_⟩
    | refine ⟨_, rfl, Nat.le_of_ble_eq_true rfl, ?_⟩
    | refine ⟨_, (by first | exact lstD_v | exact lstD_o rfl), ?_⟩
    | refine ⟨_, rfl, ?_⟩))
local macro_rules | `(tactic| walk_at "o") => `(tactic| first | with_reducible refine w_lstO ?_ | walk_at "e")
local macro_rules | `(tactic| walk_at "g") => `(tactic| first | walk_at "e" | with_reducible refine s_seq ?_)
local macro_rules | `(tactic| walk_at "n") => `(tactic| (with_reducible refine s_seq ?_); (repeat walk_at "e"))
theorem sc_law_parted : FnScope ["_law_modulus", "_law_most", "_law_great", "_law_pairs", "_law_prime", "_law_times"] ["_law_modulus", "_law_most"] (defScope (top 68)) := ⟨rfl, rfl, rfl, by decide +kernel, rfl, by decide +kernel, by decide +kernel⟩
theorem ok_law_parted {P : Program} {w : World} {K : PySem.W.Frag} {mg : Str → Option Value} {base : Heap} (T : Tx K mg)  : Fn P w K mg base 1 (He.fAd K ("_law_parted", none)) ["_law_modulus", "_law_most"] (sp_l_parted K) := by
  obtain ⟨fd, F⟩ := T.d_law_parted
  refine ⟨fd, F.ok sc_law_parted (lift_len ?_) (fun cdv A outer s H vs Q E hr h => ?_), F.bindsN fun _ _ _ _ _ _ us hl => (match us, hl with | [_, _], _ => rfl), F.kp, lk_of F⟩
  · intro ts O P X h
    exact sp_l_parted_len h
  · have hu := hr.units
    refine ⟨_, (PSs.nox (pss_cons (ps_par (i := 2) (j := 3) rfl sc_law_parted.nd rfl rfl (by decide) rfl rfl (pa_cons (pv 0) (pa_cons (pe_lst pa_nil) pa_nil)) rfl)
    (pss_cons (ps_for PassesOwn.never rfl (pi_listK K (pe_lst (pa_cons pe_int (pa_cons pe_int (pa_cons pe_int (pa_cons pe_int (pa_cons pe_int pa_nil))))))) (pg_name (i := 4) sc_law_parted.nd rfl (.inl rfl))
    (pss_cons (ps_set (i := 5) sc_law_parted.nd rfl (.inl rfl) pe_int)
    (pss_cons (ps_while PassesOwn.never (PW.pt (pw_and (pt_cmpR op_le (pv 4) (pv 1) (nomark _)) (pw_and1 (pt_cmpR op_eq (pe_op op_mod (pe_callTy call_int1 (by rfl) T.n_int boot_int (pa_cons (pv 2) pa_nil)) (pv 4)) pe_int (nomark _)))))
    (pss_one (ps_par (i := 2) (j := 5) rfl sc_law_parted.nd rfl rfl (by decide) rfl rfl (pa_cons (pe_op op_fdivW (pv 2) (pv 4)) (pa_cons (pe_op op_add (pv 5) pe_int) pa_nil)) rfl)))
    (pss_one (ps_if (pt_cmpR op_gt (pv 5) pe_int (nomark _))
    (pss_one (ps_expr (pe_bm PySem.F.plainAttrs_list PySem.F.slot_list_append PySem.F.type_list_append mt_append (pv 3) (pa_cons (pe_tup (pa_cons (pv 4) (pa_cons (pv 5) pa_nil))) pa_nil))))
    pss_nil)))))
    (pss_one (ps_ret (pe_tup (pa_cons (pv 2) (pa_cons (pv 3) pa_nil)))))))), enter h fun ts O P X h _ => ?_⟩
    try dsimp only [cxOf, Cx.nox, Cx.wish]
    
    obtain ⟨n, m, rfl, rfl, hn0, hn2, hm, k⟩ := h
    have hn : 1 ≤ n := by omega
    show WS _ _ _ _ [.v (.int (n : Nat)), .v (.int (m : Nat)), .no, .no, .no, .no] _
    refine s_seq ?_
    repeat walk_at "o"
    refine s_seq ?_
    refine s_forE ?_
    refine i_list ?_
    repeat walk_at "e"
    refine for_N (ns := [2, 3, 5, 7, 11]) (fun i ts' O' => ∃ (l : Nat) (a b : G.T), O' = [.lst ((dueS n m i).map smD)] ∧ ts' = [.v (.int (n : Nat)), .v (.int (m : Nat)), .v (.int (l : Nat)), .own 0, a, b] ∧ n = l * prodN ((dueS n m i).map fun x => x.1 ^ x.2)) ⟨n, _, _, rfl, rfl, by rw [show dueS n m 0 = [] from rfl]; exact (Nat.mul_one n).symm⟩ ?_ ?_
    · rintro i r _ _ hi er ⟨l, a, b, rfl, rfl, hl⟩
      obtain ⟨p, rfl, hp⟩ := due_at er
      have hpp := pr_two (List.mem_of_getElem? hp)
      have hl1 : 1 ≤ l := Nat.pos_of_ne_zero fun z => by
        rw [z, Nat.zero_mul] at hl
        omega
      have hln : l ≤ n := Nat.le_of_dvd hn ⟨_, hl⟩
      refine g_name ?_
      walk_at "n"
      refine s_cut (fun ts' O' => ∃ (t l' : Nat), O' = [.lst ((dueS n m i).map smD)] ∧ ts' = [.v (.int (n : Nat)), .v (.int (m : Nat)), .v (.int (l' : Nat)), .own 0, .v (.int (p : Nat)), .v (.int (t : Nat))] ∧ l = p ^ t * l' ∧ (p ≤ m → l' % p ≠ 0) ∧ (¬ p ≤ m → t = 0)) ?_ ?_
      · refine s_while (fun j ts' O' => ∃ (t l' : Nat), O' = [.lst ((dueS n m i).map smD)] ∧ ts' = [.v (.int (n : Nat)), .v (.int (m : Nat)), .v (.int (l' : Nat)), .own 0, .v (.int (p : Nat)), .v (.int (t : Nat))] ∧ l = p ^ t * l' ∧ l' ≤ j ∧ 1 ≤ l' ∧ (¬ p ≤ m → t = 0)) l ⟨0, l, rfl, rfl, by rw [Nat.pow_zero, Nat.one_mul], Nat.le_refl _, hl1, fun _ => rfl⟩ ?_
        rintro j _ _ ⟨t, l', rfl, rfl, e1, hj, hl0, e3⟩
        have hl' : l' ≤ l := by
          rw [e1]
          exact Nat.le_mul_of_pos_left _ (Nat.pow_pos (by omega))
        repeat walk_at "e"
        refine br (fun h0 => ?_) (fun h0 => ?_)
        · repeat walk_at "e"
          rw [← Int.natCast_emod]
          refine br (fun h1 => ?_) (fun h1 => ?_)
          · have h1 : l' % p = 0 := by omega
            have hd := Nat.dvd_of_mod_eq_zero h1
            have hlt : l' / p < l' := Nat.div_lt_self (by omega) (by omega)
            repeat walk_at "e"
            rw [← Int.natCast_ediv]
            refine ⟨l' / p, by omega, t + 1, l' / p, rfl, rfl, ?_, Nat.le_refl _, Nat.div_pos (Nat.le_of_dvd (by omega) hd) (by omega), fun z => absurd (by omega) z⟩
            rw [e1, Nat.pow_succ, Nat.mul_assoc, Nat.mul_div_cancel' hd]
          · repeat walk_at "e"
            exact ⟨t, l', rfl, rfl, e1, fun _ => by omega, e3⟩
        · repeat walk_at "e"
          exact ⟨t, l', rfl, rfl, e1, fun z => absurd (by omega) h0, e3⟩
      · rintro _ _ ⟨t, l', rfl, rfl, e1, e2, e3⟩
        have key := due_step hn hp hl e1 e2 e3
        repeat walk_at "e"
        refine br (fun h0 => ?_) (fun h0 => ?_)
        · have h1 : 0 < t := by omega
          rw [if_pos h1] at key
          repeat walk_at "e"
          refine m_append (by exact rfl) (lt_szD (by rw [List.length_map]; have := due_len n m i; omega)) ?_
          repeat walk_at "e"
          refine ⟨l', _, _, ?_, rfl, key.2⟩
          rw [key.1, List.map_append]
          exact rfl
        · have h1 : ¬ 0 < t := by omega
          rw [if_neg h1] at key
          repeat walk_at "e"
          refine ⟨l', _, _, ?_, rfl, key.2⟩
          rw [key.1]
    · rintro _ _ ⟨l, a, b, rfl, rfl, hl⟩
      obtain ⟨e1, e2⟩ := due_end hn hl
      rw [show ([(2 : Int), 3, 5, 7, 11]).length = 5 from rfl, e1, e2]
      refine s_frz 0 rfl rfl ?_
      repeat walk_at "e"
      exact ⟨rfl, k⟩
theorem sc_law_common : FnScope ["_law_one", "_law_other"] ["_law_one", "_law_other"] (defScope (top 66)) := ⟨rfl, rfl, rfl, by decide +kernel, rfl, by decide +kernel, by decide +kernel⟩
theorem ok_law_common {P : Program} {w : World} {K : PySem.W.Frag} {mg : Str → Option Value} {base : Heap} (T : Tx K mg)  : Fn P w K mg base 1 (He.fAd K ("_law_common", none)) ["_law_one", "_law_other"] (sp_l_common K) := by
  obtain ⟨fd, F⟩ := T.d_law_common
  refine ⟨fd, F.ok sc_law_common (lift_len ?_) (fun cdv A outer s H vs Q E hr h => ?_), F.bindsN fun _ _ _ _ _ _ us hl => (match us, hl with | [_, _], _ => rfl), F.kp, lk_of F⟩
  · intro ts O P X h
    exact sp_l_common_len h
  · have hu := hr.units
    refine ⟨_, (PSs.nox (pss_cons (ps_while PassesOwn.never (pt_cmpR op_gt (pv 1) pe_int (nomark _))
    (pss_one (ps_par (i := 0) (j := 1) rfl sc_law_common.nd rfl rfl (by decide) rfl rfl (pa_cons (pv 1) (pa_cons (pe_op op_mod (pe_callTy call_int1 (by rfl) T.n_int boot_int (pa_cons (pv 0) pa_nil)) (pv 1)) pa_nil)) rfl)))
    (pss_one (ps_ret (pv 0))))), enter h fun ts O P X h _ => ?_⟩
    try dsimp only [cxOf, Cx.nox, Cx.wish]
    
    obtain ⟨a, b, rfl, rfl, ha, hb, p⟩ := h
    show WS _ _ _ _ [.v (.int (a : Nat)), .v (.int (b : Nat))] _
    refine s_seq ?_
    refine s_while (fun m ts' O' => ∃ x : Nat, O' = [] ∧ ts' = [.v (.int (x : Nat)), .v (.int (m : Nat))] ∧ x < 2 ^ 200 ∧ m < 2 ^ 200 ∧ Nat.gcd x m = Nat.gcd a b) b ⟨a, rfl, rfl, ha, hb, rfl⟩ ?_
    rintro m _ _ ⟨x, rfl, rfl, hx, hmb, hg⟩
    repeat walk_at "e"
    refine br (fun h0 => ?_) (fun h0 => ?_)
    · repeat walk_at "e"
      have hlt : x % m < m := Nat.mod_lt _ (by omega)
      refine ⟨x % m, hlt, m, rfl, ?_, hmb, by omega, ?_⟩
      · rw [Int.natCast_emod]
        exact rfl
      · rw [← hg, Nat.gcd_comm m, ← Nat.gcd_rec, Nat.gcd_comm]
    · repeat walk_at "e"
      obtain rfl : m = 0 := by omega
      rw [Nat.gcd_zero_right] at hg
      rw [hg]
      exact ⟨rfl, p⟩
theorem sc_law_leaves : FnScope ["_law_modulus", "_law_coefs", "_law_length", ".0", "_law_row"] ["_law_modulus", "_law_coefs", "_law_length"] (defScope (top 69)) := ⟨rfl, rfl, rfl, by decide +kernel, rfl, by decide +kernel, by decide +kernel⟩
theorem ok_law_leaves {P : Program} {w : World} {K : PySem.W.Frag} {mg : Str → Option Value} {base : Heap} (T : Tx K mg) (h_law_left : Fn P w K mg base 2 (He.fAd K ("_law_left", none)) ["_law_modulus", "_law_coefs", "_law_row", "_law_length"] (sp_l_left K)) : Fn P w K mg base 3 (He.fAd K ("_law_leaves", none)) ["_law_modulus", "_law_coefs", "_law_length"] (sp_l_leaves K) := by
  obtain ⟨_, F_law_left, b_law_left, kp_law_left, lk_law_left⟩ := h_law_left
  obtain ⟨fd, F⟩ := T.d_law_leaves
  refine ⟨fd, F.ok sc_law_leaves (lift_len ?_) (fun cdv A outer s H vs Q E hr h => ?_), F.bindsN fun _ _ _ _ _ _ us hl => (match us, hl with | [_, _, _], _ => rfl), F.kp, lk_of F⟩
  · intro ts O P X h
    exact sp_l_leaves_len h
  · have hu := hr.units
    refine ⟨_, (PSs.nox (pss_one (ps_ret (pe_lc (own := [(".0", 3), ("_law_row", 4)]) rfl sc_law_leaves.nd (pi_range1 (by rfl) T.n_range (pa_cons (pe_op op_sub (pe_callB (cr_lenK K) (by rfl) T.n_len boot_len (pa_cons (pv 1) pa_nil)) pe_int) pa_nil)) (blkOk_by (own := [(".0", 3), ("_law_row", 4)]) (N := ["_law_modulus", "_law_coefs", "_law_length", ".0", "_law_row"]) (sc := defScope (top 69)) (by decide +kernel)) (fun _ _ _ _ _ => (pg_name (i := 4) sc_law_leaves.nd rfl (.inl rfl))) (fun _ _ _ _ _ => (pts_one (pt_cmpR op_gt (pe_call F_law_left (hr.mono (by decide)) (by rfl) T.g__law_left kp_law_left b_law_left .nil passL (pa_cons (pv 0) (pa_cons (pv 1) (pa_cons (pv 4) (pa_cons (pv 2) pa_nil))))) pe_int (nomark _)))) (fun _ _ _ _ _ => (pv 4)))))), enter h fun ts O P X h _ => ?_⟩
    try dsimp only [cxOf, Cx.nox, Cx.wish]
    
    obtain ⟨m, cs, N, rfl, rfl, hm, hl, hs, hN, p⟩ := h
    show WS _ _ _ _ [.v (.int m), .v (.lst (nums cs)), .v (.int N), .no, .no] _
    repeat walk_at "e"
    refine w_lcF1 ?_ (by decide)
    refine i_rng1 ?_
    repeat walk_at "e"
    rw [nums_len]
    refine ⟨by omega, ?_⟩
    rw [show (((cs.length : Nat) : Int) - 1).toNat = cs.length - 1 by omega]
    refine lcF_R (fun r => decide (0 < My.rowL cs r N % m)) (fun r => .int (r : Nat)) (by omega) (fun r acc hr => ?_) ?_
    · refine g_name ?_
      repeat walk_at "e"
      refine ⟨m, cs, r, N, rfl, rfl, hm, hl, hs, by omega, hN, ⟨⟨_, rfl⟩, ?_⟩⟩
      refine w_ci ?_
      refine w_gt ?_
      refine ⟨_, rfl, rfl, rfl, fun _ => ?_⟩
      repeat walk_at "e"
      exact ⟨rfl, rfl⟩
    exact ⟨rfl, p⟩
theorem sc_law_power : FnScope ["_law_number", "_law_times", "_law_found", "_law_turn"] ["_law_number", "_law_times"] (defScope (top 70)) := ⟨rfl, rfl, rfl, by decide +kernel, rfl, by decide +kernel, by decide +kernel⟩
theorem ok_law_power {P : Program} {w : World} {K : PySem.W.Frag} {mg : Str → Option Value} {base : Heap} (T : Tx K mg)  : Fn P w K mg base 1 (He.fAd K ("_law_power", none)) ["_law_number", "_law_times"] (sp_l_power K) := by
  obtain ⟨fd, F⟩ := T.d_law_power
  refine ⟨fd, F.ok sc_law_power (lift_len ?_) (fun cdv A outer s H vs Q E hr h => ?_), F.bindsN fun _ _ _ _ _ _ us hl => (match us, hl with | [_, _], _ => rfl), F.kp, lk_of F⟩
  · intro ts O P X h
    exact sp_l_power_len h
  · have hu := hr.units
    refine ⟨_, (PSs.nox (pss_cons (ps_set (i := 2) sc_law_power.nd rfl (.inl rfl) pe_int)
    (pss_cons (ps_for PassesOwn.never rfl (pi_range1 (by rfl) T.n_range (pa_cons (pv 1) pa_nil)) (pg_name (i := 3) sc_law_power.nd rfl (.inl rfl))
    (pss_one (ps_set (i := 2) sc_law_power.nd rfl (.inl rfl) (pe_op op_mulW (pv 2) (pv 0)))))
    (pss_one (ps_ret (pv 2)))))), enter h fun ts O P X h _ => ?_⟩
    try dsimp only [cxOf, Cx.nox, Cx.wish]
    
    obtain ⟨q, e, rfl, rfl, q1, q11, he, p⟩ := h
    show WS _ _ _ _ [.v (.int (q : Nat)), .v (.int (e : Nat)), .no, .no] _
    walk_at "n"
    refine s_seq ?_
    refine s_forE ?_
    refine i_rng1 ?_
    repeat walk_at "e"
    refine ⟨by omega, ?_⟩
    rw [Int.toNat_natCast]
    refine for_R1 (n := e) (fun i ts' O' => ∃ a : G.T, O' = [] ∧ ts' = [.v (.int (q : Nat)), .v (.int (e : Nat)), .v (.int ((q ^ i : Nat) : Int)), a]) ⟨_, rfl, rfl⟩ ?_ ?_
    · rintro i _ _ hi ⟨a, rfl, rfl⟩
      refine g_name ?_
      repeat walk_at "e"
      have hb : q ^ i < 2 ^ (4 * i + 1) := by
        have h1 : q ^ i ≤ 16 ^ i := Nat.pow_le_pow_left (by omega) i
        have h2 : (16 : Nat) ^ i = 2 ^ (4 * i) := by rw [Nat.pow_mul]
        have h3 : 0 < (2 : Nat) ^ (4 * i) := Nat.pow_pos (by decide)
        rw [Nat.pow_succ]
        omega
      refine w_mulW (mul_okP (a := 4 * i + 1) (b := 4) (by rw [Int.natAbs_natCast]; exact hb) (by rw [Int.natAbs_natCast]; omega) (by omega)) ?_
      rw [← Int.natCast_mul, ← Nat.pow_succ]
      exact ⟨_, rfl, rfl⟩
    · rintro _ _ ⟨a, rfl, rfl⟩
      repeat walk_at "e"
      exact ⟨rfl, p⟩
theorem sc_law_is_int : FnScope ["_law_value_here"] ["_law_value_here"] (defScope (top 67)) := ⟨rfl, rfl, rfl, by decide +kernel, rfl, by decide +kernel, by decide +kernel⟩
theorem ok_law_is_int {P : Program} {w : World} {K : PySem.W.Frag} {mg : Str → Option Value} {base : Heap} (T : Tx K mg)  : Fn P w K mg base 1 (He.fAd K ("_law_is_int", none)) ["_law_value_here"] (sp_l_isint K) := by
  obtain ⟨fd, F⟩ := T.d_law_is_int
  refine ⟨fd, F.ok sc_law_is_int (lift_len ?_) (fun cdv A outer s H vs Q E hr h => ?_), F.bindsN fun _ _ _ _ _ _ us hl => (match us, hl with | [_], _ => rfl), F.kp, lk_of F⟩
  · intro ts O P X h
    exact sp_l_isint_len h
  · have hu := hr.units
    refine ⟨_, (PSs.nox (pss_one (ps_ret (pe_and (pe_callB (call_isiK K) (by rfl) T.n_isinstance boot_isinstance (pa_cons (pv 0) (pa_cons (pe_bltn (v := .ty "int") (by rfl) T.n_int boot_int rfl) pa_nil))) (pe_one (pe_not (pe_callB (call_isiK K) (by rfl) T.n_isinstance boot_isinstance (pa_cons (pv 0) (pa_cons (pe_bltn (v := .ty "bool") (by rfl) T.n_bool boot_bool rfl) pa_nil))))))))), enter h fun ts O P X h _ => ?_⟩
    try dsimp only [cxOf, Cx.nox, Cx.wish]
    
    obtain ⟨d, rfl, rfl, hd, p⟩ := h
    obtain ⟨t, b1, b2, ht, h1, h2, e⟩ := hd.isi (K := K)
    rw [e] at p
    show WS _ _ _ _ [.v d] _
    repeat walk_at "g"
    refine c_isi ht (.ty _) h1 ?_
    refine ⟨_, rfl, fun e => ?_, fun e => ?_⟩
    · subst e
      repeat walk_at "g"
      refine c_isi ht (.ty _) h2 ?_
      refine ⟨_, rfl, ?_⟩
      exact ⟨rfl, p⟩
    · subst e
      exact ⟨rfl, p⟩
theorem sc_law_triple_right : FnScope ["_law_coefs", "_law_triple", "_law_pair", "_law_power_here", "_law_at", "_law_rows", ".0", "_law_row"] ["_law_coefs", "_law_triple", "_law_pair"] (defScope (top 71)) := ⟨rfl, rfl, rfl, by decide +kernel, rfl, by decide +kernel, by decide +kernel⟩
theorem ok_law_triple_right {P : Program} {w : World} {K : PySem.W.Frag} {mg : Str → Option Value} {base : Heap} (T : Tx K mg) (h_law_is_int : Fn P w K mg base 1 (He.fAd K ("_law_is_int", none)) ["_law_value_here"] (sp_l_isint K)) (h_law_power : Fn P w K mg base 1 (He.fAd K ("_law_power", none)) ["_law_number", "_law_times"] (sp_l_power K)) (h_law_leaves : Fn P w K mg base 3 (He.fAd K ("_law_leaves", none)) ["_law_modulus", "_law_coefs", "_law_length"] (sp_l_leaves K)) : FnG P w K mg base 4 (He.fAd K ("_law_triple_right", none)) 3 (sp_l_tri K) := by
  obtain ⟨_, F_law_is_int, b_law_is_int, kp_law_is_int, lk_law_is_int⟩ := h_law_is_int
  obtain ⟨_, F_law_power, b_law_power, kp_law_power, lk_law_power⟩ := h_law_power
  obtain ⟨_, F_law_leaves, b_law_leaves, kp_law_leaves, lk_law_leaves⟩ := h_law_leaves
  obtain ⟨fd, F⟩ := T.d_law_triple_right
  refine fnG (ps := ["_law_coefs", "_law_triple", "_law_pair"]) F sc_law_triple_right (lift_len ?_) (F.bindsN fun _ _ _ _ _ _ us hl => (match us, hl with | [_, _, _], _ => rfl)) (fun cdv A outer s H vs Q E hgd hr h => ?_)
  · intro ts O P X h
    exact sp_l_tri_len h
  · have hu := hr.units
    refine ⟨_, (PSs.nox (pss_cons (ps_if (PW.pt (pw_or (pt_not (pt_val (pe_callB (call_isiK K) (by rfl) T.n_isinstance boot_isinstance (pa_cons (pv 1) (pa_cons (pe_bltn (v := .ty "tuple") (by rfl) T.n_tuple boot_tuple rfl) pa_nil))))) (pw_or (pt_cmpR op_ne (pe_callB (cr_lenK K) (by rfl) T.n_len boot_len (pa_cons (pv 1) pa_nil)) pe_int (nomark _)) (pw_or1 (pt_cmpR op_ne (pe_callB (call_reprG hgd hr K) (by rfl) T.n_repr boot_repr (pa_cons (pe_ix (ix_tupK K) (pv 1) pe_int (fun _ _ => rfl)) pa_nil)) (pe_callB (call_reprG hgd hr K) (by rfl) T.n_repr boot_repr (pa_cons (pe_ix (ix_tupK K) (pv 2) pe_int (fun _ _ => rfl)) pa_nil)) (nomark _))))))
    (pss_one (ps_ret pe_bl))
    pss_nil)
    (pss_cons (ps_if (pt_not (pt_val (pe_call F_law_is_int (hr.mono (by decide)) (by rfl) T.g__law_is_int kp_law_is_int b_law_is_int .nil passL (pa_cons (pe_ix (ix_tupK K) (pv 1) pe_int (fun _ _ => rfl)) pa_nil))))
    (pss_one (ps_ret pe_bl))
    pss_nil)
    (pss_cons (ps_par (i := 3) (j := 4) rfl sc_law_triple_right.nd rfl rfl (by decide) rfl rfl (pa_cons (pe_call F_law_power (hr.mono (by decide)) (by rfl) T.g__law_power kp_law_power b_law_power .nil passL (pa_cons (pe_ix (ix_tupK K) (pv 2) pe_int (fun _ _ => rfl)) (pa_cons (pe_ix (ix_tupK K) (pv 2) pe_int (fun _ _ => rfl)) pa_nil))) (pa_cons (pe_ix (ix_tupK K) (pv 1) pe_int (fun _ _ => rfl)) pa_nil)) rfl)
    (pss_cons (ps_if (PW.pt (pw_or (pt_not (pt_chain op_le op_le pe_int (pv 4) (pe_op op_add (pe_ix (ix_tupK K) (pv 2) pe_int (fun _ _ => rfl)) pe_int))) (pw_or1 (pt_cmpR (op_neDK K hu) (pe_call F_law_leaves (hr.mono (by decide)) (by rfl) T.g__law_leaves kp_law_leaves b_law_leaves .nil passL (pa_cons (pv 3) (pa_cons (pv 0) (pa_cons (pe_call F_law_power (hr.mono (by decide)) (by rfl) T.g__law_power kp_law_power b_law_power .nil passL (pa_cons (pe_ix (ix_tupK K) (pv 2) pe_int (fun _ _ => rfl)) (pa_cons (pv 4) pa_nil))) pa_nil)))) (pe_lst pa_nil) (nomark _)))))
    (pss_one (ps_ret pe_bl))
    pss_nil)
    (pss_cons (ps_if (pt_cmpR op_eq (pv 4) pe_int (nomark _))
    (pss_one (ps_ret (pe_cmpR op_isN1 (pe_ix (ix_tupK K) (pv 1) pe_int (fun _ _ => rfl)) pe_non (nomark _))))
    pss_nil)
    (pss_cons (ps_set (i := 5) sc_law_triple_right.nd rfl (.inl rfl) (pe_call F_law_leaves (hr.mono (by decide)) (by rfl) T.g__law_leaves kp_law_leaves b_law_leaves .nil passL (pa_cons (pv 3) (pa_cons (pv 0) (pa_cons (pe_call F_law_power (hr.mono (by decide)) (by rfl) T.g__law_power kp_law_power b_law_power .nil passL (pa_cons (pe_ix (ix_tupK K) (pv 2) pe_int (fun _ _ => rfl)) (pa_cons (pe_op op_sub (pv 4) pe_int) pa_nil))) pa_nil)))))
    (pss_one (ps_ret (pe_cmpR (op_inK K) (pe_callB (call_reprG hgd hr K) (by rfl) T.n_repr boot_repr (pa_cons (pe_ix (ix_tupK K) (pv 1) pe_int (fun _ _ => rfl)) pa_nil)) (pe_lc (own := [(".0", 6), ("_law_row", 7)]) rfl sc_law_triple_right.nd (pi_listK K (pv 5)) (blkOk_by (own := [(".0", 6), ("_law_row", 7)]) (N := ["_law_coefs", "_law_triple", "_law_pair", "_law_power_here", "_law_at", "_law_rows", ".0", "_law_row"]) (sc := defScope (top 71)) (by decide +kernel)) (fun _ _ _ _ _ => (pg_name (i := 7) sc_law_triple_right.nd rfl (.inl rfl))) (fun _ _ _ _ _ => pts_nil) (fun _ _ _ _ _ => (pe_callB (call_reprG hgd hr K) (by rfl) T.n_repr boot_repr (pa_cons (pv 7) pa_nil)))) (by with_unfolding_all rfl))))))))))), enter h fun ts O P X h _ => ?_⟩
    try dsimp only [cxOf, Cx.nox, Cx.wish]
    
    obtain ⟨cs, e, q, k, rfl, rfl, hq, hk1, okl, sc, he, p⟩ := h
    have q2 := My.pr_two hq.1
    have e1 := hq.e
    have hpe : 1 ≤ q ^ k := Nat.pow_pos (by omega)
    show WS _ _ _ _ [.v (.lst (nums cs)), .v e, .v (.tup [.int (q : Nat), .int (k : Nat)]), .no, .no, .no, .no, .no] _
    refine s_seq ?_
    repeat walk_at "e"
    rcases he with ⟨ds, rfl, hds, hsv⟩ | he
    case inr =>
      obtain ⟨t, ht, hk⟩ := he.kit (K := K)
      refine c_isi ht (.ty _) hk ?_
      repeat walk_at "e"
      exact ⟨rfl, p false (iff_no fun ⟨_, _, z, _⟩ => he.ne _ z)⟩
    refine c_isi (.tup _) (.ty _) (kit_ty (r := true) (by decide +kernel)) ?_
    repeat walk_at "e"
    refine nbr (fun hl => ?_) (fun hl => ?_)
    · repeat walk_at "e"
      refine ⟨rfl, p false (iff_no fun ⟨_, _, z, _⟩ => hl ?_)⟩
      cases z
      rfl
    obtain ⟨d0, d1, d2, rfl⟩ := len3 hl
    have v0 := hsv d0 List.mem_cons_self
    have v1 := hsv d1 (List.mem_cons_of_mem _ List.mem_cons_self)
    have v2 := hsv d2 (List.mem_cons_of_mem _ (List.mem_cons_of_mem _ List.mem_cons_self))
    obtain ⟨p0, sh0⟩ := v0.show
    repeat walk_at "e"
    refine c_repr sh0 ?_
    repeat walk_at "e"
    refine c_repr (shows_int (by unfold Sm; omega)) ?_
    refine w_ne rfl rfl rfl ?_
    repeat walk_at "e"
    refine nbr (fun h0 => ?_) (fun h0 => ?_)
    · repeat walk_at "e"
      refine ⟨rfl, p false (iff_no fun ⟨_, _, z, _⟩ => h0 ?_)⟩
      injection z with z
      injection z with z _
      rw [(shown_iff sh0.py _).mpr z]
    have z0 := (shown_iff sh0.py _).mp (V.str.inj h0)
    subst z0
    repeat walk_at "e"
    try dsimp only
    refine s_seq ?_
    repeat walk_at "e"
    refine ⟨d1, rfl, rfl, v1, ⟨⟨_, rfl⟩, ?_⟩⟩
    cases hb1 : isI d1 with
    | false =>
      repeat walk_at "e"
      refine ⟨rfl, p false (iff_no fun ⟨t, w, z, _⟩ => ?_)⟩
      injection z with z
      injection z with _ z
      injection z with z _
      rw [isI_iff.mpr ⟨_, z⟩] at hb1
      cases hb1
    | true =>
    obtain ⟨n1, rfl⟩ := isI_iff.mp hb1
    repeat walk_at "e"
    try dsimp only
    refine s_seq ?_
    repeat walk_at "e"
    refine ⟨q, k, rfl, rfl, by omega, by omega, by omega, ⟨⟨_, rfl⟩, ?_⟩⟩
    repeat walk_at "e"
    try dsimp only
    refine s_seq ?_
    repeat walk_at "e"
    refine br (fun h1 => ?_) (fun h1 => ?_)
    case refine_2 =>
      repeat walk_at "e"
      refine ⟨rfl, p false (iff_no fun ⟨t, w, z, ht, _⟩ => ?_)⟩
      injection z with z
      injection z with _ z
      injection z with z _
      injection z with z
      omega
    repeat walk_at "e"
    by_cases h2 : n1 ≤ (k : Nat) + 4
    case neg =>
      rw [decide_eq_false h2]
      repeat walk_at "e"
      refine ⟨rfl, p false (iff_no fun ⟨t, w, z, ht, _⟩ => ?_)⟩
      have := ht.2
      injection z with z
      injection z with _ z
      injection z with z _
      injection z with z
      have : t ≤ k + 3 := this
      omega
    rw [decide_eq_true h2]
    obtain ⟨f, rfl⟩ : ∃ f : Nat, n1 = f := ⟨n1.toNat, by omega⟩
    repeat walk_at "e"
    refine ⟨q, f, rfl, rfl, by omega, by omega, by omega, ⟨⟨_, rfl⟩, ?_⟩⟩
    repeat walk_at "e"
    refine ⟨((q ^ k : Nat) : Int), cs, ((q ^ f : Nat) : Int), rfl, rfl, ?_, okl, sc, pw_farN hq (by omega), ⟨⟨_, rfl⟩, ?_⟩⟩
    · have : 2 ^ 1 ≤ q ^ k := Nat.le_trans (Nat.pow_le_pow_left q2.1 1) (Nat.pow_le_pow_right (by omega) hk1)
      omega
    obtain ⟨rows1, hrows1⟩ : ∃ rows1, rowsL cs (q ^ k) ((q ^ f : Nat) : Int) = rows1 := ⟨_, rfl⟩
    rw [show (List.filter (fun r => decide (0 < My.rowL cs r ((q ^ f : Nat) : Int) % ((q ^ k : Nat) : Int))) (List.range (cs.length - 1))) = rows1 from hrows1]
    repeat walk_at "e"
    refine w_neD valD_v valD_v pl_rows pl_nilL ?_
    rw [eqD_rows]
    repeat walk_at "e"
    refine nbr (fun hper => ?_) (fun hper => ?_)
    · repeat walk_at "e"
      refine ⟨rfl, p false (iff_no fun ⟨t, w, z, ht, _⟩ => ?_)⟩
      injection z with z
      injection z with _ z
      injection z with z _
      injection z with z
      have : f = t := by omega
      subst this
      exact hper (hrows1.symm.trans ((rowsL_nil hpe).mpr ((lpT_per hq.1 ht).mpr (Nat.le_refl _))))
    have hper := (rowsL_nil hpe).mp (hrows1.trans hper)
    repeat walk_at "e"
    try dsimp only
    refine s_seq ?_
    repeat walk_at "e"
    refine br (fun hf => ?_) (fun hf => ?_)
    · obtain rfl : f = 0 := by omega
      have ht := lpT_0 hq.1 okl hper
      repeat walk_at "e"
      refine ⟨rfl, p _ ?_⟩
      cases d2 with
      | non => exact iff_yes ⟨0, _, rfl, ht, .inl ⟨rfl, rfl⟩⟩
      | _ =>
        refine iff_no fun ⟨t, w, z, _, hw⟩ => ?_
        injection z with z
        injection z with _ z
        injection z with zt z
        injection z with zw _
        injection zt with zt
        rcases hw with ⟨_, hw⟩ | ⟨s', r', hw, ew, _⟩
        · rw [hw] at zw
          cases zw
        · omega
    · obtain ⟨u, rfl⟩ : ∃ u, f = u + 1 := ⟨f - 1, by omega⟩
      repeat walk_at "e"
      try dsimp only
      refine s_seq ?_
      repeat walk_at "e"
      rw [show (((u + 1 : Nat)) : Int) - 1 = (u : Nat) by omega]
      refine ⟨q, u, rfl, rfl, by omega, by omega, by omega, ⟨⟨_, rfl⟩, ?_⟩⟩
      repeat walk_at "e"
      refine ⟨((q ^ k : Nat) : Int), cs, ((q ^ u : Nat) : Int), rfl, rfl, ?_, okl, sc, pw_farN hq (by omega), ⟨⟨_, rfl⟩, ?_⟩⟩
      · have : 2 ^ 1 ≤ q ^ k := Nat.le_trans (Nat.pow_le_pow_left q2.1 1) (Nat.pow_le_pow_right (by omega) hk1)
        omega
      obtain ⟨rows, hrows⟩ : ∃ rows, rowsL cs (q ^ k) ((q ^ u : Nat) : Int) = rows := ⟨_, rfl⟩
      have hmem : ∀ r, r ∈ rows ↔ r + 1 < cs.length ∧ ¬ ((q ^ k : Nat) : Int) ∣ rowL cs r ((q ^ u : Nat) : Int) := fun r => by rw [← hrows]; exact rowsL_mem hpe
      have hlr : rows.length ≤ 13 := by
        rw [← hrows]
        have := List.length_filter_le (fun r => decide (0 < My.rowL cs r ((q ^ u : Nat) : Int) % ((q ^ k : Nat) : Int))) (List.range (cs.length - 1))
        rw [List.length_range] at this
        unfold rowsL
        omega
      rw [show (List.filter (fun r => decide (0 < My.rowL cs r ((q ^ u : Nat) : Int) % ((q ^ k : Nat) : Int))) (List.range (cs.length - 1))) = rows from hrows]
      clear hrows
      obtain ⟨p2, sh2⟩ := v2.show
      repeat walk_at "e"
      try dsimp only
      repeat walk_at "e"
      refine c_repr sh2 ?_
      repeat walk_at "e"
      refine w_lc1 ?_ (by decide)
      refine i_list ?_
      repeat walk_at "e"
      refine lc_A rows (fun x => D.int (x : Nat)) (fun x => D.str (PyData.int (x : Nat)).shown) (by omega) (fun x acc hx => ?_) ?_
      · have := (hmem x).mp hx
        refine g_name ?_
        repeat walk_at "e"
        refine c_repr (shows_int (by unfold Sm; omega)) ?_
        exact ⟨rfl, rfl⟩
      rw [show (rows.map fun x => D.str (PyData.int (x : Nat)).shown) = (rows.map fun x => (PyData.int (x : Nat)).shown).map D.str by rw [List.map_map] <;> rfl]
      refine w_inSL lstD_v ?_
      refine ⟨rfl, p _ ?_⟩
      show inV (V.str p2.shown) ((rows.map fun x => (PyData.int (x : Nat)).shown).map V.str) = true ↔ _
      rw [inV_rows]
      constructor
      · rintro ⟨r, hr, hsr⟩
        obtain ⟨a, b⟩ := (hmem r).mp hr
        have e2 := (shown_iff sh2.py _).mp hsr
        exact ⟨u + 1, _, rfl, lpT_of hq.1 okl hper (row_no a b), .inr ⟨u, r, rfl, e2, a, b⟩⟩
      · rintro ⟨t, w, z, ht, hw⟩
        injection z with z
        injection z with _ z
        injection z with zt z
        injection z with zw _
        injection zt with zt
        rcases hw with ⟨hw, _⟩ | ⟨s', r', hw, ew, hr, hnd⟩
        · omega
        · have e2 : u = s' := by omega
          subst e2
          exact ⟨r', (hmem r').mpr ⟨hr, hnd⟩, (shown_iff sh2.py _).mpr (zw.trans ew)⟩
theorem sc_law_due : FnScope ["_law_modulus", "_law_coefs", "_law_parts", "_law_great", "_law_pairs", "_law_divisor", "_law_coef", "_law_length", "_law_triple", "_law_pair", ".0", "_law_one"] ["_law_modulus", "_law_coefs", "_law_parts"] (defScope (top 72)) := ⟨rfl, rfl, rfl, by decide +kernel, rfl, by decide +kernel, by decide +kernel⟩
theorem ok_law_due {P : Program} {w : World} {K : PySem.W.Frag} {mg : Str → Option Value} {base : Heap} (T : Tx K mg) (h_law_parted : Fn P w K mg base 1 (He.fAd K ("_law_parted", none)) ["_law_modulus", "_law_most"] (sp_l_parted K)) (h_law_is_int : Fn P w K mg base 1 (He.fAd K ("_law_is_int", none)) ["_law_value_here"] (sp_l_isint K)) (h_law_common : Fn P w K mg base 1 (He.fAd K ("_law_common", none)) ["_law_one", "_law_other"] (sp_l_common K)) (h_law_triple_right : FnG P w K mg base 4 (He.fAd K ("_law_triple_right", none)) 3 (sp_l_tri K)) (h_law_power : Fn P w K mg base 1 (He.fAd K ("_law_power", none)) ["_law_number", "_law_times"] (sp_l_power K)) : FnG P w K mg base 5 (He.fAd K ("_law_due", none)) 3 (sp_l_due K) := by
  obtain ⟨_, F_law_parted, b_law_parted, kp_law_parted, lk_law_parted⟩ := h_law_parted
  obtain ⟨_, F_law_is_int, b_law_is_int, kp_law_is_int, lk_law_is_int⟩ := h_law_is_int
  obtain ⟨_, F_law_common, b_law_common, kp_law_common, lk_law_common⟩ := h_law_common
  obtain ⟨F_law_triple_right, kp_law_triple_right⟩ := h_law_triple_right
  obtain ⟨_, F_law_power, b_law_power, kp_law_power, lk_law_power⟩ := h_law_power
  obtain ⟨fd, F⟩ := T.d_law_due
  refine fnG (ps := ["_law_modulus", "_law_coefs", "_law_parts"]) F sc_law_due (lift_len ?_) (F.bindsN fun _ _ _ _ _ _ us hl => (match us, hl with | [_, _, _], _ => rfl)) (fun cdv A outer s H vs Q E hgd hr h => ?_)
  · intro ts O P X h
    exact sp_l_due_len h
  · have hu := hr.units
    refine ⟨_, (PSs.nox (pss_cons (ps_asg (pe_call F_law_parted (hr.mono (by decide)) (by rfl) T.g__law_parted kp_law_parted b_law_parted .nil passL (pa_cons (pv 0) (pa_cons (pe_callB (call_max2 rfl) (by rfl) T.n_max boot_max (pa_cons pe_int (pa_cons (pe_callTy call_int1 (by rfl) T.n_int boot_int (pa_cons (pe_op op_sub (pe_callB (cr_lenK K) (by rfl) T.n_len boot_len (pa_cons (pv 1) pa_nil)) pe_int) pa_nil)) pa_nil))) pa_nil))) (pg_tupK K (n := 2) rfl (pgs_cons (pg_name (i := 3) sc_law_due.nd rfl (.inr rfl)) (pgs_cons (pg_name (i := 4) sc_law_due.nd rfl (.inl rfl)) pgs_nil))))
    (pss_cons (ps_if (PW.pt (pw_or (pt_cmpR op_ne (pe_callB (call_reprG hgd hr K) (by rfl) T.n_repr boot_repr (pa_cons (pe_ix (ix_listK K) (pv 2) pe_int (fun _ _ => rfl)) pa_nil)) (pe_callB (call_reprG hgd hr K) (by rfl) T.n_repr boot_repr (pa_cons (pv 3) pa_nil)) (nomark _)) (pw_or (pt_not (pt_val (pe_callB (call_isiK K) (by rfl) T.n_isinstance boot_isinstance (pa_cons (pe_ix (ix_listK K) (pv 2) pe_int (fun _ _ => rfl)) (pa_cons (pe_bltn (v := .ty "tuple") (by rfl) T.n_tuple boot_tuple rfl) pa_nil))))) (pw_or1 (pt_cmpR op_ne (pe_callB (cr_lenK K) (by rfl) T.n_len boot_len (pa_cons (pe_ix (ix_listK K) (pv 2) pe_int (fun _ _ => rfl)) pa_nil)) (pe_callB (cr_lenK K) (by rfl) T.n_len boot_len (pa_cons (pe_slice (sl_listK K) (pv 1) (po_some pe_int) po_none) pa_nil)) (nomark _))))))
    (pss_one (ps_ret pe_bl))
    pss_nil)
    (pss_cons (ps_if (pt_cmpR (op_neDK K hu) (pe_lc (own := [(".0", 10), ("_law_one", 11)]) rfl sc_law_due.nd (pi_tupK K (pe_ix (ix_listK K) (pv 2) pe_int (fun _ _ => rfl))) (blkOk_by (own := [(".0", 10), ("_law_one", 11)]) (N := ["_law_modulus", "_law_coefs", "_law_parts", "_law_great", "_law_pairs", "_law_divisor", "_law_coef", "_law_length", "_law_triple", "_law_pair", ".0", "_law_one"]) (sc := defScope (top 72)) (by decide +kernel)) (fun _ _ _ _ _ => (pg_name (i := 11) sc_law_due.nd rfl (.inl rfl))) (fun _ _ _ _ _ => (pts_one (PW.pt (pw_or (pt_not (pt_val (pe_call F_law_is_int (hr.mono (by decide)) (by rfl) T.g__law_is_int kp_law_is_int b_law_is_int .nil passL (pa_cons (pv 11) pa_nil)))) (pw_or1 (pt_not (pt_chain op_le op_lt pe_int (pv 11) (pv 3)))))))) (fun _ _ _ _ _ => (pv 11))) (pe_lst pa_nil) (nomark _))
    (pss_one (ps_ret pe_bl))
    pss_nil)
    (pss_cons (ps_set (i := 5) sc_law_due.nd rfl (.inl rfl) (pv 3))
    (pss_cons (ps_for PassesOwn.never rfl (pi_listK K (pe_slice (sl_listK K) (pv 1) (po_some pe_int) po_none)) (pg_name (i := 6) sc_law_due.nd rfl (.inl rfl))
    (pss_one (ps_set (i := 5) sc_law_due.nd rfl (.inl rfl) (pe_call F_law_common (hr.mono (by decide)) (by rfl) T.g__law_common kp_law_common b_law_common .nil passL (pa_cons (pv 5) (pa_cons (pv 6) pa_nil))))))
    (pss_cons (ps_if (pt_cmpR op_ne (pe_op op_mod (pe_callTy call_int1 (by rfl) T.n_int boot_int (pa_cons (pe_op op_sub (pe_callB (cr_sumK K rfl) (by rfl) T.n_sum boot_sum (pa_cons (pe_lc (own := [(".0", 10), ("_law_one", 11), ("_law_coef", 6)]) rfl sc_law_due.nd (RZ.pi_zipM (by rfl) T.n_zip (pa_cons (pe_ix (ix_listK K) (pv 2) pe_int (fun _ _ => rfl)) (pa_cons (pe_slice (sl_listK K) (pv 1) (po_some pe_int) po_none) pa_nil))) (blkOk_by (own := [(".0", 10), ("_law_one", 11), ("_law_coef", 6)]) (N := ["_law_modulus", "_law_coefs", "_law_parts", "_law_great", "_law_pairs", "_law_divisor", "_law_coef", "_law_length", "_law_triple", "_law_pair", ".0", "_law_one"]) (sc := defScope (top 72)) (by decide +kernel)) (fun _ _ _ _ _ => (pg_tupK K (n := 2) rfl (pgs_cons (pg_name (i := 11) sc_law_due.nd rfl (.inl rfl)) (pgs_cons (pg_name (i := 6) sc_law_due.nd rfl (.inl rfl)) pgs_nil)))) (fun _ _ _ _ _ => pts_nil) (fun _ _ _ _ _ => (pe_op op_mulW (pv 11) (pv 6)))) pa_nil)) (pv 5)) pa_nil)) (pv 3)) pe_int (nomark _))
    (pss_one (ps_ret pe_bl))
    pss_nil)
    (pss_cons (ps_if (PW.pt (pw_or (pt_not (pt_val (pe_callB (call_isiK K) (by rfl) T.n_isinstance boot_isinstance (pa_cons (pe_ix (ix_listK K) (pv 2) pe_int (fun _ _ => rfl)) (pa_cons (pe_bltn (v := .ty "tuple") (by rfl) T.n_tuple boot_tuple rfl) pa_nil))))) (pw_or1 (pt_cmpR op_ne (pe_callB (cr_lenK K) (by rfl) T.n_len boot_len (pa_cons (pe_ix (ix_listK K) (pv 2) pe_int (fun _ _ => rfl)) pa_nil)) (pe_callB (cr_lenK K) (by rfl) T.n_len boot_len (pa_cons (pv 4) pa_nil)) (nomark _)))))
    (pss_one (ps_ret pe_bl))
    pss_nil)
    (pss_cons (ps_set (i := 7) sc_law_due.nd rfl (.inl rfl) (pe_op op_fdivW (pv 3) (pv 5)))
    (pss_cons (ps_for PassesOwn.never rfl (RZ.pi_zipM (by rfl) T.n_zip (pa_cons (pe_ix (ix_listK K) (pv 2) pe_int (fun _ _ => rfl)) (pa_cons (pv 4) pa_nil))) (pg_tupK K (n := 2) rfl (pgs_cons (pg_name (i := 8) sc_law_due.nd rfl (.inl rfl)) (pgs_cons (pg_name (i := 9) sc_law_due.nd rfl (.inl rfl)) pgs_nil)))
    (pss_cons (ps_if (pt_not (pt_val (pe_callG F_law_triple_right hgd (hr.mono (by decide)) (by rfl) T.g__law_triple_right kp_law_triple_right passL (pa_cons (pv 1) (pa_cons (pv 8) (pa_cons (pv 9) pa_nil))))))
    (pss_one (ps_ret pe_bl))
    pss_nil)
    (pss_one (ps_set (i := 7) sc_law_due.nd rfl (.inl rfl) (pe_op op_mulW (pv 7) (pe_call F_law_power (hr.mono (by decide)) (by rfl) T.g__law_power kp_law_power b_law_power .nil passL (pa_cons (pe_ix (ix_tupK K) (pv 9) pe_int (fun _ _ => rfl)) (pa_cons (pe_ix (ix_tupK K) (pv 8) pe_int (fun _ _ => rfl)) pa_nil))))))))
    (pss_one (ps_ret (pe_cmpR op_eq (pe_callB (call_reprG hgd hr K) (by rfl) T.n_repr boot_repr (pa_cons (pe_ix (ix_listK K) (pv 2) pe_int (fun _ _ => rfl)) pa_nil)) (pe_callB (call_reprG hgd hr K) (by rfl) T.n_repr boot_repr (pa_cons (pv 7) pa_nil)) (nomark _)))))))))))))), enter h fun ts O P X h _ => ?_⟩
    try dsimp only [cxOf, Cx.nox, Cx.wish]
    
    obtain ⟨M, cs, a, b, c, d, rfl, rfl, ok, ⟨fa, fb, fc, fd⟩, p⟩ := h
    have ok1 := ok.two
    have ok2 := ok.most
    have okl := ok.len
    have sc : Sml 140 cs := ok_sml ok
    obtain ⟨G0, hG⟩ : ∃ G0, My.great M (cs.length - 1) = G0 := ⟨_, rfl⟩
    have G1 : 1 ≤ G0 := by rw [← hG]; exact My.great_pos _ (by omega)
    have GM : G0 ≤ M := by
      rw [← hG]
      exact Nat.le_of_dvd (by omega) ⟨_, My.great_mul (cs.length - 1) (by omega)⟩
    unfold Due at p
    rw [hG] at p
    obtain ⟨pa, sha⟩ := fa.show
    obtain ⟨pb, shb⟩ := fb.show
    show WS _ _ _ _ [.v (.int (M : Nat)), .v (.lst (nums cs)), .v (.lst [a, b, c, d]), .no, .no, .no, .no, .no, .no, .no, .no, .no] _
    refine s_seq ?_
    repeat walk_at "e"
    refine c_max2 ?_
    rw [nums_len, max0]
    repeat walk_at "e"
    refine ⟨M, cs.length - 1, rfl, rfl, by omega, ok2, by omega, ⟨⟨_, rfl⟩, ?_⟩⟩
    rw [hG]
    repeat walk_at "e"
    try dsimp only
    refine s_seq ?_
    repeat walk_at "e"
    refine c_repr shb ?_
    repeat walk_at "e"
    refine c_repr (shows_int (by unfold Sm; omega)) ?_
    refine w_ne rfl rfl rfl ?_
    repeat walk_at "e"
    refine nbr (fun h0 => ?_) (fun h0 => ?_)
    · repeat walk_at "e"
      refine ⟨rfl, p false (iff_no fun ⟨_, _, _, z, _⟩ => h0 ?_)⟩
      rw [(shown_iff shb.py _).mpr z]
    have z0 := (shown_iff shb.py _).mp (V.str.inj h0)
    subst z0
    repeat walk_at "e"
    rcases fc with ⟨ds, rfl, hds, hsv⟩ | fc
    case inr =>
      obtain ⟨t, ht, hk⟩ := fc.kit (K := K)
      refine c_isi ht (.ty _) hk ?_
      repeat walk_at "e"
      exact ⟨rfl, p false (iff_no fun ⟨_, _, _, _, z, _⟩ => fc.ne _ z)⟩
    refine c_isi (.tup _) (.ty _) (kit_ty (r := true) (by decide +kernel)) ?_
    repeat walk_at "e"
    rw [cut_tail cs]
    repeat walk_at "e"
    rw [nums_len, List.length_drop]
    refine nbr (fun hl => ?_) (fun hl => ?_)
    · repeat walk_at "e"
      refine ⟨rfl, p false (iff_no fun ⟨ms, _, _, _, z, hmu, _⟩ => hl ?_)⟩
      injection z with z
      rw [z, nums_len, hmu.1, List.length_drop]
    repeat walk_at "e"
    try dsimp only
    refine s_seq ?_
    repeat walk_at "e"
    refine w_lcF1 ?_ (by decide)
    refine i_tup ?_
    repeat walk_at "e"
    rw [show itD ds = itD (ds.map id) by rw [List.map_id]]
    refine lcF_A ds id (fun x => !btB 0 ((G0 : Nat) - 1) x) id (by omega) (fun x acc hx => ?_) ?_
    · have vx := hsv x hx
      dsimp only [id]
      refine g_name ?_
      repeat walk_at "e"
      refine ⟨x, rfl, rfl, vx, ⟨⟨_, rfl⟩, ?_⟩⟩
      cases hi : isI x with
      | false =>
        have hb : btB 0 ((G0 : Nat) - 1) x = false := by
          cases e : btB 0 ((G0 : Nat) - 1) x with
          | false => rfl
          | true =>
            obtain ⟨n, rfl, _⟩ := btB_iff.mp e
            cases hi
        rw [hb]
        repeat walk_at "e"
        exact ⟨rfl, rfl, fun _ => (by repeat walk_at "e"; exact ⟨rfl, rfl⟩)⟩
      | true =>
      obtain ⟨n, rfl⟩ := isI_iff.mp hi
      have hb : btB 0 ((G0 : Nat) - 1) (.int n) = (decide (0 ≤ n) && decide (n ≤ (G0 : Nat) - 1)) := rfl
      rw [hb]
      by_cases h1 : 0 ≤ n
      · by_cases h2 : n < (G0 : Int)
        · rw [decide_eq_true h1, decide_eq_true (show n ≤ (G0 : Int) - 1 by omega)]
          repeat walk_at "e"
          rw [decide_eq_true h1]
          refine ⟨fun _ => ?_, fun z => (by cases z)⟩
          repeat walk_at "e"
          rw [decide_eq_true h2]
          exact ⟨rfl, rfl, fun z => by cases z⟩
        · rw [decide_eq_true h1, decide_eq_false (show ¬ n ≤ (G0 : Int) - 1 by omega)]
          repeat walk_at "e"
          rw [decide_eq_true h1]
          refine ⟨fun _ => ?_, fun z => (by cases z)⟩
          repeat walk_at "e"
          rw [decide_eq_false h2]
          refine ⟨rfl, rfl, fun _ => ?_⟩
          repeat walk_at "e"
          exact ⟨rfl, rfl⟩
      · rw [decide_eq_false h1, Bool.false_and]
        repeat walk_at "e"
        rw [decide_eq_false h1]
        refine ⟨fun z => (by cases z), fun _ => ?_⟩
        repeat walk_at "e"
        intro _
        repeat walk_at "e"
        exact ⟨rfl, rfl⟩
    repeat walk_at "e"
    obtain ⟨os, hos⟩ : ∃ os, (ds.filter fun x => !btB 0 ((G0 : Nat) - 1) x) = os := ⟨_, rfl⟩
    rw [List.map_id, hos]
    refine w_neD valD_v valD_v (Sv.pl60 fun x hx => hsv x (by rw [← hos] at hx; exact (List.mem_filter.mp hx).1)) pl_nilL ?_
    rw [eqD_nil]
    by_cases hz : os = []
    case neg =>
      rw [decide_eq_false hz]
      repeat walk_at "e"
      refine ⟨rfl, p false (iff_no fun ⟨ms, _, _, _, z, hmu, _⟩ => hz ?_)⟩
      injection z with z
      rw [← hos, List.filter_eq_nil_iff]
      intro x hx
      rw [z] at hx
      obtain ⟨n, hn, rfl⟩ := List.mem_map.mp hx
      obtain ⟨n1, n2⟩ := hmu.2.1 n hn
      rw [btB_iff.mpr ⟨n, rfl, n1, by omega⟩]
      decide
    rw [decide_eq_true hz]
    have hall : ∀ x ∈ ds, btB 0 ((G0 : Nat) - 1) x = true := fun x hx => by
      rw [← hos, List.filter_eq_nil_iff] at hz
      have := hz x hx
      simpa using this
    obtain ⟨ms, rfl, mr⟩ : ∃ ms : List Int, ds = nums ms ∧ ∀ x ∈ ms, 0 ≤ x ∧ x < (G0 : Nat) := by
      clear hz hos hds hsv p hl
      induction ds with
      | nil => exact ⟨[], rfl, fun x hx => by cases hx⟩
      | cons x r ih =>
        obtain ⟨ms, e, hm⟩ := ih fun y hy => hall y (List.mem_cons_of_mem _ hy)
        obtain ⟨n, e2, n1, n2⟩ := btB_iff.mp (hall x List.mem_cons_self)
        refine ⟨n :: ms, by rw [e, e2] <;> rfl, fun y hy => ?_⟩
        rcases List.mem_cons.mp hy with rfl | hy
        · exact ⟨n1, by omega⟩
        · exact hm y hy
    have ml : ms.length = cs.length - 1 := by rw [nums_len] at hl; omega
    clear hos hz hall
    repeat walk_at "e"
    try dsimp only
    walk_at "n"
    try dsimp only
    refine s_seq ?_
    refine s_forE ?_
    refine i_list ?_
    repeat walk_at "e"
    rw [cut_tail cs]
    refine for_N (ns := cs.drop 1) (fun i ts' O' => ∃ x : G.T, O' = [] ∧ ts' = [.v (.int (M : Nat)), .v (.lst (nums cs)), .v (.lst [a, .int (G0 : Nat), .tup (nums ms), d]), .v (.int (G0 : Nat)), .v (.lst ((My.small M (cs.length - 1)).map smD)), .v (.int (gcdL G0 ((cs.drop 1).take i) : Nat)), x, .no, .no, .no, .no, .no]) ⟨_, rfl, rfl⟩ ?_ ?_
    · rintro i r _ _ hi er ⟨x, rfl, rfl⟩
      obtain ⟨r0, r1⟩ := ok.inr r (List.mem_of_mem_drop (List.mem_of_getElem? er))
      obtain ⟨y, rfl⟩ : ∃ y : Nat, r = y := ⟨r.toNat, by omega⟩
      refine g_name ?_
      repeat walk_at "e"
      have gle := My.gcdL_le G1 ((cs.drop 1).take i)
      refine ⟨_, y, rfl, rfl, by omega, by omega, ⟨⟨_, rfl⟩, ?_⟩⟩
      have et : (cs.drop 1).take (i + 1) = (cs.drop 1).take i ++ [(y : Int)] := by rw [List.take_succ, er] <;> rfl
      rw [et, My.gcdL_app]
      exact ⟨_, rfl, rfl⟩
    rintro _ _ ⟨x, rfl, rfl⟩
    rw [List.take_length]
    obtain ⟨g, hg⟩ : ∃ g, gcdL G0 (cs.drop 1) = g := ⟨_, rfl⟩
    have g1 : 1 ≤ g := by rw [← hg]; exact My.gcdL_pos G1 _
    have gle : g ≤ G0 := by rw [← hg]; exact My.gcdL_le G1 _
    rw [hg] at p ⊢
    repeat walk_at "e"
    try dsimp only
    refine s_seq ?_
    repeat walk_at "e"
    refine w_lcT ?_ (tgt_pair (by decide) (by decide))
    refine i_zipM ?_
    repeat walk_at "e"
    rw [cut_tail cs]
    refine lc_Z ms (cs.drop 1) D.int D.int (fun x y => .int (x * y)) (by rw [ml, List.length_drop]) (by omega) (fun x y acc hx hy => ?_) ?_
    · obtain ⟨x1, x2⟩ := mr x hx
      have y1 := sc y (List.mem_of_mem_drop hy)
      refine g_pair rfl ?_
      repeat walk_at "e"
      exact ⟨rfl, rfl⟩
    have e : List.zipWith (fun x y => D.int (x * y)) ms (cs.drop 1) = (List.zipWith (· * ·) ms (cs.drop 1)).map D.int := by rw [List.map_zipWith]
    rw [e]
    repeat walk_at "e"
    refine c_sum lstD_v ?_
    repeat walk_at "e"
    rw [show (List.zipWith (· * ·) ms (cs.drop 1)).sum = My.sumM ms (cs.drop 1) from rfl]
    refine nbr (fun hd => ?_) (fun hd => ?_)
    · repeat walk_at "e"
      refine ⟨rfl, p false (iff_no fun ⟨ms', _, _, _, z, hmu, _⟩ => hd ?_)⟩
      injection z with z
      rw [numsI z]
      exact Int.emod_eq_zero_of_dvd hmu.2.2
    have hd := Int.dvd_of_emod_eq_zero hd
    repeat walk_at "e"
    try dsimp only
    refine s_seq ?_
    repeat walk_at "e"
    rcases fd with ⟨sm, rfl, sml, smt⟩ | fd
    case inr =>
      obtain ⟨t, ht, hk⟩ := fd.kit (K := K)
      refine c_isi ht (.ty _) hk ?_
      repeat walk_at "e"
      exact ⟨rfl, p false (iff_no fun ⟨_, _, _, _, _, _, z, _⟩ => fd.ne _ z)⟩
    refine c_isi (.tup _) (.ty _) (kit_ty (r := true) (by decide +kernel)) ?_
    repeat walk_at "e"
    have sl := My.small_len M (cs.length - 1)
    rw [List.length_map]
    refine nbr (fun hl => ?_) (fun hl => ?_)
    · repeat walk_at "e"
      refine ⟨rfl, p false (iff_no fun ⟨_, sm', Ls, _, _, _, z, hs, _⟩ => hl ?_)⟩
      injection z with z
      rw [z, (SmsR.get hs).1]
    have sl1 : sm.length = (My.small M (cs.length - 1)).length := by omega
    repeat walk_at "e"
    try dsimp only
    walk_at "n"
    try dsimp only
    refine s_seq ?_
    refine s_forE ?_
    refine i_zipM ?_
    repeat walk_at "e"
    have p1 : ((G0 : Nat) : Int) / ((g : Nat) : Int) = ((My.prodN (G0 / g :: []) : Nat) : Int) := by
      rw [My.prodN_cons, My.prodN_nil, Nat.mul_one, Int.natCast_ediv]
    rw [p1]
    refine for_Z (ds := sm) (es := (My.small M (cs.length - 1)).map smD) (by rw [List.length_map, sl1]) (fun i ts' O' => O' = [] ∧ ∃ (Ls : List Nat) (x1 x2 : G.T), SmsR cs ((My.small M (cs.length - 1)).take i) (sm.take i) Ls ∧ My.prodN (G0 / g :: Ls) < 2 ^ (100 + 120 * i) ∧ ts' = [.v (.int (M : Nat)), .v (.lst (nums cs)), .v (.lst [a, .int (G0 : Nat), .tup (nums ms), .tup sm]), .v (.int (G0 : Nat)), .v (.lst ((My.small M (cs.length - 1)).map smD)), .v (.int (g : Nat)), x, .v (.int (My.prodN (G0 / g :: Ls) : Nat)), x1, x2, .no, .no]) ⟨rfl, [], _, _, ⟨rfl, rfl⟩, ?_, rfl⟩ ?_ ?_
    · rw [My.prodN_cons, My.prodN_nil, Nat.mul_one]
      have := Nat.div_le_self G0 g
      omega
    · rintro i e0 e _ _ hi hd1 he ⟨rfl, Ls, x1, x2, hsr, hbd, rfl⟩
      rw [List.getElem?_map] at he
      cases hx : (My.small M (cs.length - 1))[i]? with
      | none => rw [hx] at he; cases he
      | some y =>
        rw [hx] at he
        cases (Option.some.inj he : smD y = e)
        obtain ⟨x1', x2', x3', x4'⟩ := My.small_mem (List.mem_of_getElem? hx)
        have xd := My.small_dvd (n := M) (by omega) (List.mem_of_getElem? hx)
        have hpw : PwOk y.1 y.2 := ⟨x1', by have := Nat.le_of_dvd (by omega) xd.2; omega⟩
        have xq := My.pr_two x1'
        have te := hpw.e
        have xe1 : 1 ≤ y.2 := by
          obtain ⟨q', v1, v2⟩ := My.vl_spec xq.1 (show 1 ≤ M by omega)
          rw [x4']
          refine Nat.pos_of_ne_zero fun z => ?_
          rw [z, Nat.pow_zero, Nat.one_mul] at v1
          rw [← v1] at v2
          exact v2 x3'
        refine g_pair rfl ?_
        refine s_seq ?_
        repeat walk_at "e"
        refine ⟨cs, e0, y.1, y.2, rfl, rfl, hpw, xe1, okl, sc, smt e0 (List.mem_of_getElem? hd1), fun r hr => ⟨⟨_, rfl⟩, ?_⟩⟩
        cases r with
        | false =>
          repeat walk_at "e"
          refine ⟨rfl, p false (iff_no fun ⟨_, sm', Ls', _, _, _, z, hs, _⟩ => ?_)⟩
          injection z with z
          subst z
          obtain ⟨t, w, q1, _, q2, q3⟩ := (SmsR.get hs).2.2 i y hx
          rw [hd1] at q1
          have := hr.mpr ⟨t, w, Option.some.inj q1, q2, q3⟩
          cases this
        | true =>
        obtain ⟨t, w, rfl, ht, hw⟩ := hr.mp rfl
        have tb := hpw.far ht.2
        have te2 : t ≤ y.2 + 3 := ht.2
        repeat walk_at "e"
        try dsimp only
        repeat walk_at "e"
        refine ⟨y.1, t, rfl, rfl, by omega, by omega, by omega, ⟨⟨_, rfl⟩, ?_⟩⟩
        refine w_mulW (mul_okP (a := 100 + 120 * i) (b := 120) (by rw [Int.natAbs_natCast]; exact hbd) (by rw [Int.natAbs_natCast]; exact tb) (by omega)) ?_
        have ep : My.prodN (G0 / g :: (Ls ++ [y.1 ^ t])) = My.prodN (G0 / g :: Ls) * y.1 ^ t := by rw [My.prodN_cons, My.prodN_cons, My.prodN_app, My.prodN_cons, My.prodN_nil, Nat.mul_one, Nat.mul_assoc]
        rw [← Int.natCast_mul, ← ep]
        refine ⟨rfl, Ls ++ [y.1 ^ t], _, _, ?_, ?_, rfl⟩
        · rw [List.take_succ, List.take_succ, hx, hd1]
          exact SmsR.snoc ht hw hsr
        · rw [ep, show 100 + 120 * (i + 1) = (100 + 120 * i) + 120 by omega, Nat.pow_add]
          exact Nat.mul_lt_mul'' hbd tb
    · rintro _ _ ⟨rfl, Ls, x1, x2, hsr, hbd, rfl⟩
      rw [List.take_length, sl1, List.take_length] at hsr
      repeat walk_at "e"
      refine c_repr sha ?_
      repeat walk_at "e"
      obtain ⟨sm', hsok⟩ := smsOk_of (fun x hx => (My.small_mem hx).1) hsr
      have lpe := lp_end (M := M) (by omega) okl hsok
      rw [hG, hg] at lpe
      obtain ⟨_, lb⟩ := My.lp_bd (by omega) okl lpe
      refine c_repr (shows_int (by unfold Sm; omega)) ?_
      refine w_eq rfl rfl rfl ?_
      refine ⟨rfl, p _ ?_⟩
      rw [decide_eq_true_iff]
      constructor
      · intro z
        exact ⟨ms, sm, Ls, rfl, rfl, ⟨by rw [List.length_drop]; exact ml, mr, hd⟩, rfl, hsr, (shown_iff sha.py _).mp (V.str.inj z)⟩
      · rintro ⟨_, sm', Ls', _, _, _, z, hs, z2⟩
        injection z with z
        subst z
        rw [SmsR.uniq (fun x hx => (My.small_mem hx).1) hs hsr] at z2
        rw [(shown_iff sha.py _).mpr z2]
theorem sc_law_bent_triple : FnScope ["_law_pen_here", "_law_triple", "_law_degree", "_law_way"] ["_law_pen_here", "_law_triple", "_law_degree"] (defScope (top 73)) := ⟨rfl, rfl, rfl, by decide +kernel, rfl, by decide +kernel, by decide +kernel⟩
theorem ok_law_bent_triple {P : Program} {w : World} {K : PySem.W.Frag} {mg : Str → Option Value} {base : Heap} (T : Tx K mg) (h_law_draw : Fn P w K mg base 1 (He.fAd K ("_law_draw", none)) ["_law_pen_here", "_law_many"] (sp_draw K)) (h_law_pick : Fn P w K mg base 2 (He.fAd K ("_law_pick", none)) ["_law_pen_here", "_law_some"] (sp_pick K)) : Fn P w K mg base 3 (He.fAd K ("_law_bent_triple", none)) ["_law_pen_here", "_law_triple", "_law_degree"] (sp_l_btri K) := by
  obtain ⟨_, F_law_draw, b_law_draw, kp_law_draw, lk_law_draw⟩ := h_law_draw
  obtain ⟨_, F_law_pick, b_law_pick, kp_law_pick, lk_law_pick⟩ := h_law_pick
  obtain ⟨fd, F⟩ := T.d_law_bent_triple
  refine ⟨fd, F.ok sc_law_bent_triple (lift_len ?_) (fun cdv A outer s H vs Q E hr h => ?_), F.bindsN fun _ _ _ _ _ _ us hl => (match us, hl with | [_, _, _], _ => rfl), F.kp, lk_of F⟩
  · intro ts O P X h
    exact sp_l_btri_len h
  · have hu := hr.units
    refine ⟨_, (PSs.nox (pss_cons (ps_set (i := 3) sc_law_bent_triple.nd rfl (.inl rfl) (pe_call F_law_draw (hr.mono (by decide)) (by rfl) T.g__law_draw kp_law_draw b_law_draw .nil passL (pa_cons (pv 0) (pa_cons pe_int pa_nil))))
    (pss_cons (ps_if (pt_cmpR op_eq (pv 3) pe_int (nomark _))
    (pss_one (ps_ret (pe_tup (pa_cons (pe_ix (ix_tupK K) (pv 1) pe_int (fun _ _ => rfl)) (pa_cons (pe_op op_add (pe_ix (ix_tupK K) (pv 1) pe_int (fun _ _ => rfl)) (pe_call F_law_pick (hr.mono (by decide)) (by rfl) T.g__law_pick kp_law_pick b_law_pick .nil passL (pa_cons (pv 0) (pa_cons (pe_lst (pa_cons pe_int (pa_cons (pe_un un_neg pe_int) (pa_cons (pe_op op_pow pe_int pe_int) pa_nil)))) pa_nil)))) (pa_cons (pe_ix (ix_tupK K) (pv 1) pe_int (fun _ _ => rfl)) pa_nil))))))
    pss_nil)
    (pss_cons (ps_if (pt_cmpR op_eq (pv 3) pe_int (nomark _))
    (pss_one (ps_ret (pe_tup (pa_cons (pe_ix (ix_tupK K) (pv 1) pe_int (fun _ _ => rfl)) (pa_cons (pe_ix (ix_tupK K) (pv 1) pe_int (fun _ _ => rfl)) (pa_cons (pe_call F_law_pick (hr.mono (by decide)) (by rfl) T.g__law_pick kp_law_pick b_law_pick .nil passL (pa_cons (pv 0) (pa_cons (pe_op op_cat (pe_lst (pa_cons pe_non (pa_cons pe_bl (pa_cons (pe_un un_neg pe_int) (pa_cons (pv 2) (pa_cons pe_str (pa_cons (pe_op op_pow pe_int pe_int) pa_nil))))))) (pe_listRg rfl (by rfl) T.n_list (prg_1 (by rfl) T.n_range (pv 2)))) pa_nil))) pa_nil))))))
    pss_nil)
    (pss_cons (ps_if (pt_cmpR op_eq (pv 3) pe_int (nomark _))
    (pss_one (ps_ret (pe_tup (pa_cons (pe_call F_law_pick (hr.mono (by decide)) (by rfl) T.g__law_pick kp_law_pick b_law_pick .nil passL (pa_cons (pv 0) (pa_cons (pe_lst (pa_cons pe_int (pa_cons pe_int (pa_cons pe_int (pa_cons pe_non pa_nil))))) pa_nil))) (pa_cons (pe_ix (ix_tupK K) (pv 1) pe_int (fun _ _ => rfl)) (pa_cons (pe_ix (ix_tupK K) (pv 1) pe_int (fun _ _ => rfl)) pa_nil))))))
    pss_nil)
    (pss_cons (ps_if (pt_cmpR op_eq (pv 3) pe_int (nomark _))
    (pss_one (ps_ret (pe_tup (pa_cons (pe_ix (ix_tupK K) (pv 1) pe_int (fun _ _ => rfl)) (pa_cons (pe_call F_law_pick (hr.mono (by decide)) (by rfl) T.g__law_pick kp_law_pick b_law_pick .nil passL (pa_cons (pv 0) (pa_cons (pe_lst (pa_cons pe_non (pa_cons pe_bl (pa_cons pe_str (pa_cons (pe_tup (pa_cons pe_int pa_nil)) (pa_cons pe_int pa_nil)))))) pa_nil))) (pa_cons (pe_ix (ix_tupK K) (pv 1) pe_int (fun _ _ => rfl)) pa_nil))))))
    pss_nil)
    (pss_one (ps_ret (pe_call F_law_pick (hr.mono (by decide)) (by rfl) T.g__law_pick kp_law_pick b_law_pick .nil passL (pa_cons (pv 0) (pa_cons (pe_lst (pa_cons pe_non (pa_cons (pe_callTy (cr_listK K) (by rfl) T.n_list boot_list (pa_cons (pv 1) pa_nil)) (pa_cons (pe_slice (sl_tupAK K) (pv 1) po_none (po_some pe_int)) (pa_cons (pe_op (op_catAK K) (pv 1) (pe_tup (pa_cons pe_int pa_nil))) (pa_cons (by exact pe_revT (pv 1)) pa_nil)))))) pa_nil))))))))))), enter h fun ts O P X h _ => ?_⟩
    try dsimp only [cxOf, Cx.nox, Cx.wish]
    
    obtain ⟨n, p, q, t, w, d, rfl, rfl, hp, hn, hq, ht, hw, hd, k⟩ := h
    have sq : Sv (.int (q : Nat)) := sv_k (by omega)
    have st : Sv (.int (t : Nat)) := sv_k (by omega)
    have e20 : (10 : Int) ^ Int.toNat 20 = 100000000000000000000 := by decide
    have e50 : (10 : Int) ^ Int.toNat 50 = 100000000000000000000000000000000000000000000000000 := by decide
    show WS _ _ _ _ [.own 0, .v (.tup [.int (q : Nat), .int (t : Nat), w]), .v (.int (d : Nat)), .no] _
    walk_at "n"
    refine u_draw hp (by omega) (by decide) (by decide) fun p1 y hp1 y0 y1 => ⟨_, rfl, nno, ?_⟩
    repeat walk_at "e"
    try dsimp only
    refine s_seq ?_
    repeat walk_at "e"
    refine br (fun h0 => ?_) (fun h0 => ?_)
    · repeat walk_at "e"
      refine u_pick hp1 (by omega) (Nat.le_of_ble_eq_true rfl) (Nat.le_of_ble_eq_true rfl) fun p2 j x hp2 hx => ⟨_, rfl, nno, ?_⟩
      have hx : ∃ i : Int, x = .int i ∧ i.natAbs < 2 ^ 170 := (all_c (Q := fun x : D => ∃ i : Int, x = .int i ∧ i.natAbs < 2 ^ 170) ⟨1, rfl, by decide⟩ (all_c ⟨-1, rfl, by decide⟩ (all_c ⟨_, rfl, by rw [e50]; decide⟩ all_n))) x (List.mem_of_getElem? hx)
      obtain ⟨i, rfl, hi⟩ := hx
      repeat walk_at "e"
      exact ⟨rfl, k _ _ (hp2.mono (by omega)) (tri_3 sq (sv_k (by omega)) hw)⟩
    repeat walk_at "e"
    try dsimp only
    refine s_seq ?_
    repeat walk_at "e"
    refine br (fun h1 => ?_) (fun h1 => ?_)
    · repeat walk_at "e"
      refine w_listRg1 ?_
      repeat walk_at "e"
      refine ⟨by unfold RgOk; omega, ?_⟩
      refine w_catL lstD_v lstD_v (by rw [nums_len, rgI_len]; simp only [List.length_cons, List.length_nil]; omega) ?_
      repeat walk_at "e"
      refine u_pick hp1 (by omega) (by simp only [List.length_append, List.length_cons]; omega) (by rw [List.length_append, nums_len, rgI_len]; simp only [List.length_cons, List.length_nil]; omega) fun p2 j x hp2 hx => ⟨_, rfl, nno, ?_⟩
      have hx : Sv x := by
        rcases List.mem_append.mp (List.mem_of_getElem? hx) with hm | hm
        · exact (all_c (sv_lit svB_non) (all_c (sv_lit svB_tr) (all_c (sv_k (by decide)) (all_c (sv_k (by omega)) (all_c (sv_lit svB_0) (all_c (sv_k (by rw [e20]; decide)) all_n)))))) x hm
        · obtain ⟨i, hi, rfl⟩ := List.mem_map.mp hm
          unfold rgI at hi
          obtain ⟨i2, hi2, rfl⟩ := List.mem_map.mp hi
          have := List.mem_range.mp hi2
          exact sv_k (by omega)
      repeat walk_at "e"
      exact ⟨rfl, k _ _ (hp2.mono (by omega)) (tri_3 sq st hx)⟩
    repeat walk_at "e"
    try dsimp only
    refine s_seq ?_
    repeat walk_at "e"
    refine br (fun h2 => ?_) (fun h2 => ?_)
    · repeat walk_at "e"
      refine u_pick hp1 (by omega) (Nat.le_of_ble_eq_true rfl) (Nat.le_of_ble_eq_true rfl) fun p2 j x hp2 hx => ⟨_, rfl, nno, ?_⟩
      have hx : Sv x := (all_c (sv_k (by decide)) (all_c (sv_k (by decide)) (all_c (sv_k (by decide)) (all_c (sv_lit svB_non) all_n)))) x (List.mem_of_getElem? hx)
      repeat walk_at "e"
      exact ⟨rfl, k _ _ (hp2.mono (by omega)) (tri_3 hx st hw)⟩
    repeat walk_at "e"
    try dsimp only
    refine s_seq ?_
    repeat walk_at "e"
    refine br (fun h3 => ?_) (fun h3 => ?_)
    · repeat walk_at "e"
      refine u_pick hp1 (by omega) (Nat.le_of_ble_eq_true rfl) (Nat.le_of_ble_eq_true rfl) fun p2 j x hp2 hx => ⟨_, rfl, nno, ?_⟩
      have hx : Sv x := (all_c (sv_lit svB_non) (all_c (sv_lit svB_tr) (all_c (sv_lit svB_1) (all_c (sv_lit svB_t) (all_c (sv_k (by decide)) all_n))))) x (List.mem_of_getElem? hx)
      repeat walk_at "e"
      exact ⟨rfl, k _ _ (hp2.mono (by omega)) (tri_3 sq hx hw)⟩
    repeat walk_at "e"
    try dsimp only
    repeat walk_at "e"
    refine w_catT (Nat.le_of_ble_eq_true rfl) ?_
    repeat walk_at "e"
    refine w_revT ?_
    repeat walk_at "e"
    refine u_pick hp1 (by omega) (Nat.le_of_ble_eq_true rfl) (Nat.le_of_ble_eq_true rfl) fun p2 j x hp2 hx => ⟨_, rfl, nno, ?_⟩
    have hx : Tri x := (all_c (.inr (.inl rfl)) (all_c (.inr (.inr ⟨_, rfl⟩)) (all_c (.inl ⟨[.int (q : Nat), .int (t : Nat)], rfl, (by decide : 2 ≤ 6), all_c sq (all_c st all_n)⟩) (all_c (.inl ⟨[.int (q : Nat), .int (t : Nat), w, .int 0], rfl, (by decide : 4 ≤ 6), all_c sq (all_c st (all_c hw (all_c (sv_k (by decide)) all_n)))⟩) (all_c (.inl ⟨[w, .int (t : Nat), .int (q : Nat)], rfl, (by decide : 3 ≤ 6), all_c hw (all_c st (all_c sq all_n))⟩) all_n))))) x (List.mem_of_getElem? hx)
    exact ⟨rfl, k _ _ (hp2.mono (by omega)) hx⟩
theorem sc_law_bent : FnScope ["_law_pen_here", "_law_modulus", "_law_parts", "_law_degree", "_law_found", "_law_way", "_law_great", "_law_at", "_law_some", "_law_near", "_law_pair", ".0", "_law_one"] ["_law_pen_here", "_law_modulus", "_law_parts", "_law_degree"] (defScope (top 74)) := ⟨rfl, rfl, rfl, by decide +kernel, rfl, by decide +kernel, by decide +kernel⟩
theorem ok_law_bent {P : Program} {w : World} {K : PySem.W.Frag} {mg : Str → Option Value} {base : Heap} (T : Tx K mg) (h_law_draw : Fn P w K mg base 1 (He.fAd K ("_law_draw", none)) ["_law_pen_here", "_law_many"] (sp_draw K)) (h_law_pick : Fn P w K mg base 2 (He.fAd K ("_law_pick", none)) ["_law_pen_here", "_law_some"] (sp_pick K)) (h_law_bent_triple : Fn P w K mg base 3 (He.fAd K ("_law_bent_triple", none)) ["_law_pen_here", "_law_triple", "_law_degree"] (sp_l_btri K)) : Fn P w K mg base 4 (He.fAd K ("_law_bent", none)) ["_law_pen_here", "_law_modulus", "_law_parts", "_law_degree"] (sp_l_bent K) := by
  obtain ⟨_, F_law_draw, b_law_draw, kp_law_draw, lk_law_draw⟩ := h_law_draw
  obtain ⟨_, F_law_pick, b_law_pick, kp_law_pick, lk_law_pick⟩ := h_law_pick
  obtain ⟨_, F_law_bent_triple, b_law_bent_triple, kp_law_bent_triple, lk_law_bent_triple⟩ := h_law_bent_triple
  obtain ⟨fd, F⟩ := T.d_law_bent
  refine ⟨fd, F.ok sc_law_bent (lift_len ?_) (fun cdv A outer s H vs Q E hr h => ?_), F.bindsN fun _ _ _ _ _ _ us hl => (match us, hl with | [_, _, _, _], _ => rfl), F.kp, lk_of F⟩
  · intro ts O P X h
    exact sp_l_bent_len h
  · have hu := hr.units
    refine ⟨_, (PSs.nox (pss_cons (ps_par3 (i := 4) (j := 5) (l := 6) rfl sc_law_bent.nd rfl rfl rfl (by decide) (by decide) (by decide) rfl rfl rfl (pa_cons (pe_callTy (cr_listK K) (by rfl) T.n_list boot_list (pa_cons (pv 2) pa_nil)) (pa_cons (pe_call F_law_draw (hr.mono (by decide)) (by rfl) T.g__law_draw kp_law_draw b_law_draw .nil passL (pa_cons (pv 0) (pa_cons pe_int pa_nil))) (pa_cons (pe_ix (ix_listK K) (pv 2) pe_int (fun _ _ => rfl)) pa_nil))) rfl)
    (pss_cons (ps_if (pt_cmpR op_eq (pv 5) pe_int (nomark _))
    (pss_one (ps_asg (pe_call F_law_pick (hr.mono (by decide)) (by rfl) T.g__law_pick kp_law_pick b_law_pick .nil passL (pa_cons (pv 0) (pa_cons (pe_lst (pa_cons (pe_op op_mul (pe_ix (ix_listK K) (pv 2) pe_int (fun _ _ => rfl)) pe_int) (pa_cons (pe_op op_sub (pe_ix (ix_listK K) (pv 2) pe_int (fun _ _ => rfl)) pe_int) (pa_cons (pv 1) (pa_cons pe_non (pa_cons pe_bl (pa_cons (pe_callTy call_str_int (by rfl) T.n_str boot_str (pa_cons (pe_ix (ix_listK K) (pv 2) pe_int (fun _ _ => rfl)) pa_nil)) (pa_cons (pe_un un_neg (pe_ix (ix_listK K) (pv 2) pe_int (fun _ _ => rfl))) pa_nil)))))))) pa_nil))) (pg_sub (pv 4) pe_int set_list)))
    pss_nil)
    (pss_cons (ps_if (pt_cmpR op_eq (pv 5) pe_int (nomark _))
    (pss_one (ps_asg (pe_call F_law_pick (hr.mono (by decide)) (by rfl) T.g__law_pick kp_law_pick b_law_pick .nil passL (pa_cons (pv 0) (pa_cons (pe_lst (pa_cons (pe_op op_add (pv 6) pe_int) (pa_cons pe_int (pa_cons (pv 1) (pa_cons pe_non (pa_cons pe_bl (pa_cons pe_int pa_nil))))))) pa_nil))) (pg_sub (pv 4) pe_int set_list)))
    pss_nil)
    (pss_cons (ps_if (PW.pt (pw_and (pt_cmpR op_eq (pv 5) pe_int (nomark _)) (pw_and1 (pt_cmpR op_gt (pv 3) pe_int (nomark _)))))
    (pss_cons (ps_par (i := 7) (j := 8) rfl sc_law_bent.nd rfl rfl (by decide) rfl rfl (pa_cons (pe_call F_law_draw (hr.mono (by decide)) (by rfl) T.g__law_draw kp_law_draw b_law_draw .nil passL (pa_cons (pv 0) (pa_cons (pv 3) pa_nil))) (pa_cons (pe_callTy (cr_listK K) (by rfl) T.n_list boot_list (pa_cons (pe_ix (ix_listK K) (pv 2) pe_int (fun _ _ => rfl)) pa_nil)) pa_nil)) rfl)
    (pss_cons (ps_set (i := 9) sc_law_bent.nd rfl (.inl rfl) (pe_lst (pa_cons (pe_op op_mod (pe_callTy call_int1 (by rfl) T.n_int boot_int (pa_cons (pe_op op_add (pe_ix (ix_listK K) (pv 8) (pv 7) (fun _ _ => rfl)) pe_int) pa_nil)) (pv 6)) (pa_cons (pe_op op_mod (pe_callTy call_int1 (by rfl) T.n_int boot_int (pa_cons (pe_op op_add (pe_ix (ix_listK K) (pv 8) (pv 7) (fun _ _ => rfl)) (pe_op op_fdivW (pv 6) pe_int)) pa_nil)) (pv 6)) (pa_cons (pe_op op_add (pe_ix (ix_listK K) (pv 8) (pv 7) (fun _ _ => rfl)) (pv 6)) pa_nil)))))
    (pss_cons (ps_asg (pe_call F_law_pick (hr.mono (by decide)) (by rfl) T.g__law_pick kp_law_pick b_law_pick .nil passL (pa_cons (pv 0) (pa_cons (pe_op op_cat (pv 9) (pe_lst (pa_cons (pe_un un_neg pe_int) (pa_cons pe_non (pa_cons pe_bl (pa_cons pe_int pa_nil)))))) pa_nil))) (pg_sub (pv 8) (pv 7) set_list))
    (pss_one (ps_asg (pe_callTy (cr_tupK K) (by rfl) T.n_tuple boot_tuple (pa_cons (pv 8) pa_nil)) (pg_sub (pv 4) pe_int set_list))))))
    pss_nil)
    (pss_cons (ps_if (pt_cmpR op_eq (pv 5) pe_int (nomark _))
    (pss_one (ps_asg (pe_call F_law_pick (hr.mono (by decide)) (by rfl) T.g__law_pick kp_law_pick b_law_pick .nil passL (pa_cons (pv 0) (pa_cons (pe_lst (pa_cons (pe_callTy (cr_listK K) (by rfl) T.n_list boot_list (pa_cons (pe_ix (ix_listK K) (pv 2) pe_int (fun _ _ => rfl)) pa_nil)) (pa_cons (pe_op (op_catAK K) (pe_ix (ix_listK K) (pv 2) pe_int (fun _ _ => rfl)) (pe_tup (pa_cons pe_int pa_nil))) (pa_cons (pe_slice (sl_tupAK K) (pe_ix (ix_listK K) (pv 2) pe_int (fun _ _ => rfl)) (po_some pe_int) po_none) (pa_cons pe_non (pa_cons (by exact pe_revT (pe_ix (ix_listK K) (pv 2) pe_int (fun _ _ => rfl))) pa_nil)))))) pa_nil))) (pg_sub (pv 4) pe_int set_list)))
    pss_nil)
    (pss_cons (ps_if (PW.pt (pw_and (pt_cmpR op_eq (pv 5) pe_int (nomark _)) (pw_and1 (pt_cmpR (op_neDK K hu) (pe_ix (ix_listK K) (pv 2) pe_int (fun _ _ => rfl)) (pe_tup pa_nil) (nomark _)))))
    (pss_cons (ps_set (i := 7) sc_law_bent.nd rfl (.inl rfl) (pe_call F_law_draw (hr.mono (by decide)) (by rfl) T.g__law_draw kp_law_draw b_law_draw .nil passL (pa_cons (pv 0) (pa_cons (pe_callB (cr_lenK K) (by rfl) T.n_len boot_len (pa_cons (pe_ix (ix_listK K) (pv 2) pe_int (fun _ _ => rfl)) pa_nil)) pa_nil))))
    (pss_one (ps_asg (pe_op (op_catAK K) (pe_op (op_catAK K) (pe_slice (sl_tupAK K) (pe_ix (ix_listK K) (pv 2) pe_int (fun _ _ => rfl)) po_none (po_some (pv 7))) (pe_tup (pa_cons (pe_call F_law_bent_triple (hr.mono (by decide)) (by rfl) T.g__law_bent_triple kp_law_bent_triple b_law_bent_triple .nil passL (pa_cons (pv 0) (pa_cons (pe_ix (ix_tupK K) (pe_ix (ix_listK K) (pv 2) pe_int (fun _ _ => rfl)) (pv 7) (fun _ _ => rfl)) (pa_cons (pv 3) pa_nil)))) pa_nil))) (pe_slice (sl_tupAK K) (pe_ix (ix_listK K) (pv 2) pe_int (fun _ _ => rfl)) (po_some (pe_op op_add (pv 7) pe_int)) po_none)) (pg_sub (pv 4) pe_int set_list))))
    pss_nil)
    (pss_cons (ps_if (pt_cmpR op_eq (pv 5) pe_int (nomark _))
    (pss_one (ps_asg (pe_call F_law_pick (hr.mono (by decide)) (by rfl) T.g__law_pick kp_law_pick b_law_pick .nil passL (pa_cons (pv 0) (pa_cons (pe_lst (pa_cons (pe_callTy (cr_listK K) (by rfl) T.n_list boot_list (pa_cons (pe_ix (ix_listK K) (pv 2) pe_int (fun _ _ => rfl)) pa_nil)) (pa_cons (pe_op (op_catAK K) (pe_ix (ix_listK K) (pv 2) pe_int (fun _ _ => rfl)) (pe_tup (pa_cons (pe_tup (pa_cons pe_int (pa_cons pe_int (pa_cons pe_non pa_nil)))) pa_nil))) (pa_cons (pe_slice (sl_tupAK K) (pe_ix (ix_listK K) (pv 2) pe_int (fun _ _ => rfl)) (po_some pe_int) po_none) (pa_cons pe_non (pa_cons (by exact pe_revT (pe_ix (ix_listK K) (pv 2) pe_int (fun _ _ => rfl))) pa_nil)))))) pa_nil))) (pg_sub (pv 4) pe_int set_list)))
    pss_nil)
    (pss_cons (ps_if (PW.pt (pw_and (pt_cmpR op_eq (pv 5) pe_int (nomark _)) (pw_and1 (pt_cmpR (op_neDK K hu) (pe_ix (ix_listK K) (pv 2) pe_int (fun _ _ => rfl)) (pe_tup pa_nil) (nomark _)))))
    (pss_cons (ps_set (i := 7) sc_law_bent.nd rfl (.inl rfl) (pe_call F_law_draw (hr.mono (by decide)) (by rfl) T.g__law_draw kp_law_draw b_law_draw .nil passL (pa_cons (pv 0) (pa_cons (pe_callB (cr_lenK K) (by rfl) T.n_len boot_len (pa_cons (pe_ix (ix_listK K) (pv 2) pe_int (fun _ _ => rfl)) pa_nil)) pa_nil))))
    (pss_cons (ps_set (i := 10) sc_law_bent.nd rfl (.inl rfl) (pe_ix (ix_tupK K) (pe_ix (ix_listK K) (pv 2) pe_int (fun _ _ => rfl)) (pv 7) (fun _ _ => rfl)))
    (pss_cons (ps_asg (pe_op op_fdivW (pe_ix (ix_listK K) (pv 2) pe_int (fun _ _ => rfl)) (pe_ix (ix_tupK K) (pv 10) pe_int (fun _ _ => rfl))) (pg_sub (pv 4) pe_int set_list))
    (pss_one (ps_asg (pe_op (op_catAK K) (pe_op (op_catAK K) (pe_slice (sl_tupAK K) (pe_ix (ix_listK K) (pv 2) pe_int (fun _ _ => rfl)) po_none (po_some (pv 7))) (pe_tup (pa_cons (pe_tup (pa_cons (pe_ix (ix_tupK K) (pv 10) pe_int (fun _ _ => rfl)) (pa_cons (pe_op op_sub (pe_ix (ix_tupK K) (pv 10) pe_int (fun _ _ => rfl)) pe_int) (pa_cons (pe_ix (ix_tupK K) (pv 10) pe_int (fun _ _ => rfl)) pa_nil)))) pa_nil))) (pe_slice (sl_tupAK K) (pe_ix (ix_listK K) (pv 2) pe_int (fun _ _ => rfl)) (po_some (pe_op op_add (pv 7) pe_int)) po_none)) (pg_sub (pv 4) pe_int set_list))))))
    pss_nil)
    (pss_cons (ps_if (pt_cmpR op_eq (pv 5) pe_int (nomark _))
    (pss_one (ps_asg (pe_tup (pa_cons (pe_op op_fdivW (pe_ix (ix_listK K) (pv 2) pe_int (fun _ _ => rfl)) (pe_call F_law_pick (hr.mono (by decide)) (by rfl) T.g__law_pick kp_law_pick b_law_pick .nil passL (pa_cons (pv 0) (pa_cons (pe_lst (pa_cons pe_int (pa_cons pe_int (pa_cons pe_int (pa_cons (pv 6) pa_nil))))) pa_nil)))) (pa_cons (pe_callTy (cr_tupK K) (by rfl) T.n_tuple boot_tuple (pa_cons (pe_lc (own := [(".0", 11), ("_law_one", 12)]) rfl sc_law_bent.nd (pi_tupK K (pe_ix (ix_listK K) (pv 2) pe_int (fun _ _ => rfl))) (blkOk_by (own := [(".0", 11), ("_law_one", 12)]) (N := ["_law_pen_here", "_law_modulus", "_law_parts", "_law_degree", "_law_found", "_law_way", "_law_great", "_law_at", "_law_some", "_law_near", "_law_pair", ".0", "_law_one"]) (sc := defScope (top 74)) (by decide +kernel)) (fun _ _ _ _ _ => (pg_name (i := 12) sc_law_bent.nd rfl (.inl rfl))) (fun _ _ _ _ _ => pts_nil) (fun _ _ _ _ _ => pe_int)) pa_nil)) pa_nil))) (pg_tupK K (n := 2) rfl (pgs_cons (pg_sub (pv 4) pe_int set_list) (pgs_cons (pg_sub (pv 4) pe_int set_list) pgs_nil)))))
    pss_nil)
    (pss_one (ps_ret (pv 4))))))))))))), enter h fun ts O P X h _ => ?_⟩
    try dsimp only [cxOf, Cx.nox, Cx.wish]
    
    obtain ⟨n, p, m, L0, g, ms, sm, dg, rfl, rfl, hp, hn, hm, hL, hg1, hg2, hml, hmr, hd, hsl, hsm, k⟩ := h
    show WS _ _ _ _ [.own 0, .v (.int (m : Nat)), .v (.lst [.int (L0 : Nat), .int (g : Nat), .tup (nums ms), .tup sm]), .v (.int (dg : Nat)), .no, .no, .no, .no, .no, .no, .no, .no, .no] _
    refine s_seq ?_
    refine s_par3 ?_
    refine w_cons ?_
    refine w_call ?_
    refine w_cons ?_
    refine w_v rfl ?_
    refine w_nil ?_
    refine c_listLO lstD_v ?_
    repeat walk_at "e"
    refine u_draw hp (by omega) (by decide) (by decide) fun p2 y hp2 y0 y1 => ⟨_, rfl, nno, ?_⟩
    repeat walk_at "e"
    dsimp only
    have fitC : Sv (.int (L0 : Nat)) ∧ Sv (.int (g : Nat)) := ⟨sv_k (by omega), sv_k (by omega)⟩
    have smv : ∀ x ∈ nums ms, Sv x := fun x hx => by
      obtain ⟨v, hv, rfl⟩ := List.mem_map.mp hx
      have := hmr v hv
      exact sv_k (by omega)
    have smt : ∀ e ∈ sm, Tri e := fun e he => by
      obtain ⟨q, t, w, rfl, q1, q2, t1, hw⟩ := hsm e he
      exact tri_3 (sv_k (by omega)) (sv_k (by omega)) hw
    have smp : pl 60 (.tup sm) = true := pl_tupA fun e he => by
      obtain ⟨q, t, w, rfl, q1, q2, t1, hw⟩ := hsm e he
      exact pl_tupA (all_c (Q := fun d => pl 58 d = true) pl_int (all_c pl_int (all_c hw.pl.2 all_n)))
    have ft : Fit (.int (L0 : Nat)) (.int (g : Nat)) (.tup (nums ms)) (.tup sm) := ⟨fitC.1, fitC.2, .inl ⟨_, rfl, by rw [nums_len]; omega, smv⟩, .inl ⟨_, rfl, by omega, smt⟩⟩
    refine s_cut (fun ts' O' => ∃ (p' : List D) (a b c d : D) (tl : List OD) (x7 x8 x9 x10 x11 x12 : G.T), Pen (n + 5) p' ∧ tl = [] ∧ Fit a b c d ∧ O' = .lst p' :: .lst [a, b, c, d] :: tl ∧ ts' = [.own 0, .v (.int (m : Nat)), .v (.lst [.int (L0 : Nat), .int (g : Nat), .tup (nums ms), .tup sm]), .v (.int (dg : Nat)), .own 1, .v (.int y), .v (.int (g : Nat)), x7, x8, x9, x10, x11, x12]) ?_ ?_
    · try dsimp only
      refine s_if ?_
      repeat walk_at "e"
      refine br (fun h0 => ?_) (fun h0 => ?_)
      · repeat walk_at "e"
        refine c_strI (sm_1920 (by unfold Sm; omega)) ?_
        repeat walk_at "e"
        refine u_pick hp2 (by omega) (Nat.le_of_ble_eq_true rfl) (Nat.le_of_ble_eq_true rfl) fun p3 j x hp3 hx => ⟨_, rfl, nno, ?_⟩
        have hx : Sv x := (all_c (sv_k (by omega)) (all_c (sv_k (by omega)) (all_c (sv_k (by omega)) (all_c (sv_lit svB_non) (all_c (sv_lit svB_tr) (all_c (sv_text (by unfold Sm; omega)) (all_c (sv_k (by omega)) all_n))))))) x (List.mem_of_getElem? hx)
        repeat walk_at "e"
        exact ⟨_, _, _, _, _, _, _, _, _, _, _, _, hp3.mono (by omega), rfl, ⟨hx, ft.b, ft.c, ft.d⟩, rfl, rfl⟩
      · repeat walk_at "e"
        exact ⟨_, _, _, _, _, _, _, _, _, _, _, _, hp2.mono (by omega), rfl, ft, rfl, rfl⟩
    rintro _ _ ⟨p2, a, b, c, d, tl, x7, x8, x9, x10, x11, x12, hp2, rfl, ft, rfl, rfl⟩
    refine s_cut (fun ts' O' => ∃ (p' : List D) (a b c d : D) (tl : List OD) (x7 x8 x9 x10 x11 x12 : G.T), Pen (n + 9) p' ∧ tl = [] ∧ Fit a b c d ∧ O' = .lst p' :: .lst [a, b, c, d] :: tl ∧ ts' = [.own 0, .v (.int (m : Nat)), .v (.lst [.int (L0 : Nat), .int (g : Nat), .tup (nums ms), .tup sm]), .v (.int (dg : Nat)), .own 1, .v (.int y), .v (.int (g : Nat)), x7, x8, x9, x10, x11, x12]) ?_ ?_
    · try dsimp only
      refine s_if ?_
      repeat walk_at "e"
      refine br (fun h0 => ?_) (fun h0 => ?_)
      · repeat walk_at "e"
        refine u_pick hp2 (by omega) (Nat.le_of_ble_eq_true rfl) (Nat.le_of_ble_eq_true rfl) fun p3 j x hp3 hx => ⟨_, rfl, nno, ?_⟩
        have hx : Sv x := (all_c (sv_k (by omega)) (all_c (sv_k (by decide)) (all_c (sv_k (by omega)) (all_c (sv_lit svB_non) (all_c (sv_lit svB_tr) (all_c (sv_k (by decide)) all_n)))))) x (List.mem_of_getElem? hx)
        repeat walk_at "e"
        exact ⟨_, _, _, _, _, _, _, _, _, _, _, _, hp3.mono (by omega), rfl, ⟨ft.a, hx, ft.c, ft.d⟩, rfl, rfl⟩
      · repeat walk_at "e"
        exact ⟨_, _, _, _, _, _, _, _, _, _, _, _, hp2.mono (by omega), rfl, ft, rfl, rfl⟩
    rintro _ _ ⟨p2, a, b, c, d, tl, x7, x8, x9, x10, x11, x12, hp2, rfl, ft, rfl, rfl⟩
    refine s_cut (fun ts' O' => ∃ (p' : List D) (a b c d : D) (tl : List OD) (x7 x8 x9 x10 x11 x12 : G.T), Pen (n + 13) p' ∧ Fit a b c d ∧ O' = .lst p' :: .lst [a, b, c, d] :: tl ∧ ts' = [.own 0, .v (.int (m : Nat)), .v (.lst [.int (L0 : Nat), .int (g : Nat), .tup (nums ms), .tup sm]), .v (.int (dg : Nat)), .own 1, .v (.int y), .v (.int (g : Nat)), x7, x8, x9, x10, x11, x12]) ?_ ?_
    · try dsimp only
      refine s_if ?_
      repeat walk_at "e"
      refine br (fun h0 => ?_) (fun h0 => ?_)
      · repeat walk_at "e"
        refine br (fun h9 => ?_) (fun h9 => ?_)
        · repeat walk_at "e"
          refine s_seq ?_
          refine s_par ?_
          refine w_cons ?_
          refine w_fn10 0 ?_
          repeat walk_at "e"
          refine u_draw hp2 (by omega) (by omega) (by omega) fun p3 x hp3 h1 h2 => ⟨_, rfl, nno, ?_⟩
          obtain ⟨v, hv, hv2⟩ := atI_nums (ns := ms) (i := x) h1 (by omega)
          obtain ⟨v1, v2⟩ := hmr v (List.mem_of_getElem? hv2)
          refine w_cons ?_
          refine w_call ?_
          refine w_cons ?_
          refine w_op ?_
          refine w_v rfl ?_
          refine w_ci ?_
          refine w_ixL lstD_v atI_2 ?_
          refine w_nil ?_
          refine c_listTO ?_
          repeat walk_at "e"
          dsimp only
          refine s_seq ?_
          repeat walk_at "e"
          dsimp only
          refine s_seq ?_
          repeat walk_at "e"
          refine w_catL lstD_v lstD_v (Nat.le_of_ble_eq_true rfl) ?_
          repeat walk_at "e"
          refine u_pick hp3 (by omega) (Nat.le_of_ble_eq_true rfl) (Nat.le_of_ble_eq_true rfl) fun p4 j u hp4 hu => ⟨_, rfl, nno, ?_⟩
          have w1 := Int.emod_nonneg (v + 1) (show (g : Int) ≠ 0 by omega)
          have w2 := Int.emod_lt_of_pos (v + 1) (show (0 : Int) < g by omega)
          have w3 := Int.emod_nonneg (v + (g : Int) / 2) (show (g : Int) ≠ 0 by omega)
          have w4 := Int.emod_lt_of_pos (v + (g : Int) / 2) (show (0 : Int) < g by omega)
          have su : Sv u := (all_c (sv_k (by omega)) (all_c (sv_k (by omega)) (all_c (sv_k (by omega)) (all_c (sv_k (by decide)) (all_c (sv_lit svB_non) (all_c (sv_lit svB_tr) (all_c (sv_k (by decide)) all_n))))))) u (List.mem_of_getElem? hu)
          have hix : ixN (nums ms).length x = some x.toNat := by
            unfold ixN
            rw [nums_len, if_pos h1, if_pos (by omega)]
          refine g_setL ?_
          repeat walk_at "e"
          refine ⟨_, _, _, _, _, rfl, rfl, rfl, rfl, hix, ?_⟩
          dsimp only
          repeat walk_at "e"
          have hset : ∀ z ∈ (nums ms).set x.toNat u, Sv z := fun z hz => (List.mem_or_eq_of_mem_set hz).elim (fun h => smv z h) (fun h => by rw [h]; exact su)
          exact ⟨_, _, _, _, _, _, _, _, _, _, _, _, hp4.mono (by omega), ⟨ft.a, ft.b, .inl ⟨_, rfl, by rw [List.length_set, nums_len]; omega, hset⟩, ft.d⟩, rfl, rfl⟩
        · repeat walk_at "e"
          exact ⟨_, _, _, _, _, _, _, _, _, _, _, _, hp2.mono (by omega), ft, rfl, rfl⟩
      · repeat walk_at "e"
        exact ⟨_, _, _, _, _, _, _, _, _, _, _, _, hp2.mono (by omega), ft, rfl, rfl⟩
    rintro _ _ ⟨p2, a, b, c, d, tl, x7, x8, x9, x10, x11, x12, hp2, ft, rfl, rfl⟩
    refine s_cut (fun ts' O' => ∃ (p' : List D) (a b c d : D) (tl : List OD) (x7 x8 x9 x10 x11 x12 : G.T), Pen (n + 17) p' ∧ Fit a b c d ∧ O' = .lst p' :: .lst [a, b, c, d] :: tl ∧ ts' = [.own 0, .v (.int (m : Nat)), .v (.lst [.int (L0 : Nat), .int (g : Nat), .tup (nums ms), .tup sm]), .v (.int (dg : Nat)), .own 1, .v (.int y), .v (.int (g : Nat)), x7, x8, x9, x10, x11, x12]) ?_ ?_
    · try dsimp only
      refine s_if ?_
      repeat walk_at "e"
      refine br (fun h0 => ?_) (fun h0 => ?_)
      · repeat walk_at "e"
        refine w_catT (Nat.le_trans (show _ ≤ 13 by rw [nums_len]; simp only [List.length_cons, List.length_nil]; omega) (Nat.le_of_ble_eq_true rfl)) ?_
        repeat walk_at "e"
        rw [show cutD (nums ms) (some 1) none = (nums ms).drop 1 from cut_tail1 ms]
        repeat walk_at "e"
        refine w_revT ?_
        repeat walk_at "e"
        refine u_pick hp2 (by omega) (Nat.le_of_ble_eq_true rfl) (Nat.le_of_ble_eq_true rfl) fun p3 j x hp3 hx => ⟨_, rfl, nno, ?_⟩
        have hx : (∃ ds : List D, x = .tup ds ∧ ds.length ≤ 20 ∧ ∀ y ∈ ds, Sv y) ∨ NoTup x := (all_c (Q := fun x : D => (∃ ds : List D, x = .tup ds ∧ ds.length ≤ 20 ∧ ∀ y ∈ ds, Sv y) ∨ NoTup x) (.inr (.inr ⟨_, rfl⟩)) (all_c (.inl ⟨nums ms ++ [.int 0], rfl, by rw [List.length_append, nums_len, List.length_singleton]; omega, fun y hy => (List.mem_append.mp hy).elim (smv y) fun h => by rw [List.mem_singleton.mp h]; exact sv_k (by decide)⟩) (all_c (.inl ⟨_, rfl, by rw [List.length_drop, nums_len]; omega, fun y hy => smv y (List.mem_of_mem_drop hy)⟩) (all_c (.inr (.inl rfl)) (all_c (.inl ⟨_, rfl, by rw [List.length_reverse, nums_len]; omega, fun y hy => smv y (List.mem_reverse.mp hy)⟩) all_n))))) x (List.mem_of_getElem? hx)
        repeat walk_at "e"
        exact ⟨_, _, _, _, _, _, _, _, _, _, _, _, hp3.mono (by omega), ⟨ft.a, ft.b, hx, ft.d⟩, rfl, rfl⟩
      · repeat walk_at "e"
        exact ⟨_, _, _, _, _, _, _, _, _, _, _, _, hp2.mono (by omega), ft, rfl, rfl⟩
    rintro _ _ ⟨p2, a, b, c, d, tl, x7, x8, x9, x10, x11, x12, hp2, ft, rfl, rfl⟩
    refine s_cut (fun ts' O' => ∃ (p' : List D) (a b c d : D) (tl : List OD) (x7 x8 x9 x10 x11 x12 : G.T), Pen (n + 21) p' ∧ Fit a b c d ∧ O' = .lst p' :: .lst [a, b, c, d] :: tl ∧ ts' = [.own 0, .v (.int (m : Nat)), .v (.lst [.int (L0 : Nat), .int (g : Nat), .tup (nums ms), .tup sm]), .v (.int (dg : Nat)), .own 1, .v (.int y), .v (.int (g : Nat)), x7, x8, x9, x10, x11, x12]) ?_ ?_
    · try dsimp only
      refine s_if ?_
      repeat walk_at "e"
      refine br (fun h0 => ?_) (fun h0 => ?_)
      · repeat walk_at "e"
        refine w_neD valD_v valD_v smp (pl_tupA (n := 59) all_n) ?_
        rw [eqD_nilT]
        by_cases hz : sm = []
        · rw [decide_eq_true hz]
          repeat walk_at "e"
          exact ⟨_, _, _, _, _, _, _, _, _, _, _, _, hp2.mono (by omega), ft, rfl, rfl⟩
        rw [decide_eq_false hz]
        repeat walk_at "e"
        have sm1 : 1 ≤ sm.length := List.length_pos_iff.mpr hz
        try dsimp only
        refine s_seq ?_
        repeat walk_at "e"
        refine u_draw hp2 (by omega) (by omega) (by omega) fun p3 x hp3 h1 h2 => ⟨_, rfl, nno, ?_⟩
        obtain ⟨xi, rfl⟩ : ∃ xi : Nat, x = xi := ⟨x.toNat, by omega⟩
        obtain ⟨e, he, he2⟩ := atI_pos (xs := sm) (i := (xi : Nat)) h1 h2
        obtain ⟨q, tt, w, rfl, q1, q2, t1, hw⟩ := hsm e (List.mem_of_getElem? he2)
        have hsp : ∀ (e2 : D), Tri e2 → (∃ ds : List D, D.tup (sm.take xi ++ [e2] ++ sm.drop (xi + 1)) = .tup ds ∧ ds.length ≤ 20 ∧ ∀ y ∈ ds, Tri y) ∨ NoTup (D.tup (sm.take xi ++ [e2] ++ sm.drop (xi + 1))) := fun e2 h2 => .inl ⟨_, rfl, by rw [List.length_append, List.length_append, List.length_take, List.length_drop, List.length_singleton]; omega, fun y hy => by
          rcases List.mem_append.mp hy with hy | hy
          · rcases List.mem_append.mp hy with hy | hy
            · exact smt y (List.mem_of_mem_take hy)
            · rw [List.mem_singleton.mp hy]; exact h2
          · exact smt y (List.mem_of_mem_drop hy)⟩
        repeat walk_at "e"
        dsimp only
        repeat walk_at "e"
        refine ⟨_, _, q, tt, w, dg, rfl, rfl, hp3, by omega, by omega, by omega, hw, by omega, fun p4 e2 hp4 he3 => ⟨_, rfl, nno, ?_⟩⟩
        repeat walk_at "e"
        rw [show cutD sm none (some ((xi : Nat) : Int)) = sm.take xi from cutD_take (by omega)]
        refine w_catT (Nat.le_trans (show _ ≤ 13 by simp only [List.length_append, List.length_take, List.length_drop, List.length_cons, List.length_nil]; omega) (Nat.le_of_ble_eq_true rfl)) ?_
        repeat walk_at "e"
        rw [show cutD sm (some ((xi : Nat) + 1 : Int)) none = sm.drop (xi + 1) from cutD_drop (n := xi + 1) (by omega)]
        refine w_catT (Nat.le_trans (show _ ≤ 13 by simp only [List.length_append, List.length_take, List.length_drop, List.length_cons, List.length_nil]; omega) (Nat.le_of_ble_eq_true rfl)) ?_
        repeat walk_at "e"
        exact ⟨_, _, _, _, _, _, _, _, _, _, _, _, hp4.mono (by omega), ⟨ft.a, ft.b, ft.c, hsp _ he3⟩, rfl, rfl⟩
      · repeat walk_at "e"
        exact ⟨_, _, _, _, _, _, _, _, _, _, _, _, hp2.mono (by omega), ft, rfl, rfl⟩
    rintro _ _ ⟨p2, a, b, c, d, tl, x7, x8, x9, x10, x11, x12, hp2, ft, rfl, rfl⟩
    refine s_cut (fun ts' O' => ∃ (p' : List D) (a b c d : D) (tl : List OD) (x7 x8 x9 x10 x11 x12 : G.T), Pen (n + 25) p' ∧ Fit a b c d ∧ O' = .lst p' :: .lst [a, b, c, d] :: tl ∧ ts' = [.own 0, .v (.int (m : Nat)), .v (.lst [.int (L0 : Nat), .int (g : Nat), .tup (nums ms), .tup sm]), .v (.int (dg : Nat)), .own 1, .v (.int y), .v (.int (g : Nat)), x7, x8, x9, x10, x11, x12]) ?_ ?_
    · try dsimp only
      refine s_if ?_
      repeat walk_at "e"
      refine br (fun h0 => ?_) (fun h0 => ?_)
      · repeat walk_at "e"
        refine w_catT (Nat.le_trans (show _ ≤ 13 by simp only [List.length_append, List.length_take, List.length_drop, List.length_cons, List.length_nil]; omega) (Nat.le_of_ble_eq_true rfl)) ?_
        repeat walk_at "e"
        rw [show cutD sm (some 1) none = sm.drop 1 from cut_tailD sm]
        repeat walk_at "e"
        refine w_revT ?_
        repeat walk_at "e"
        refine u_pick hp2 (by omega) (Nat.le_of_ble_eq_true rfl) (Nat.le_of_ble_eq_true rfl) fun p3 j x hp3 hx => ⟨_, rfl, nno, ?_⟩
        have hx : (∃ ds : List D, x = .tup ds ∧ ds.length ≤ 20 ∧ ∀ y ∈ ds, Tri y) ∨ NoTup x := (all_c (Q := fun x : D => (∃ ds : List D, x = .tup ds ∧ ds.length ≤ 20 ∧ ∀ y ∈ ds, Tri y) ∨ NoTup x) (.inr (.inr ⟨_, rfl⟩)) (all_c (.inl ⟨sm ++ [.tup [.int 2, .int 0, .non]], rfl, by rw [List.length_append, List.length_singleton]; omega, fun y hy => (List.mem_append.mp hy).elim (smt y) fun h => by rw [List.mem_singleton.mp h]; exact tri_3 (sv_k (by decide)) (sv_k (by decide)) (sv_lit svB_non)⟩) (all_c (.inl ⟨_, rfl, by rw [List.length_drop]; omega, fun y hy => smt y (List.mem_of_mem_drop hy)⟩) (all_c (.inr (.inl rfl)) (all_c (.inl ⟨_, rfl, by rw [List.length_reverse]; omega, fun y hy => smt y (List.mem_reverse.mp hy)⟩) all_n))))) x (List.mem_of_getElem? hx)
        repeat walk_at "e"
        exact ⟨_, _, _, _, _, _, _, _, _, _, _, _, hp3.mono (by omega), ⟨ft.a, ft.b, ft.c, hx⟩, rfl, rfl⟩
      · repeat walk_at "e"
        exact ⟨_, _, _, _, _, _, _, _, _, _, _, _, hp2.mono (by omega), ft, rfl, rfl⟩
    rintro _ _ ⟨p2, a, b, c, d, tl, x7, x8, x9, x10, x11, x12, hp2, ft, rfl, rfl⟩
    refine s_cut (fun ts' O' => ∃ (p' : List D) (a b c d : D) (tl : List OD) (x7 x8 x9 x10 x11 x12 : G.T), Pen (n + 29) p' ∧ Fit a b c d ∧ O' = .lst p' :: .lst [a, b, c, d] :: tl ∧ ts' = [.own 0, .v (.int (m : Nat)), .v (.lst [.int (L0 : Nat), .int (g : Nat), .tup (nums ms), .tup sm]), .v (.int (dg : Nat)), .own 1, .v (.int y), .v (.int (g : Nat)), x7, x8, x9, x10, x11, x12]) ?_ ?_
    · try dsimp only
      refine s_if ?_
      repeat walk_at "e"
      refine br (fun h0 => ?_) (fun h0 => ?_)
      · repeat walk_at "e"
        refine w_neD valD_v valD_v smp (pl_tupA (n := 59) all_n) ?_
        rw [eqD_nilT]
        by_cases hz : sm = []
        · rw [decide_eq_true hz]
          repeat walk_at "e"
          exact ⟨_, _, _, _, _, _, _, _, _, _, _, _, hp2.mono (by omega), ft, rfl, rfl⟩
        rw [decide_eq_false hz]
        repeat walk_at "e"
        have sm1 : 1 ≤ sm.length := List.length_pos_iff.mpr hz
        try dsimp only
        refine s_seq ?_
        repeat walk_at "e"
        refine u_draw hp2 (by omega) (by omega) (by omega) fun p3 x hp3 h1 h2 => ⟨_, rfl, nno, ?_⟩
        obtain ⟨xi, rfl⟩ : ∃ xi : Nat, x = xi := ⟨x.toNat, by omega⟩
        obtain ⟨e, he, he2⟩ := atI_pos (xs := sm) (i := (xi : Nat)) h1 h2
        obtain ⟨q, tt, w, rfl, q1, q2, t1, hw⟩ := hsm e (List.mem_of_getElem? he2)
        have hsp : ∀ (e2 : D), Tri e2 → (∃ ds : List D, D.tup (sm.take xi ++ [e2] ++ sm.drop (xi + 1)) = .tup ds ∧ ds.length ≤ 20 ∧ ∀ y ∈ ds, Tri y) ∨ NoTup (D.tup (sm.take xi ++ [e2] ++ sm.drop (xi + 1))) := fun e2 h2 => .inl ⟨_, rfl, by rw [List.length_append, List.length_append, List.length_take, List.length_drop, List.length_singleton]; omega, fun y hy => by
          rcases List.mem_append.mp hy with hy | hy
          · rcases List.mem_append.mp hy with hy | hy
            · exact smt y (List.mem_of_mem_take hy)
            · rw [List.mem_singleton.mp hy]; exact h2
          · exact smt y (List.mem_of_mem_drop hy)⟩
        repeat walk_at "e"
        try dsimp only
        refine s_seq ?_
        repeat walk_at "e"
        try dsimp only
        refine s_seq ?_
        repeat walk_at "e"
        have q3 : (L0 : Int) / (q : Nat) ≤ L0 := Int.ediv_le_self _ (by omega)
        have q4 : 0 ≤ (L0 : Int) / (q : Nat) := Int.ediv_nonneg (by omega) (by omega)
        try dsimp only
        repeat walk_at "e"
        rw [show cutD sm none (some ((xi : Nat) : Int)) = sm.take xi from cutD_take (by omega)]
        refine w_catT (Nat.le_trans (show _ ≤ 13 by simp only [List.length_append, List.length_take, List.length_drop, List.length_cons, List.length_nil]; omega) (Nat.le_of_ble_eq_true rfl)) ?_
        repeat walk_at "e"
        rw [show cutD sm (some ((xi : Nat) + 1 : Int)) none = sm.drop (xi + 1) from cutD_drop (n := xi + 1) (by omega)]
        refine w_catT (Nat.le_trans (show _ ≤ 13 by simp only [List.length_append, List.length_take, List.length_drop, List.length_cons, List.length_nil]; omega) (Nat.le_of_ble_eq_true rfl)) ?_
        repeat walk_at "e"
        exact ⟨_, _, _, _, _, _, _, _, _, _, _, _, hp3.mono (by omega), ⟨sv_k (by omega), ft.b, ft.c, hsp _ (tri_3 (sv_k (by omega)) (sv_k (by omega)) hw)⟩, rfl, rfl⟩
      · repeat walk_at "e"
        exact ⟨_, _, _, _, _, _, _, _, _, _, _, _, hp2.mono (by omega), ft, rfl, rfl⟩
    rintro _ _ ⟨p2, a, b, c, d, tl, x7, x8, x9, x10, x11, x12, hp2, ft, rfl, rfl⟩
    refine s_cut (fun ts' O' => ∃ (p' : List D) (a b c d : D) (tl : List OD) (x7 x8 x9 x10 x11 x12 : G.T), Pen (n + 33) p' ∧ Fit a b c d ∧ O' = .lst p' :: .lst [a, b, c, d] :: tl ∧ ts' = [.own 0, .v (.int (m : Nat)), .v (.lst [.int (L0 : Nat), .int (g : Nat), .tup (nums ms), .tup sm]), .v (.int (dg : Nat)), .own 1, .v (.int y), .v (.int (g : Nat)), x7, x8, x9, x10, x11, x12]) ?_ ?_
    · try dsimp only
      refine s_if ?_
      repeat walk_at "e"
      refine br (fun h0 => ?_) (fun h0 => ?_)
      · repeat walk_at "e"
        refine u_pick hp2 (by omega) (Nat.le_of_ble_eq_true rfl) (Nat.le_of_ble_eq_true rfl) fun p3 j x hp3 hx => ⟨_, rfl, nno, ?_⟩
        have hx : ∃ i : Int, x = .int i ∧ 1 ≤ i ∧ i < 2 ^ 120 := (all_c (Q := fun x : D => ∃ i : Int, x = .int i ∧ 1 ≤ i ∧ i < 2 ^ 120) ⟨_, rfl, by decide, by decide⟩ (all_c ⟨_, rfl, by decide, by decide⟩ (all_c ⟨_, rfl, by decide, by decide⟩ (all_c ⟨_, rfl, by omega, by omega⟩ all_n)))) x (List.mem_of_getElem? hx)
        obtain ⟨i, rfl, hi, hi2⟩ := hx
        repeat walk_at "e"
        have q3 : (L0 : Int) / i ≤ L0 := Int.ediv_le_self _ (by omega)
        have q4 : 0 ≤ (L0 : Int) / i := Int.ediv_nonneg (by omega) (by omega)
        refine w_lc1 ?_ (by decide)
        refine i_tup ?_
        repeat walk_at "e"
        refine lc_A ms D.int (fun _ => .int 0) (by omega) (fun x acc hx => ?_) ?_
        · refine g_name ?_
          repeat walk_at "e"
          exact ⟨rfl, rfl⟩
        repeat walk_at "e"
        refine g_tup rfl ?_
        refine g_cons ?_
        refine g_setL ?_
        repeat walk_at "e"
        refine g_cons ?_
        refine g_setL ?_
        repeat walk_at "e"
        refine g_nil ?_
        have hz0 : ∀ y ∈ (ms.map fun _ => D.int 0), Sv y := fun y hy => by
          obtain ⟨_, _, rfl⟩ := List.mem_map.mp hy
          exact sv_k (by decide)
        exact ⟨_, _, _, _, _, _, _, _, _, _, _, _, hp3.mono (by omega), ⟨sv_k (by omega), ft.b, .inl ⟨_, rfl, by rw [List.length_map]; omega, hz0⟩, ft.d⟩, rfl, rfl⟩
      · repeat walk_at "e"
        exact ⟨_, _, _, _, _, _, _, _, _, _, _, _, hp2.mono (by omega), ft, rfl, rfl⟩
    rintro _ _ ⟨p2, a, b, c, d, tl, x7, x8, x9, x10, x11, x12, hp2, ft, rfl, rfl⟩
    refine s_frz 1 rfl rfl ?_
    repeat walk_at "e"
    exact ⟨rfl, k _ _ _ _ _ (hp2.mono (by omega)) ft⟩
theorem sc_law_right : FnScope ["_law_pen_here", "_law_moduli", "_law_modulus", "_law_coefs", "_law_made_here", "_law_told", "_law_parts", "_law_degree", "_law_turn", "_law_near", "_law_value_here", "_law_odd"] ["_law_pen_here"] (defScope (top 75)) := ⟨rfl, rfl, rfl, by decide +kernel, rfl, by decide +kernel, by decide +kernel⟩
theorem ok_law_right {P : Program} {w : World} {K : PySem.W.Frag} {mg : Str → Option Value} {base : Heap} (T : Tx K mg) (h_law_drawn : Fn P w K mg base 3 (He.fAd K ("_law_drawn", none)) ["_law_pen_here", "_law_moduli", "_law_most"] (sp_l_drawn K)) (h_least_period : Fn P w K mg base 6 (He.fAd K ("least_period", none)) ["a_sum"] (sp_p_leastF K)) (h_law_made : Fn P w K mg base 7 (He.fAd K ("_law_made", none)) ["_law_modulus", "_law_coefs"] (sp_l_made K)) (h_shows_period : Fn P w K mg base 5 (He.fAd K ("shows_period", none)) ["a_sum", "value"] (sp_q_shper K)) (h_law_due : FnG P w K mg base 5 (He.fAd K ("_law_due", none)) 3 (sp_l_due K)) (h_law_bent : Fn P w K mg base 4 (He.fAd K ("_law_bent", none)) ["_law_pen_here", "_law_modulus", "_law_parts", "_law_degree"] (sp_l_bent K)) (h_PeriodU_initU : Fn P w K mg base 1 (He.fAd K ("Period", some "__init__")) ["self", "length", "great", "multipliers", "smalls"] (sp_P_init K)) (h_law_pick : Fn P w K mg base 2 (He.fAd K ("_law_pick", none)) ["_law_pen_here", "_law_some"] (sp_pick K)) : FnG P w K mg base 8 (He.fAd K ("_law_right", none)) 1 (sp_l_right K) := by
  obtain ⟨_, F_law_drawn, b_law_drawn, kp_law_drawn, lk_law_drawn⟩ := h_law_drawn
  obtain ⟨_, F_least_period, b_least_period, kp_least_period, lk_least_period⟩ := h_least_period
  obtain ⟨_, F_law_made, b_law_made, kp_law_made, lk_law_made⟩ := h_law_made
  obtain ⟨_, F_shows_period, b_shows_period, kp_shows_period, lk_shows_period⟩ := h_shows_period
  obtain ⟨_, FK_shows_period⟩ := T.d_shows_period
  have kw_shows_period := kwB (ps := ["a_sum", "value"]) FK_shows_period lk_shows_period fun _ _ _ _ _ _ ws hl => (match ws, hl with | [_, _], _ => rfl)
  obtain ⟨F_law_due, kp_law_due⟩ := h_law_due
  obtain ⟨_, F_law_bent, b_law_bent, kp_law_bent, lk_law_bent⟩ := h_law_bent
  obtain ⟨_, F_PeriodU_initU, b_PeriodU_initU, kp_PeriodU_initU, lk_PeriodU_initU⟩ := h_PeriodU_initU
  obtain ⟨_, F_law_pick, b_law_pick, kp_law_pick, lk_law_pick⟩ := h_law_pick
  have kr_shows_period := kwR (ps := ["a_sum", "value"]) FK_shows_period lk_shows_period fun _ _ _ _ _ _ ws hl => (match ws, hl with | [_, _], _ => rfl)
  obtain ⟨fd, F⟩ := T.d_law_right
  have hc_Period := T.cl_Period
  have hn_Period_great := T.na_Period_great
  have hc_Period := T.cl_Period
  have hn_Period_length := T.na_Period_length
  have hc_Period := T.cl_Period
  have hn_Period_multipliers := T.na_Period_multipliers
  have hc_Period := T.cl_Period
  have hn_Period_smalls := T.na_Period_smalls
  refine fnG (ps := ["_law_pen_here"]) F sc_law_right (lift_len ?_) (F.bindsN fun _ _ _ _ _ _ us hl => (match us, hl with | [_], _ => rfl)) (fun cdv A outer s H vs Q E hgd hr h => ?_)
  · intro ts O P X h
    exact sp_l_right_len h
  · have hu := hr.units
    refine ⟨_, (PSs.nox (pss_cons (ps_set (i := 1) sc_law_right.nd rfl (.inl rfl) (pe_lst (pa_cons pe_int (pa_cons pe_int (pa_cons pe_int (pa_cons pe_int (pa_cons pe_int (pa_cons pe_int (pa_cons pe_int (pa_cons pe_int (pa_cons (pe_op op_pow pe_int pe_int) (pa_cons (pe_op op_pow pe_int pe_int) (pa_cons (pe_op op_pow pe_int pe_int) (pa_cons (pe_op op_add (pe_op op_pow pe_int pe_int) pe_int) (pa_cons (pe_op op_pow pe_int pe_int) pa_nil)))))))))))))))
    (pss_cons (ps_asg (pe_call F_law_drawn (hr.mono (by decide)) (by rfl) T.g__law_drawn kp_law_drawn b_law_drawn .nil passL (pa_cons (pv 0) (pa_cons (pv 1) (pa_cons pe_int pa_nil)))) (pg_tupK K (n := 2) rfl (pgs_cons (pg_name (i := 2) sc_law_right.nd rfl (.inl rfl)) (pgs_cons (pg_name (i := 3) sc_law_right.nd rfl (.inl rfl)) pgs_nil))))
    (pss_cons (ps_par (i := 4) (j := 5) rfl sc_law_right.nd rfl rfl (by decide) rfl rfl (pa_cons (pe_call F_law_made (hr.mono (by decide)) (by rfl) T.g__law_made kp_law_made b_law_made .nil passL (pa_cons (pv 2) (pa_cons (pv 3) pa_nil))) (pa_cons (pe_call F_least_period (hr.mono (by decide)) (by rfl) T.g_least_period kp_least_period b_least_period .nil passL (pa_cons (pe_call F_law_made (hr.mono (by decide)) (by rfl) T.g__law_made kp_law_made b_law_made .nil passL (pa_cons (pv 2) (pa_cons (pv 3) pa_nil))) pa_nil)) pa_nil)) rfl)
    (pss_cons (ps_par (i := 6) (j := 7) rfl sc_law_right.nd rfl rfl (by decide) rfl rfl (pa_cons (pe_lst (pa_cons (pe_fldK K (pv 5)) (pa_cons (pe_fldK K (pv 5)) (pa_cons (pe_fldK K (pv 5)) (pa_cons (pe_fldK K (pv 5)) pa_nil))))) (pa_cons (pe_callB (call_max2 rfl) (by rfl) T.n_max boot_max (pa_cons pe_int (pa_cons (pe_callTy call_int1 (by rfl) T.n_int boot_int (pa_cons (pe_op op_sub (pe_callB (cr_lenK K) (by rfl) T.n_len boot_len (pa_cons (pv 3) pa_nil)) pe_int) pa_nil)) pa_nil))) pa_nil)) rfl)
    (pss_cons (ps_if (PW.pt (pw_or (pt_cmpR op_notBl (pe_call F_shows_period (hr.mono (by decide)) (by rfl) T.g_shows_period kp_shows_period b_shows_period .nil passL (pa_cons (pv 4) (pa_cons (pv 5) pa_nil))) pe_bl (nomark _)) (pw_or1 (pt_not (pt_val (pe_callG F_law_due hgd (hr.mono (by decide)) (by rfl) T.g__law_due kp_law_due passL (pa_cons (pv 2) (pa_cons (pv 3) (pa_cons (pv 6) pa_nil)))))))))
    (pss_one (ps_ret pe_bl))
    pss_nil)
    (pss_cons (ps_for PassesOwn.never rfl (pi_range1 (by rfl) T.n_range (pa_cons pe_int pa_nil)) (pg_name (i := 8) sc_law_right.nd rfl (.inl rfl))
    (pss_cons (ps_set (i := 9) sc_law_right.nd rfl (.inl rfl) (pe_call F_law_bent (hr.mono (by decide)) (by rfl) T.g__law_bent kp_law_bent b_law_bent .nil passL (pa_cons (pv 0) (pa_cons (pv 2) (pa_cons (pv 6) (pa_cons (pv 7) pa_nil))))))
    (pss_cons (ps_set (i := 10) sc_law_right.nd rfl (.inl rfl) (pe_make T.mk_Period F_PeriodU_initU (hr.mono (by decide)) (by rfl) T.g_Period b_PeriodU_initU .nil passL (pa_cons (pe_ix (ix_listK K) (pv 9) pe_int (fun _ _ => rfl)) (pa_cons (pe_ix (ix_listK K) (pv 9) pe_int (fun _ _ => rfl)) (pa_cons (pe_ix (ix_listK K) (pv 9) pe_int (fun _ _ => rfl)) (pa_cons (pe_ix (ix_listK K) (pv 9) pe_int (fun _ _ => rfl)) pa_nil))))))
    (pss_one (ps_if (pt_cmpR op_ne (pe_callB (call_reprG hgd hr K) (by rfl) T.n_repr boot_repr (pa_cons (pe_call F_shows_period (hr.mono (by decide)) (by rfl) T.g_shows_period kp_shows_period b_shows_period .nil passL (pa_cons (pv 4) (pa_cons (pv 10) pa_nil))) pa_nil)) (pe_callB (call_reprG hgd hr K) (by rfl) T.n_repr boot_repr (pa_cons (pe_callG F_law_due hgd (hr.mono (by decide)) (by rfl) T.g__law_due kp_law_due passL (pa_cons (pv 2) (pa_cons (pv 3) (pa_cons (pv 9) pa_nil)))) pa_nil)) (nomark _))
    (pss_one (ps_ret pe_bl))
    pss_nil)))))
    (pss_cons (ps_set (i := 11) sc_law_right.nd rfl (.inl rfl) (pe_call F_law_pick (hr.mono (by decide)) (by rfl) T.g__law_pick kp_law_pick b_law_pick .nil passL (pa_cons (pv 0) (pa_cons (pe_lst (pa_cons pe_non (pa_cons pe_int (pa_cons (pe_fldK K (pv 5)) (pa_cons (pe_callTy (cr_tupK K) (by rfl) T.n_tuple boot_tuple (pa_cons (pv 6) pa_nil)) (pa_cons (pv 6) (pa_cons pe_dnewK (pa_cons (pv 4) (pa_cons pe_bl pa_nil))))))))) pa_nil))))
    (pss_one (ps_ret (pe_cmpR op_isBl (pe_callKr F_shows_period (hr.mono (by decide)) (by rfl) T.g_shows_period kp_shows_period kr_shows_period passL (pk_cons (pv 11) (pk_cons (pv 4) pk_nil))) pe_bl (nomark _)))))))))))), enter h fun ts O P X h _ => ?_⟩
    try dsimp only [cxOf, Cx.nox, Cx.wish]
    
    obtain ⟨n, p, rfl, rfl, hp, hn, k⟩ := h
    show WS _ _ _ _ [.own 0, .no, .no, .no, .no, .no, .no, .no, .no, .no, .no, .no] _
    walk_at "n"
    walk_at "n"
    refine ⟨_, _, [4, 9, 16, 12, 30, 36, 121, 210, 2310 ^ 2, 10 ^ 6, 5 ^ 9, 10 ^ 18 + 9, 10 ^ 30], 13, rfl, rfl, hp, by omega, by decide, by decide, by decide, by decide, fun p1 m cs hp1 ok hcl _ => ⟨_, rfl, nno, ?_⟩⟩
    obtain ⟨mods, hmods⟩ : ∃ mods : D, mods = (.lst (nums ([4, 9, 16, 12, 30, 36, 121, 210, 2310 ^ 2, 10 ^ 6, 5 ^ 9, 10 ^ 18 + 9, 10 ^ 30] : List Int))) := ⟨_, rfl⟩
    have m1 := ok.two
    have m2 := ok.most
    have okl := ok.len
    obtain ⟨M, rfl⟩ : ∃ M : Nat, m = M := ⟨m.toNat, by omega⟩
    repeat walk_at "e"
    refine s_seq ?_
    repeat walk_at "e"
    refine ⟨_, cs, rfl, rfl, m1, m2, okl, ⟨⟨_, rfl⟩, ?_⟩⟩
    rw [ok.same]
    repeat walk_at "e"
    refine ⟨_, cs, rfl, rfl, m1, m2, okl, ⟨⟨_, rfl⟩, ?_⟩⟩
    rw [ok.same]
    repeat walk_at "e"
    refine ⟨_, cs, rfl, rfl, ok, fun L gr ms sm hLp hmf => ⟨⟨_, rfl⟩, ?_⟩⟩
    rw [Int.toNat_natCast] at hLp
    clear hmf
    obtain ⟨lp, lbd, hG, hmu, Ls, hsm, hL⟩ := id hLp
    obtain ⟨sl1, sl2⟩ := hsm.len
    have sl := My.small_len M (cs.length - 1)
    have G1 : 1 ≤ gr := by rw [hG]; exact My.great_pos _ (by omega)
    have GM : gr ≤ M := by
      rw [hG]
      exact Nat.le_of_dvd (by omega) ⟨_, My.great_mul (cs.length - 1) (by omega)⟩
    have L1 := lp.1
    obtain ⟨_, L2⟩ := My.lp_bd (by omega) okl lp
    obtain ⟨u1, u2, u3⟩ := id hmu
    rw [List.length_drop] at u1
    repeat walk_at "e"
    try dsimp only
    refine s_seq ?_
    repeat walk_at "e"
    refine c_max2 ?_
    rw [nums_len, max0]
    repeat walk_at "e"
    try dsimp only
    refine s_seq ?_
    repeat walk_at "e"
    have fit : Fit (.int (L : Nat)) (.int (gr : Nat)) (.tup (nums ms)) (.tup sm) := fit_of okl ok hLp (by omega)
    have due : Due M cs (.int (L : Nat)) (.int (gr : Nat)) (.tup (nums ms)) (.tup sm) := due_of hLp
    refine ⟨_, cs, _, rfl, rfl, ok, .inr ⟨_, _, _, _, rfl, fit, fun r hr => ⟨⟨_, rfl⟩, ?_⟩⟩⟩
    rw [Int.toNat_natCast] at hr
    rw [hr.mpr due]
    repeat walk_at "e"
    refine w_notBl ?_
    rw [decide_eq_true rfl]
    repeat walk_at "e"
    refine ⟨M, cs, _, _, _, _, rfl, rfl, ok, fit, fun r2 hr2 => ⟨⟨_, rfl⟩, ?_⟩⟩
    rw [hr2.mpr due]
    repeat walk_at "e"
    try dsimp only
    refine s_seq ?_
    refine s_forE ?_
    refine i_rng1 ?_
    repeat walk_at "e"
    refine ⟨by decide, ?_⟩
    refine for_R1 (n := 8) (fun i ts' O' => ∃ (q : List D) (x8 x9 x10 : G.T), Pen (n + 40 + 40 * i) q ∧ O' = [.lst q] ∧ ts' = [.own 0, .v mods, .v (.int (M : Nat)), .v (.lst (nums cs)), .v (sumD K (M : Nat) cs), .v (perD K L gr ms sm), .v (.lst [.int (L : Nat), .int (gr : Nat), .tup (nums ms), .tup sm]), .v (.int (cs.length - 1 : Nat)), x8, x9, x10, .no]) ⟨_, _, _, _, hp1, rfl, by rw [hmods] <;> rfl⟩ ?_ ?_
    · rintro i _ _ hi ⟨q, x8, x9, x10, hq, rfl, rfl⟩
      refine g_name ?_
      refine s_seq ?_
      repeat walk_at "e"
      refine ⟨_, _, M, L, gr, ms, sm, cs.length - 1, rfl, rfl, hq, by omega, m2, by omega, G1, by omega, u1, u2, by omega, by omega, sm_in okl ⟨by omega, m2⟩ hsm, fun q2 a b c d hq2 fit2 => ⟨_, rfl, nno, ?_⟩⟩
      repeat walk_at "e"
      try dsimp only
      refine s_seq ?_
      repeat walk_at "e"
      refine ⟨_, _, _, _, rfl, rfl, rfl, _, rfl, ?_⟩
      repeat walk_at "e"
      try dsimp only
      repeat walk_at "e"
      refine ⟨_, cs, _, rfl, rfl, ok, .inr ⟨_, _, _, _, rfl, fit2, fun r3 hr3 => ⟨⟨_, rfl⟩, ?_⟩⟩⟩
      rw [Int.toNat_natCast] at hr3
      repeat walk_at "e"
      refine c_repr (shows_bl r3) ?_
      repeat walk_at "e"
      refine ⟨M, cs, _, _, _, _, rfl, rfl, ok, fit2, fun r4 hr4 => ⟨⟨_, rfl⟩, ?_⟩⟩
      have e34 : r3 = r4 := Bool.eq_iff_iff.mpr (hr3.trans hr4.symm)
      subst e34
      repeat walk_at "e"
      refine c_repr (shows_bl r3) ?_
      refine w_ne rfl rfl rfl ?_
      rw [decide_eq_true rfl]
      repeat walk_at "e"
      exact ⟨_, _, _, _, hq2.mono (by omega), rfl, rfl⟩
    rintro _ _ ⟨q, x8, x9, x10, hq, rfl, rfl⟩
    refine s_seq ?_
    repeat walk_at "e"
    refine u_pick hq (by omega) (Nat.le_of_ble_eq_true rfl) (Nat.le_of_ble_eq_true rfl) fun q2 j x hq2 hx => ⟨_, rfl, nno, ?_⟩
    have hx : ∃ t, TyD K x t ∧ PySem.W.kitOne K t (.ref (He.ga K "Period")) = some false := (all_c (Q := fun x => ∃ t, TyD K x t ∧ PySem.W.kitOne K t (.ref (He.ga K "Period")) = some false) ⟨_, .non, T.kn_Period _ (by decide)⟩ (all_c ⟨_, .int _, T.kn_Period _ (by decide)⟩ (all_c ⟨_, .int _, T.kn_Period _ (by decide)⟩ (all_c ⟨_, .tup _, T.kn_Period _ (by decide)⟩ (all_c ⟨_, .lst _, T.kn_Period _ (by decide)⟩ (all_c ⟨_, .dic _, T.kn_Period _ (by decide)⟩ (all_c ⟨_, .ins _ _ T.it_Sum, T.kit_Sum_Period⟩ (all_c ⟨_, .bl _, T.kn_Period _ (by decide)⟩ all_n)))))))) x (List.mem_of_getElem? hx)
    obtain ⟨t, ht, hk⟩ := hx
    repeat walk_at "e"
    try dsimp only
    repeat walk_at "e"
    refine ⟨_, cs, x, rfl, rfl, ok, .inl ⟨t, ht, hk, ⟨⟨_, rfl⟩, ?_⟩⟩⟩
    repeat walk_at "e"
    refine w_isBl ?_
    exact ⟨rfl, k _ (hq2.mono (by omega))⟩
theorem sc_law : FnScope ["_law_script", "_law_pen_here", "_law_lap", "_law_tri", "_law_rows", "_law_less", "_law_none", ".0", "_law_one"] ["_law_script"] (defScope (top 76)) := ⟨rfl, rfl, rfl, by decide +kernel, rfl, by decide +kernel, by decide +kernel⟩
theorem ok_law {P : Program} {w : World} {K : PySem.W.Frag} {mg : Str → Option Value} {base : Heap} (T : Tx K mg) (h_law_pen : FnRaw P w K mg base 1 (He.fAd K ("_law_pen", none)) ["_law_script"] (penSp K 63)) (h_law_right : FnG P w K mg base 8 (He.fAd K ("_law_right", none)) 1 (sp_l_right K)) (h_SumU_initU : FnS P w K mg base 4 (He.fAd K ("Sum", some "__init__")) 2 (sp_s_init K)) (h_shows_period : Fn P w K mg base 5 (He.fAd K ("shows_period", none)) ["a_sum", "value"] (sp_q_shper K)) (h_PeriodU_initU : Fn P w K mg base 1 (He.fAd K ("Period", some "__init__")) ["self", "length", "great", "multipliers", "smalls"] (sp_P_init K)) : FnG P w K mg base 9 (He.fAd K ("law", none)) 1 (sp_law K) := by
  obtain ⟨_, F_law_pen, b_law_pen, kp_law_pen, lk_law_pen⟩ := h_law_pen
  obtain ⟨F_law_right, kp_law_right⟩ := h_law_right
  obtain ⟨F_SumU_initU, kp_SumU_initU⟩ := h_SumU_initU
  obtain ⟨_, F_shows_period, b_shows_period, kp_shows_period, lk_shows_period⟩ := h_shows_period
  obtain ⟨_, F_PeriodU_initU, b_PeriodU_initU, kp_PeriodU_initU, lk_PeriodU_initU⟩ := h_PeriodU_initU
  obtain ⟨fd, F⟩ := T.d_law
  refine fnG (ps := ["_law_script"]) F sc_law (lift_len ?_) (F.bindsN fun _ _ _ _ _ _ us hl => (match us, hl with | [_], _ => rfl)) (fun cdv A outer s H vs Q E hgd hr h => ?_)
  · intro ts O P X h
    exact sp_law_len h
  · have hu := hr.units
    refine ⟨_, (PSs.nox (pss_cons (ps_set (i := 1) sc_law.nd rfl (.inl rfl) (pe_call F_law_pen (hr.mono (by decide)) (by rfl) T.g__law_pen kp_law_pen b_law_pen .nil passL (pa_cons (pv 0) pa_nil)))
    (pss_cons (ps_for PassesOwn.never rfl (pi_range1 (by rfl) T.n_range (pa_cons pe_int pa_nil)) (pg_name (i := 2) sc_law.nd rfl (.inl rfl))
    (pss_one (ps_if (pt_not (pt_val (pe_callG F_law_right hgd (hr.mono (by decide)) (by rfl) T.g__law_right kp_law_right passL (pa_cons (pv 1) pa_nil))))
    (pss_one (ps_ret pe_bl))
    pss_nil)))
    (pss_cons (ps_asg (pe_tup (pa_cons (StX.pe_makeR T.mk_Sum F_SumU_initU (hr.mono (by decide)) (by rfl) T.g_Sum passL (pa_cons pe_int (pa_cons pe_int (pa_cons pe_int (pa_cons pe_int pa_nil))))) (pa_cons (pe_lst (pa_cons (pe_tup (pa_cons (pe_tup (pa_cons pe_int (pa_cons pe_int (pa_cons pe_int pa_nil)))) pa_nil)) (pa_cons (pe_tup (pa_cons (pe_tup (pa_cons pe_int (pa_cons pe_int (pa_cons pe_int pa_nil)))) pa_nil)) (pa_cons (pe_tup (pa_cons (pe_tup (pa_cons pe_int (pa_cons pe_int (pa_cons pe_int pa_nil)))) pa_nil)) (pa_cons (pe_tup (pa_cons (pe_tup (pa_cons pe_int (pa_cons pe_int (pa_cons pe_int pa_nil)))) pa_nil)) pa_nil))))) pa_nil))) (pg_tupK K (n := 2) rfl (pgs_cons (pg_name (i := 3) sc_law.nd rfl (.inr rfl)) (pgs_cons (pg_name (i := 4) sc_law.nd rfl (.inl rfl)) pgs_nil))))
    (pss_cons (ps_if (pt_cmpR (op_neDK K hu) (pe_lc (own := [(".0", 7), ("_law_one", 8)]) rfl sc_law.nd (pi_listK K (pv 4)) (blkOk_by (own := [(".0", 7), ("_law_one", 8)]) (N := ["_law_script", "_law_pen_here", "_law_lap", "_law_tri", "_law_rows", "_law_less", "_law_none", ".0", "_law_one"]) (sc := defScope (top 76)) (by decide +kernel)) (fun _ _ _ _ _ => (pg_name (i := 8) sc_law.nd rfl (.inl rfl))) (fun _ _ _ _ _ => pts_nil) (fun _ _ _ _ _ => (pe_call F_shows_period (hr.mono (by decide)) (by rfl) T.g_shows_period kp_shows_period b_shows_period .nil passL (pa_cons (pv 3) (pa_cons (pe_make T.mk_Period F_PeriodU_initU (hr.mono (by decide)) (by rfl) T.g_Period b_PeriodU_initU .nil passL (pa_cons pe_int (pa_cons pe_int (pa_cons (pe_tup (pa_cons pe_int (pa_cons pe_int pa_nil))) (pa_cons (pv 8) pa_nil))))) pa_nil))))) (pe_lst (pa_cons pe_bl (pa_cons pe_bl (pa_cons pe_bl (pa_cons pe_bl pa_nil))))) (nomark _))
    (pss_one (ps_ret pe_bl))
    pss_nil)
    (pss_cons (ps_par (i := 5) (j := 6) rfl sc_law.nd rfl rfl (by decide) rfl rfl (pa_cons (pe_make T.mk_Period F_PeriodU_initU (hr.mono (by decide)) (by rfl) T.g_Period b_PeriodU_initU .nil passL (pa_cons pe_int (pa_cons pe_int (pa_cons (pe_tup (pa_cons pe_int (pa_cons pe_int pa_nil))) (pa_cons (pe_tup (pa_cons (pe_tup (pa_cons pe_int (pa_cons pe_int (pa_cons pe_int pa_nil)))) pa_nil)) pa_nil))))) (pa_cons (pe_make T.mk_Period F_PeriodU_initU (hr.mono (by decide)) (by rfl) T.g_Period b_PeriodU_initU .nil passL (pa_cons pe_int (pa_cons pe_int (pa_cons (pe_tup (pa_cons pe_int (pa_cons pe_int pa_nil))) (pa_cons (pe_tup (pa_cons (pe_tup (pa_cons pe_int (pa_cons pe_int (pa_cons pe_int pa_nil)))) pa_nil)) pa_nil))))) pa_nil)) rfl)
    (pss_one (ps_ret (pe_and (pe_not (pe_call F_shows_period (hr.mono (by decide)) (by rfl) T.g_shows_period kp_shows_period b_shows_period .nil passL (pa_cons (pv 3) (pa_cons (pv 5) pa_nil)))) (pe_one (pe_not (pe_call F_shows_period (hr.mono (by decide)) (by rfl) T.g_shows_period kp_shows_period b_shows_period .nil passL (pa_cons (StX.pe_makeR T.mk_Sum F_SumU_initU (hr.mono (by decide)) (by rfl) T.g_Sum passL (pa_cons pe_int (pa_cons pe_int (pa_cons pe_int (pa_cons pe_int pa_nil))))) (pa_cons (pv 6) pa_nil)))))))))))))), enter h fun ts O P X h _ => ?_⟩
    try dsimp only [cxOf, Cx.nox, Cx.wish]
    
    obtain ⟨cs, rfl, rfl, hcs, p⟩ := h
    show WS _ _ _ _ [.v (.scr cs), .no, .no, .no, .no, .no, .no, .no, .no] _
    refine s_seq ?_
    refine s_set ?_
    refine w_pen ?_
    repeat walk_at "e"
    intro p0 hp0
    refine s_seq ?_
    refine s_forE ?_
    refine i_rng1 ?_
    repeat walk_at "e"
    refine ⟨by decide, ?_⟩
    refine for_R1 (n := 5) (fun i ts' O' => ∃ (q : List D) (x1 x2 x3 x4 x5 x6 x7 : G.T), Pen (600 * i) q ∧ O' = [.lst q] ∧ ts' = [.v (.scr cs), .own 0, x1, x2, x3, x4, x5, x6, x7]) ⟨_, _, _, _, _, _, _, _, hp0, rfl, rfl⟩ ?_ ?_
    · rintro i _ _ hi ⟨q0, x1, x2, x3, x4, x5, x6, x7, hpq, rfl, rfl⟩
      refine g_name ?_
      repeat walk_at "e"
      refine ⟨_, _, rfl, rfl, hpq, by omega, fun q1 hq1 => ⟨_, rfl, nno, ?_⟩⟩
      repeat walk_at "e"
      exact ⟨q1, _, _, _, _, _, _, _, hq1.mono (by omega), rfl, rfl⟩
    · rintro _ _ ⟨q0, x1, x2, x3, x4, x5, x6, x7, hpq, rfl, rfl⟩
      refine s_seq ?_
      repeat walk_at "e"
      refine w_makeS ?_
      repeat walk_at "e"
      refine u_init [0, 1, 1] (by decide) (by decide) (by decide) ?_
      rw [trB]
      repeat walk_at "e"
      try dsimp only
      refine s_seq ?_
      repeat walk_at "e"
      refine w_lc1 ?_ (by decide)
      refine i_list ?_
      repeat walk_at "e"
      refine lc_A [((3 : Nat), (0 : Nat)), (3, 1), (4, 0), (2, 0)] (fun x => .tup [.tup [.int ((2 : Nat) : Int), .int (x.1 : Nat), .int (x.2 : Nat)]]) (fun x => .bl (decide (x = (3, 0)))) (by decide) (fun x acc hx => ?_) ?_
      · have hx5 : x.1 ≤ 5 ∧ x.2 ≤ 5 := by
          revert x
          decide
        refine g_name ?_
        repeat walk_at "e"
        refine ⟨_, _, _, _, rfl, rfl, rfl, _, rfl, ?_⟩
        repeat walk_at "e"
        refine ⟨((4 : Nat) : Int), [0, 1, 1], _, rfl, rfl, okB, .inr ⟨_, _, _, _, rfl, fit_tri (L := 8) (G := 1) (a := x.1) (b := x.2) (by decide) (by decide) (by omega) (by omega), fun r hr => ⟨⟨_, rfl⟩, ?_⟩⟩⟩
        have hr2 : r = decide (x = (3, 0)) := by
          refine Bool.eq_iff_iff.mpr (hr.trans (due_tri.trans ?_))
          rw [decide_eq_true_iff]
          obtain ⟨x1, x2⟩ := x
          rw [Prod.mk.injEq]
          exact ⟨fun h => h.2, fun h => ⟨rfl, h⟩⟩
        rw [hr2]
        exact ⟨rfl, rfl⟩
      repeat walk_at "e"
      refine w_neD (d := .lst [.bl true, .bl false, .bl false, .bl false]) (e := .lst [.bl true, .bl false, .bl false, .bl false]) valD_v valD_v (by decide +kernel) (by decide +kernel) ?_
      rw [eqD_refl (by decide +kernel)]
      repeat walk_at "e"
      try dsimp only
      refine s_seq ?_
      repeat walk_at "e"
      refine ⟨_, _, _, _, rfl, rfl, rfl, _, rfl, ?_⟩
      repeat walk_at "e"
      refine ⟨_, _, _, _, rfl, rfl, rfl, _, rfl, ?_⟩
      repeat walk_at "e"
      try dsimp only
      repeat walk_at "e"
      refine ⟨((4 : Nat) : Int), [0, 1, 1], _, rfl, rfl, okB, .inr ⟨_, _, _, _, rfl, fit_tri (L := 4) (G := 1) (a := 2) (b := 0) (by decide) (by decide) (by decide) (by decide), fun r hr => ⟨⟨_, rfl⟩, ?_⟩⟩⟩
      have hr2 : r = false := by
        cases r with
        | false => rfl
        | true =>
          have z : (4 : Nat) = 8 := (due_tri.mp (hr.mp rfl)).1
          exact absurd z (by decide)
      rw [hr2]
      repeat walk_at "e"
      refine w_makeS ?_
      repeat walk_at "e"
      refine u_init [0, 6, 5] (by decide) (by decide) (by decide) ?_
      rw [trC]
      repeat walk_at "e"
      refine ⟨((30 : Nat) : Int), [0, 6, 5], _, rfl, rfl, (by rw [← trC]; exact .of (by decide) (by decide) (by decide)), .inr ⟨_, _, _, _, rfl, fit_tri (L := 4) (G := 15) (a := 2) (b := 0) (by decide) (by decide) (by decide) (by decide), fun r hr => ⟨⟨_, rfl⟩, ?_⟩⟩⟩
      have hr2 : r = false := by
        cases r with
        | false => rfl
        | true => exact absurd (hr.mp rfl) due_none
      rw [hr2]
      repeat walk_at "e"
      exact p
end My

set_option Elab.async false
set_option linter.all false
set_option maxRecDepth 100000
set_option maxHeartbeats 0
namespace My
open PySem PySem.Spec PyProof.Rows L2 G
theorem facts {P : Program} {w : World} {K : PySem.W.Frag} {h : Heap} {mg : Str → Option Value} {f : Addr} (X : K.In h) (G : h.Ns mainGlobals mg) (hfa : mg ("law" : Str) = some (.ref f)) (c : He.SaysD fa fn K) (e : ex K = true) (ee : es.map (fun d => fnE K (d.f K)) ++ prs.map (fun d => fnE K (d.g K)) = es.map ExD.val ++ prs.map PrD.val) (hP : POk P "/claim/cut.py") :
    ∀ base : Heap, K.In base → base.Ns mainGlobals mg → TabsB K mg base → FnRG P w K mg base (CXa P) 9 f (lift K (_root_.G.sp_law K)) := by
  have T := tx X G c e ee
  have ef := hfa.symm.trans T.g_law
  cases ef
  intro base _ _ TB
  have h_is_integer : Fn P w K mg base 1 (He.fAd K ("is_integer", none)) ["value"] (sp_is_integer K) := ok_is_integer T 
  have h_is_between : Fn P w K mg base 2 (He.fAd K ("is_between", none)) ["value", "low", "high"] (sp_is_between K) := ok_is_between T h_is_integer
  have h_fits_modulus : Fn P w K mg base 3 (He.fAd K ("fits_modulus", none)) ["value"] (sp_fits_modulus K) := ok_fits_modulus T h_is_between
  have h_law_pen : FnRaw P w K mg base 1 (He.fAd K ("_law_pen", none)) ["_law_script"] (penSp K 63) := ok_law_pen T 
  have h_law_draw : Fn P w K mg base 1 (He.fAd K ("_law_draw", none)) ["_law_pen_here", "_law_many"] (sp_draw K) := ok_law_draw T 
  have h_law_pick : Fn P w K mg base 2 (He.fAd K ("_law_pick", none)) ["_law_pen_here", "_law_some"] (sp_pick K) := ok_law_pick T h_law_draw
  have h_binomial : Fn P w K mg base 1 (He.fAd K ("binomial", none)) ["n", "j"] (sp_binomial K) := ok_binomial T 
  have h_power_of : Fn P w K mg base 1 (He.fAd K ("power_of", none)) ["number", "times"] (sp_power_of K) := ok_power_of T 
  have h_times_in : Fn P w K mg base 1 (He.fAd K ("times_in", none)) ["number", "prime"] (sp_times_in K) := ok_times_in T 
  have h_small_in : Fn P w K mg base 2 (He.fAd K ("small_in", none)) ["number", "most"] (sp_small_in K) := ok_small_in T h_times_in
  have h_great_in : Fn P w K mg base 3 (He.fAd K ("great_in", none)) ["number", "most"] (sp_great_in K) := ok_great_in T h_small_in h_power_of
  have h_combined : Fn P w K mg base 1 (He.fAd K ("combined", none)) ["one", "other"] (sp_combined K) := ok_combined T 
  have h_shared_in : Fn P w K mg base 2 (He.fAd K ("shared_in", none)) ["modulus", "numbers"] (sp_shared_in K) := ok_shared_in T h_combined
  have h_are_multipliers : Fn P w K mg base 3 (He.fAd K ("are_multipliers", none)) ["value", "many", "modulus"] (sp_are_multipliers K) := ok_are_multipliers T h_is_between
  have h_is_written : Fn P w K mg base 1 (He.fAd K ("is_written", none)) ["word"] (sp_w_written K) := ok_is_written T 
  have h_WordsU_initU : Fn P w K mg base 1 (He.fAd K ("Words", some "__init__")) ["self", "line", "text"] (sp_w_init K) := ok_WordsU_initU T 
  have h_Words_next_word : Fn P w K mg base 1 (He.fAd K ("Words", some "next_word")) ["self"] (sp_w_next K) := ok_Words_next_word T 
  have h_Words_refuse : Fn P w K mg base 1 (He.fAd K ("Words", some "refuse")) ["self"] (sp_w_refuse K) := ok_Words_refuse T 
  have h_Words_take_word : Fn P w K mg base 2 (He.fAd K ("Words", some "take_word")) ["self", "menu"] (sp_w_word K) := ok_Words_take_word T h_Words_next_word h_Words_refuse
  have h_Words_take_number : Fn P w K mg base 2 (He.fAd K ("Words", some "take_number")) ["self", "least", "most"] (sp_w_number K) := ok_Words_take_number T h_Words_next_word h_is_written h_Words_refuse
  have h_Words_take_end : Fn P w K mg base 2 (He.fAd K ("Words", some "take_end")) ["self"] (sp_w_end K) := ok_Words_take_end T h_Words_next_word h_Words_refuse
  have h_trimmed : Fn P w K mg base 1 (He.fAd K ("trimmed", none)) ["modulus", "numbers"] (sp_s_trimmed K) := ok_trimmed T 
  have h_SumU_initU : FnS P w K mg base 4 (He.fAd K ("Sum", some "__init__")) 2 (sp_s_init K) := ok_SumU_initU T h_fits_modulus h_is_integer h_trimmed
  have h_Sum_degree : Fn P w K mg base 1 (pr_Sum_degree.g K) ["self"] (sp_s_deg K) := ok_Sum_degree T 
  have h_coefs_read : Fn P w K mg base 3 (He.fAd K ("coefs_read", none)) ["words", "modulus"] (sp_w_coefs K) := ok_coefs_read T h_Words_take_number h_Words_next_word h_Words_take_end h_Words_refuse
  have h_Sum_read : Fn P w K mg base 6 (pr_Sum_read.g K) ["text"] (sp_s_read K) := ok_Sum_read T h_WordsU_initU h_Words_take_word h_Words_take_number h_coefs_read h_SumU_initU
  have h_need_sum : Fn P w K mg base 1 (He.fAd K ("need_sum", none)) ["a_sum"] (sp_p_need K) := ok_need_sum T 
  have h_left_in : Fn P w K mg base 2 (He.fAd K ("left_in", none)) ["coefs", "row", "length"] (sp_p_leftin K) := ok_left_in T h_binomial
  have h_keeps : Fn P w K mg base 3 (He.fAd K ("keeps", none)) ["coefs", "modulus", "length"] (sp_p_keeps K) := ok_keeps T h_left_in
  have h_leaving_row : Fn P w K mg base 3 (He.fAd K ("leaving_row", none)) ["coefs", "modulus", "length"] (sp_p_leaving K) := ok_leaving_row T h_left_in
  have h_small_power : Fn P w K mg base 4 (He.fAd K ("small_power", none)) ["coefs", "prime", "times"] (sp_p_power K) := ok_small_power T h_keeps h_power_of
  have h_small_shown : Fn P w K mg base 5 (He.fAd K ("small_shown", none)) ["coefs", "prime", "times"] (sp_p_shown K) := ok_small_shown T h_small_power h_leaving_row h_power_of
  have h_PeriodU_initU : Fn P w K mg base 1 (He.fAd K ("Period", some "__init__")) ["self", "length", "great", "multipliers", "smalls"] (sp_P_init K) := ok_PeriodU_initU T 
  have h_PeriodU_eqU : Fn P w K mg base 1 (He.fAd K ("Period", some "__eq__")) ["self", "other"] (sp_P_eq K) := ok_PeriodU_eqU T 
  have h_least_period : Fn P w K mg base 6 (He.fAd K ("least_period", none)) ["a_sum"] (sp_p_leastF K) := ok_least_period T h_need_sum h_great_in h_Sum_degree h_shared_in h_small_in h_small_shown h_power_of h_PeriodU_initU
  have h_most_power : Fn P w K mg base 2 (He.fAd K ("most_power", none)) ["prime", "most"] (sp_q_most K) := ok_most_power T h_power_of
  have h_divisor_shown : Fn P w K mg base 1 (He.fAd K ("divisor_shown", none)) ["great", "coefs", "multipliers"] (sp_q_divsh K) := ok_divisor_shown T 
  have h_shows_small : Fn P w K mg base 4 (He.fAd K ("shows_small", none)) ["a_sum", "value", "prime", "times"] (sp_q_shsm K) := ok_shows_small T h_is_between h_power_of h_most_power h_Sum_degree h_keeps h_left_in
  have h_shows_period : Fn P w K mg base 5 (He.fAd K ("shows_period", none)) ["a_sum", "value"] (sp_q_shper K) := ok_shows_period T h_need_sum h_great_in h_Sum_degree h_is_integer h_is_between h_are_multipliers h_divisor_shown h_small_in h_shows_small h_power_of
  have h_law_choose : Fn P w K mg base 1 (He.fAd K ("_law_choose", none)) ["_law_n", "_law_j"] (sp_l_bin K) := ok_law_choose T 
  have h_law_cut : Fn P w K mg base 1 (He.fAd K ("_law_cut", none)) ["_law_modulus", "_law_coefs"] (sp_l_trim K) := ok_law_cut T 
  have h_law_made : Fn P w K mg base 7 (He.fAd K ("_law_made", none)) ["_law_modulus", "_law_coefs"] (sp_l_made K) := ok_law_made T h_law_cut h_Sum_read
  have h_law_value : Fn P w K mg base 2 (He.fAd K ("_law_value", none)) ["_law_modulus", "_law_coefs", "_law_n"] (sp_l_value K) := ok_law_value T h_law_choose
  have h_law_drawn : Fn P w K mg base 3 (He.fAd K ("_law_drawn", none)) ["_law_pen_here", "_law_moduli", "_law_most"] (sp_l_drawn K) := ok_law_drawn T h_law_pick h_law_draw h_law_cut
  have h_law_left : Fn P w K mg base 2 (He.fAd K ("_law_left", none)) ["_law_modulus", "_law_coefs", "_law_row", "_law_length"] (sp_l_left K) := ok_law_left T h_law_choose
  have h_law_parted : Fn P w K mg base 1 (He.fAd K ("_law_parted", none)) ["_law_modulus", "_law_most"] (sp_l_parted K) := ok_law_parted T 
  have h_law_common : Fn P w K mg base 1 (He.fAd K ("_law_common", none)) ["_law_one", "_law_other"] (sp_l_common K) := ok_law_common T 
  have h_law_leaves : Fn P w K mg base 3 (He.fAd K ("_law_leaves", none)) ["_law_modulus", "_law_coefs", "_law_length"] (sp_l_leaves K) := ok_law_leaves T h_law_left
  have h_law_power : Fn P w K mg base 1 (He.fAd K ("_law_power", none)) ["_law_number", "_law_times"] (sp_l_power K) := ok_law_power T 
  have h_law_is_int : Fn P w K mg base 1 (He.fAd K ("_law_is_int", none)) ["_law_value_here"] (sp_l_isint K) := ok_law_is_int T 
  have h_law_triple_right : FnG P w K mg base 4 (He.fAd K ("_law_triple_right", none)) 3 (sp_l_tri K) := ok_law_triple_right T h_law_is_int h_law_power h_law_leaves
  have h_law_due : FnG P w K mg base 5 (He.fAd K ("_law_due", none)) 3 (sp_l_due K) := ok_law_due T h_law_parted h_law_is_int h_law_common h_law_triple_right h_law_power
  have h_law_bent_triple : Fn P w K mg base 3 (He.fAd K ("_law_bent_triple", none)) ["_law_pen_here", "_law_triple", "_law_degree"] (sp_l_btri K) := ok_law_bent_triple T h_law_draw h_law_pick
  have h_law_bent : Fn P w K mg base 4 (He.fAd K ("_law_bent", none)) ["_law_pen_here", "_law_modulus", "_law_parts", "_law_degree"] (sp_l_bent K) := ok_law_bent T h_law_draw h_law_pick h_law_bent_triple
  have h_law_right : FnG P w K mg base 8 (He.fAd K ("_law_right", none)) 1 (sp_l_right K) := ok_law_right T h_law_drawn h_least_period h_law_made h_shows_period h_law_due h_law_bent h_PeriodU_initU h_law_pick
  have h_law : FnG P w K mg base 9 (He.fAd K ("law", none)) 1 (sp_law K) := ok_law T h_law_pen h_law_right h_SumU_initU h_shows_period h_PeriodU_initU
  exact fn_endG h_law (by decide)
end My
open PySem PySem.W PySem.Calls PyProof.Rows
theorem PySem.Challenge.cw_restchains_k24_periods_looked_at_holds : PySem.Challenge.rw_restchains_k24_periods_looked_at.Holds := by
  w_on; o_law
  refine HandSHeadRun.head_any (r := My.R) (q := view My.R.prog [76]) (H := My.hk) (ob := My.ob) (M := 9000) (loose := My.loose) (d := HandSHeadRun.topDef My.R.prog 76) (kwd := []) My.ob_eq
    (by kernel_rfl) (fun s => by kernel_rfl) My.run (by kernel_rfl) (by kernel_rfl) (by kernel_rfl) (by rfl) (by first | assumption | decide +kernel) (by decide +kernel) ⟨rfl, rfl, rfl, rfl, rfl, by decide +kernel⟩ ?hw ?hc
  case hw => w_witness2

  case hc =>
    refine _root_.G.walk_ofG (l := PySem.Challenge.rw_restchains_k24_periods_looked_at) (n := 63) (k := 9) (CX := G.CXa My.R.prog) rfl (by decide) (by kernel_rfl) ⟨rfl, by decide, by decide⟩ ?F (fun _ _ _ _ z => G.cxa_nil z)
    intro w mg fa h Y G hmg0
    obtain ⟨K, KX, c, e, ee, th⟩ := Y
    have hmg : mg ("law" : PySem.Str) = some (.ref fa) := by
      have e0 : (HandSHeadRun.topDef My.R.prog 76).name = ("law" : PySem.Str) := by kernel_rfl
      rw [← e0]
      exact hmg0
    exact ⟨K, KX, th, My.facts (P := My.R.prog) (w := w) KX G hmg c e ee (⟨by kernel_rfl, by kernel_rfl⟩ : _root_.G.POk My.R.prog "/claim/cut.py")⟩


