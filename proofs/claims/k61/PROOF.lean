import PyProof.Rows.All
import Wide.All
import OpenK.AllK
import Wide.FinOn
import KE.KStateDown
import HandS.ForMost
import HandS.Defaults
import HandS.Head2
import HandS.HeadEnd
import HandS.HeadHook2
import HandS.Wide
import HandS.IsInst
import HandS.Star
import HandS.Evl
import HandS.TryOnly
import HandS.ExcOwn
import HandS.WordsExc
import HandS.Zip
import HandS.Rev
import HandS.TupAny
import HandS.Style
import HandS.Steps
import KE.GoesEnum
import PySem.Challenge.RW_restchains_k61_longest_looked_at
import HandS.Base
import HandS.Lambda
import HandS.More
import HandS.ExcInit
import HandS.ExcSuper
import HandS.ExcIs
import HandS.ExcField
import HandS.Nested
import KE.KExcSuper
import HandS.ExcValue
import KE.KIsAll
import KE.KTryMore
import HandS.EndTab
import PyProof.ReprRoads
import HandS.HeadNt
import HandS.HeadHook4
import HandS.Property
import HandS.SlotsOwn
import HandS.TupMul
import HandS.IterVal
import KE.KOwnIter
import HandS.Conv
import HandS.FStr
import HandS.Text
import KE.KCallOwn
import PyProof.FitsInt
import HandS.ClsMeth
import KE.GoesNew
import HandS.OwnEq
import HandS.MakeKwOnly
import HandS.Small
import HandS.WideBits
import HandS.Flow
import PyProof.StrBlock2
import HandS.HeadHook3
import HandS.Exc
import HandS.Comp
import PyProof.Conv_bool
import HandS.HeadWalk
import HandS.DictComp
import HandS.SortInts
import HandS.Iter
import HandS.Records
import HandS.GenList
import HandS.Deep
import HandS.TupLe
import PyProof.IsiBase
import PyProof.IsiH_set
import PyProof.FactsAll.object_1
import HandS.DictSubView0
import PyProof.EqKinds
import PyProof.NeKinds
set_option Elab.async false
set_option linter.all false
set_option maxRecDepth 100000
namespace G
open PySem PySem.Spec PyProof.Rows L2
/-- sys.modules stands in the fragment, and is no list -/
def SysK (K : PySem.W.Frag) : Prop := ∃ o, K.lookup sysModules = some o ∧ o.cls ≠ .type "list"
def sysB (K : PySem.W.Frag) : Bool := match K.lookup sysModules with
  | some o => !(o.cls == .type "list")
  | none => false
theorem sysk_of {K : PySem.W.Frag} (h : sysB K = true) : SysK K := by
  unfold sysB at h
  cases e : K.lookup sysModules with
  | none =>
    rw [e] at h
    cases h
  | some o =>
    rw [e] at h
    have h : (!(o.cls == .type "list")) = true := h
    refine ⟨o, e, fun z => ?_⟩
    rw [z] at h
    exact absurd h (by decide)
end G

set_option Elab.async false
set_option linter.all false
set_option maxRecDepth 100000
set_option maxHeartbeats 4000000
namespace G
open PySem PySem.Spec PyProof.Rows L2

inductive D where
  | non | bl (b : Bool) | int (i : Int) | str (x : Str) | ty (n : String) | ref (a : Addr)
  | lst (xs : List D) | tup (xs : List D) | ins (C : Addr) (fs : List (Str × D)) | dic (kvs : List (Key × D)) | scr (ns : List Int) | exc (C : Addr) (fs : List (Str × D)) | ext (R : Hp → Addr → Prop)
/-- a slot, a value: plain data, or the i-th thing that is owned, or unknown -/
inductive T where
  | v (d : D) | own (i : Nat) | no | clo (R : Hp → List Addr → Prop) (f : Addr)
/-- what an owned thing holds -/
inductive OD where
  | lst (xs : List D) | ins (C : Addr) (fs : List (Str × D)) | dic (kvs : List (Key × D)) | gone

/-- at a: an exception that was caught, of the class C, its dict at d -/
def excH (a C : Addr) (d : Option Addr) : HO := .ext fun h => ∃ oe : Obj, h.get? a = some oe ∧ oe.cls = .ref C ∧ oe.dict = d ∧ ∃ vs, oe.data = .fields vs
/-- no table of code objects -/
def NT (o : HO) : Prop := ∀ ps, o ≠ .tbl ps
/-- all but the tables stay -/
def Ex (H H' : Hp) : Prop := ∀ a o, H a = some o → NT o → H' a = some o
theorem Ex.of {H H' : Hp} (e : ∀ a o, H a = some o → H' a = some o) : Ex H H' := fun a o h _ => e a o h
theorem Ex.refl (H : Hp) : Ex H H := fun _ _ h _ => h
theorem Ex.trans {H H1 H2 : Hp} (a : Ex H H1) (b : Ex H1 H2) : Ex H H2 := fun x o h n => b x o (a x o h n) n
mutual
def Rep (K : PySem.W.Frag) (H : Hp) : D → V → Prop
  | .non, v => v = .non
  | .bl b, v => v = .bl b
  | .int i, v => v = .int i
  | .str x, v => v = .str x
  | .ty n, v => v = .ty n
  | .ref a, v => v = .ref a
  | .lst ds, v => ∃ a vs, v = .ref a ∧ H a = some (.lst vs) ∧ RepL K H ds vs
  | .scr ns, v => ∃ a, v = .ref a ∧ SqL K H a (ns.map V.int)
  | .ext R, v => ∃ a H0, v = .ref a ∧ Ex H0 H ∧ R H0 a
  | .exc C fs, v => ∃ a d vs, v = .ref a ∧ H a = some (excH a C (some d)) ∧ H d = some (.xd vs) ∧ RepF K H fs vs
  | .tup ds, v => ∃ a vs, v = .ref a ∧ SqT K H a vs ∧ RepL K H ds vs
  | .ins C fs, v => ∃ a dx vs, v = .ref a ∧ H a = some (.ins C dx vs) ∧ RepF K H fs vs
  | .dic kvs, v => ∃ a ws, v = .ref a ∧ H a = some (.dK ws) ∧ RepK K H kvs ws
def RepL (K : PySem.W.Frag) (H : Hp) : List D → List V → Prop
  | [], vs => vs = []
  | d :: ds, vs => ∃ v r, vs = v :: r ∧ Rep K H d v ∧ RepL K H ds r
def RepF (K : PySem.W.Frag) (H : Hp) : List (Str × D) → List (Str × V) → Prop
  | [], vs => vs = []
  | p :: ds, vs => ∃ v r, vs = (p.1, v) :: r ∧ Rep K H p.2 v ∧ RepF K H ds r
def RepK (K : PySem.W.Frag) (H : Hp) : List (Key × D) → List (Key × V) → Prop
  | [], vs => vs = []
  | p :: ds, vs => ∃ v r, vs = (p.1, v) :: r ∧ Rep K H p.2 v ∧ RepK K H ds r
end

theorem nt_exc {a C : Addr} {d : Option Addr} : NT (excH a C d) := fun _ z => by
  unfold excH at z
  cases z
/-- neither a table nor a code object -/
def OB (o : HO) : Prop := NT o ∧ ∀ c q, o ≠ LamX.CodeO c q
theorem ob_of {o : HO} (n : NT o) (h : ∀ P, o ≠ .ext P) : OB o := ⟨n, fun c q z => by
  unfold LamX.CodeO at z
  exact h _ z⟩
theorem ob_lst {vs : List V} : OB (.lst vs) := ob_of (fun _ z => by cases z) fun _ z => by cases z
theorem ob_ins {C dx : Addr} {vs : List (Str × V)} : OB (.ins C dx vs) := ob_of (fun _ z => by cases z) fun _ z => by cases z
theorem ob_dK {vs : List (Key × V)} : OB (.dK vs) := ob_of (fun _ z => by cases z) fun _ z => by cases z
theorem Ex.l {K : PySem.W.Frag} {H H' : Hp} {a : Addr} {xs : List V} (e : Ex H H') (h : SqL K H a xs) : SqL K H' a xs := by
  rcases h with (h | ⟨o, h⟩) | h
  · exact .inl (.inl (e _ _ h (by (first | assumption | exact nt_exc | exact fun _ z => (by cases z)))))
  · exact .inl (.inr ⟨o, e _ _ h (by (first | assumption | exact nt_exc | exact fun _ z => (by cases z)))⟩)
  · exact .inr h
theorem Ex.t {K : PySem.W.Frag} {H H' : Hp} {a : Addr} {xs : List V} (e : Ex H H') (h : SqT K H a xs) : SqT K H' a xs := by
  rcases h with (h | ⟨o, h⟩) | h
  · exact .inl (.inl (e _ _ h (by (first | assumption | exact nt_exc | exact fun _ z => (by cases z)))))
  · exact .inl (.inr ⟨o, e _ _ h (by (first | assumption | exact nt_exc | exact fun _ z => (by cases z)))⟩)
  · exact .inr h
/-- the code objects that the written part has, their tables where these are not in it, the names of the code objects that they will tell -/
def csT (K : PySem.W.Frag) : List ((Addr × Addr) × Str) := K.filterMap fun p => match p.2 with
  | ⟨.type c, _, .fields vs, _⟩ => if c = "code" then (match (vs[11]? : Option Value), (vs[1]? : Option Value) with
    | some (.ref P), some (.str n _) => if (K.lookup P).isNone then some ((p.1, P), n ++ (".<locals>." : Str) ++ ("<lambda>" : Str)) else none
    | _, _ => none) else none
  | _ => none
def tabT (K : PySem.W.Frag) : List (Addr × Str) := (csT K).map fun q => (q.1.2, q.2)
/-- every one of them is in order -/
def TabsK (K : PySem.W.Frag) (H : Hp) : Prop := LamX.Tabs (tabT K) H
theorem TabsK.ext {K : PySem.W.Frag} {H H' : Hp} (t : TabsK K H) (e : ∀ b o, H b = some o → H' b = some o) : TabsK K H' := LamX.Tabs.ext t e
/-- an object that is neither a table nor a code object changes -/
theorem TabsK.upd {K : PySem.W.Frag} {H : Hp} {a : Addr} {o : HO} (t : TabsK K H) (h : H a = some o) (n : NT o) (nc : ∀ c q, o ≠ LamX.CodeO c q) (w : HO) : TabsK K (upd H a w) := fun p hp => by
  obtain ⟨ps, h1, h2, h3⟩ := t p hp
  refine ⟨ps, ?_, h2, fun pos cv hc => ?_⟩
  · rw [upd_ne (fun z => by rw [z, h] at h1; exact n ps (Option.some.inj h1))]
    exact h1
  · obtain ⟨c, e1, e2⟩ := h3 pos cv hc
    refine ⟨c, e1, ?_⟩
    rw [upd_ne (fun z => by rw [z, h] at e2; exact nc _ _ (Option.some.inj e2))]
    exact e2

mutual
theorem Rep.ex {K : PySem.W.Frag} {H H' : Hp} (e : Ex H H') : ∀ (d : D) {v : V}, Rep K H d v → Rep K H' d v
  | .non, _, h => h
  | .bl _, _, h => h
  | .int _, _, h => h
  | .str _, _, h => h
  | .ty _, _, h => h
  | .ref _, _, h => h
  | .lst ds, _, h => by
    obtain ⟨a, vs, e1, h1, h2⟩ := h
    exact ⟨a, vs, e1, e _ _ h1 (by (first | assumption | exact nt_exc | exact fun _ z => (by cases z))), RepL.ex e ds h2⟩
  | .ext R, _, h => by
    obtain ⟨a, H0, e1, e0, r⟩ := h
    exact ⟨a, H0, e1, e0.trans e, r⟩
  | .scr ns, _, h => by
    obtain ⟨a, e1, h1⟩ := h
    exact ⟨a, e1, e.l h1⟩
  | .exc C fs, _, h => by
    obtain ⟨a, d, vs, e1, h1, h2, h3⟩ := h
    exact ⟨a, d, vs, e1, e _ _ h1 (by (first | assumption | exact nt_exc | exact fun _ z => (by cases z))), e _ _ h2 (by (first | assumption | exact nt_exc | exact fun _ z => (by cases z))), RepF.ex e fs h3⟩
  | .tup ds, _, h => by
    obtain ⟨a, vs, e1, h1, h2⟩ := h
    exact ⟨a, vs, e1, e.t h1, RepL.ex e ds h2⟩
  | .ins C fs, _, h => by
    obtain ⟨a, dx, vs, e1, h1, h2⟩ := h
    exact ⟨a, dx, vs, e1, e _ _ h1 (by (first | assumption | exact nt_exc | exact fun _ z => (by cases z))), RepF.ex e fs h2⟩
  | .dic kvs, _, h => by
    obtain ⟨a, ws, e1, h1, h2⟩ := h
    exact ⟨a, ws, e1, e _ _ h1 (by (first | assumption | exact nt_exc | exact fun _ z => (by cases z))), RepK.ex e kvs h2⟩
theorem RepL.ex {K : PySem.W.Frag} {H H' : Hp} (e : Ex H H') : ∀ (ds : List D) {vs : List V}, RepL K H ds vs → RepL K H' ds vs
  | [], _, h => h
  | d :: ds, _, h => by
    obtain ⟨v, r, e1, h1, h2⟩ := h
    exact ⟨v, r, e1, Rep.ex e d h1, RepL.ex e ds h2⟩
theorem RepF.ex {K : PySem.W.Frag} {H H' : Hp} (e : Ex H H') : ∀ (ds : List (Str × D)) {vs : List (Str × V)}, RepF K H ds vs → RepF K H' ds vs
  | [], _, h => h
  | p :: ds, _, h => by
    obtain ⟨v, r, e1, h1, h2⟩ := h
    exact ⟨v, r, e1, Rep.ex e p.2 h1, RepF.ex e ds h2⟩
theorem RepK.ex {K : PySem.W.Frag} {H H' : Hp} (e : Ex H H') : ∀ (ds : List (Key × D)) {vs : List (Key × V)}, RepK K H ds vs → RepK K H' ds vs
  | [], _, h => h
  | p :: ds, _, h => by
    obtain ⟨v, r, e1, h1, h2⟩ := h
    exact ⟨v, r, e1, Rep.ex e p.2 h1, RepK.ex e ds h2⟩
end
theorem RepL.length {K : PySem.W.Frag} {H : Hp} : ∀ {ds : List D} {vs : List V}, RepL K H ds vs → vs.length = ds.length
  | [], _, h => by rw [show _ = [] from h] <;> rfl
  | d :: ds, _, h => by
    obtain ⟨v, r, e1, h1, h2⟩ := h
    rw [e1, List.length_cons, List.length_cons, RepL.length h2]
theorem RepL.get {K : PySem.W.Frag} {H : Hp} : ∀ {ds : List D} {vs : List V} {i : Nat} {d : D}, RepL K H ds vs → ds[i]? = some d → ∃ v, vs[i]? = some v ∧ Rep K H d v
  | [], _, _, _, _, h => by simp at h
  | d :: ds, _, 0, _, h, q => by
    obtain ⟨v, r, e1, h1, h2⟩ := h
    have e : d = _ := Option.some.inj q
    subst e e1
    exact ⟨v, rfl, h1⟩
  | d :: ds, _, i + 1, _, h, q => by
    obtain ⟨v, r, e1, h1, h2⟩ := h
    subst e1
    exact RepL.get (i := i) h2 q
theorem RepL.append {K : PySem.W.Frag} {H : Hp} : ∀ {ds es : List D} {vs ws : List V}, RepL K H ds vs → RepL K H es ws → RepL K H (ds ++ es) (vs ++ ws)
  | [], _, _, _, h, q => by
    rw [show _ = [] from h]
    exact q
  | d :: ds, _, _, _, h, q => by
    obtain ⟨v, r, e1, h1, h2⟩ := h
    subst e1
    exact ⟨v, _, rfl, h1, RepL.append h2 q⟩
theorem RepL.take {K : PySem.W.Frag} {H : Hp} : ∀ {ds : List D} {vs : List V} (n : Nat), RepL K H ds vs → RepL K H (ds.take n) (vs.take n)
  | ds, vs, 0, _ => by
    rw [List.take_zero, List.take_zero]
    exact rfl
  | [], _, n + 1, h => by
    rw [show _ = [] from h]
    exact rfl
  | d :: ds, _, n + 1, h => by
    obtain ⟨v, r, e1, h1, h2⟩ := h
    subst e1
    exact ⟨v, _, rfl, h1, RepL.take n h2⟩
theorem RepL.drop {K : PySem.W.Frag} {H : Hp} : ∀ {ds : List D} {vs : List V} (n : Nat), RepL K H ds vs → RepL K H (ds.drop n) (vs.drop n)
  | ds, vs, 0, h => h
  | [], _, n + 1, h => by
    rw [show _ = [] from h]
    exact rfl
  | d :: ds, _, n + 1, h => by
    obtain ⟨v, r, e1, h1, h2⟩ := h
    subst e1
    exact RepL.drop n h2
theorem RepL.set {K : PySem.W.Frag} {H : Hp} {e : D} {w : V} (q : Rep K H e w) : ∀ {ds : List D} {vs : List V} (n : Nat), RepL K H ds vs → RepL K H (ds.set n e) (vs.set n w)
  | [], _, n, h => by
    rw [show _ = [] from h]
    exact rfl
  | d :: ds, _, 0, h => by
    obtain ⟨v, r, e1, h1, h2⟩ := h
    subst e1
    exact ⟨w, _, rfl, q, h2⟩
  | d :: ds, _, n + 1, h => by
    obtain ⟨v, r, e1, h1, h2⟩ := h
    subst e1
    exact ⟨v, _, rfl, h1, RepL.set q n h2⟩
theorem RepF.look {K : PySem.W.Frag} {H : Hp} {f : Str} : ∀ {ds : List (Str × D)} {vs : List (Str × V)} {d : D}, RepF K H ds vs → ds.lookup f = some d → ∃ v, vs.lookup f = some v ∧ Rep K H d v
  | [], _, _, _, h => by cases h
  | p :: ds, _, d, h, q => by
    obtain ⟨v, r, e1, h1, h2⟩ := h
    subst e1
    rw [List.lookup_cons] at q ⊢
    cases e : (f == p.1) with
    | true =>
      rw [e] at q
      have e2 : p.2 = d := Option.some.inj q
      subst e2
      exact ⟨v, rfl, h1⟩
    | false =>
      rw [e] at q
      exact RepF.look h2 q
theorem RepF.none {K : PySem.W.Frag} {H : Hp} {f : Str} : ∀ {ds : List (Str × D)} {vs : List (Str × V)}, RepF K H ds vs → ds.lookup f = none → vs.lookup f = none
  | [], _, h, _ => by rw [show _ = [] from h] <;> rfl
  | p :: ds, _, h, q => by
    obtain ⟨v, r, e1, h1, h2⟩ := h
    subst e1
    rw [List.lookup_cons] at q ⊢
    cases e : (f == p.1) with
    | true =>
      rw [e] at q
      cases q
    | false =>
      rw [e] at q
      exact RepF.none h2 q
theorem RepF.length {K : PySem.W.Frag} {H : Hp} : ∀ {ds : List (Str × D)} {vs : List (Str × V)}, RepF K H ds vs → vs.length = ds.length
  | [], _, h => by rw [show _ = [] from h] <;> rfl
  | d :: ds, _, h => by
    obtain ⟨v, r, e1, h1, h2⟩ := h
    rw [e1, List.length_cons, List.length_cons, RepF.length h2]

structure Bs where
  B : Hp
  Z : List Addr
  A0 : List Addr
def live : List Addr → List OD → List Addr
  | _ :: A, .gone :: O => live A O
  | a :: A, _ :: O => a :: live A O
  | _, _ => []
def hid (L : List Addr) (H : Hp) : Hp := fun a => if a ∈ L then none else H a
theorem hid_some {L : List Addr} {H : Hp} {a : Addr} {o : HO} : hid L H a = some o ↔ a ∉ L ∧ H a = some o := by
  unfold hid
  by_cases h : a ∈ L
  · rw [if_pos h]
    exact ⟨fun z => (nomatch z), fun z => absurd h z.1⟩
  · rw [if_neg h]
    exact ⟨fun z => ⟨h, z⟩, fun z => z.2⟩
theorem hid_ex {L : List Addr} {H : Hp} : Ex (hid L H) H := fun _ _ h _ => (hid_some.mp h).2
theorem hid_mono {L M : List Addr} {H H' : Hp} (e : ∀ a o, a ∉ L → H a = some o → H' a = some o) (s : ∀ a o, a ∉ L → H a = some o → a ∉ M) : Ex (hid L H) (hid M H') := fun a o h _ => by
  obtain ⟨h1, h2⟩ := hid_some.mp h
  exact hid_some.mpr ⟨s a o h1 h2, e a o h1 h2⟩

theorem hid_monoW {L M : List Addr} {H H' : Hp} (e : ∀ a o, a ∉ L → H a = some o → NT o → H' a = some o) (s : ∀ a o, a ∉ L → H a = some o → a ∉ M) : Ex (hid L H) (hid M H') := fun a o h n => by
  obtain ⟨h1, h2⟩ := hid_some.mp h
  exact hid_some.mpr ⟨s a o h1 h2, e a o h1 h2 n⟩
def CellOk (K : PySem.W.Frag) (F H : Hp) (a : Addr) : OD → Prop
  | .lst ds => ∃ vs, H a = some (.lst vs) ∧ RepL K F ds vs
  | .ins C fs => ∃ dx vs, H a = some (.ins C dx vs) ∧ RepF K F fs vs
  | .dic kvs => ∃ ws, H a = some (.dK ws) ∧ RepK K F kvs ws
  | .gone => True
theorem CellOk.ex {K : PySem.W.Frag} {F F' H H' : Hp} {a : Addr} {o : OD} (e : Ex F F') (h : ∀ u, H a = some u → H' a = some u) (c : CellOk K F H a o) : CellOk K F' H' a o := by
  cases o with
  | lst ds =>
    obtain ⟨vs, h1, h2⟩ := c
    exact ⟨vs, h _ h1, h2.ex e⟩
  | ins C fs =>
    obtain ⟨dx, vs, h1, h2⟩ := c
    exact ⟨dx, vs, h _ h1, h2.ex e⟩
  | dic kvs =>
    obtain ⟨ws, h1, h2⟩ := c
    exact ⟨ws, h _ h1, h2.ex e⟩
  | gone => trivial
theorem CellOk.exW {K : PySem.W.Frag} {F F' H H' : Hp} {a : Addr} {o : OD} (e : Ex F F') (h : ∀ u, H a = some u → NT u → H' a = some u) (c : CellOk K F H a o) : CellOk K F' H' a o := by
  cases o with
  | lst ds =>
    obtain ⟨vs, h1, h2⟩ := c
    exact ⟨vs, h _ h1 (by (first | assumption | exact nt_exc | exact fun _ z => (by cases z))), h2.ex e⟩
  | ins C fs =>
    obtain ⟨dx, vs, h1, h2⟩ := c
    exact ⟨dx, vs, h _ h1 (by (first | assumption | exact nt_exc | exact fun _ z => (by cases z))), h2.ex e⟩
  | dic kvs =>
    obtain ⟨ws, h1, h2⟩ := c
    exact ⟨ws, h _ h1 (by (first | assumption | exact nt_exc | exact fun _ z => (by cases z))), h2.ex e⟩
  | gone => trivial
/-- what is frozen -/
def Fz (b : Bs) (A : List Addr) (O : List OD) (H : Hp) : Hp := hid (live A O ++ b.Z) H

structure StO (K : PySem.W.Frag) (b : Bs) (A : List Addr) (O : List OD) (H : Hp) : Prop where
  len : A.length = O.length
  pre : ∃ M, A = b.A0 ++ M
  ext : Ex b.B (hid (live A O) H)
  zs : ∀ z ∈ b.Z, ∃ o, b.B z = some o ∧ OB o
  nd : A.Nodup
  inh : ∀ a ∈ A, ∃ o, H a = some o ∧ NT o
  cell : ∀ (i : Nat) (a : Addr) (o : OD), A[i]? = some a → O[i]? = some o → CellOk K (Fz b A O H) H a o
  tb : TabsK K H

theorem live_mem : ∀ {A : List Addr} {O : List OD} {a : Addr}, a ∈ live A O → ∃ (i : Nat) (o : OD), A[i]? = some a ∧ O[i]? = some o ∧ o ≠ OD.gone
  | [], _, _, h => by simp [live] at h
  | _ :: _, [], _, h => by simp [live] at h
  | c :: A, o :: O, a, h => by
    have key : a ∈ live A O → ∃ (i : Nat) (o' : OD), (c :: A)[i]? = some a ∧ (o :: O)[i]? = some o' ∧ o' ≠ OD.gone := fun h => by
      obtain ⟨i, o', h1, h2, h3⟩ := live_mem h
      exact ⟨i + 1, o', h1, h2, h3⟩
    cases o with
    | gone => exact key h
    | lst ds =>
      rcases List.mem_cons.mp h with e | h
      · exact ⟨0, _, by rw [e] <;> rfl, rfl, fun z => by cases z⟩
      · exact key h
    | ins C fs =>
      rcases List.mem_cons.mp h with e | h
      · exact ⟨0, _, by rw [e] <;> rfl, rfl, fun z => by cases z⟩
      · exact key h
    | dic kvs =>
      rcases List.mem_cons.mp h with e | h
      · exact ⟨0, _, by rw [e] <;> rfl, rfl, fun z => by cases z⟩
      · exact key h
theorem live_at : ∀ {A : List Addr} {O : List OD} {i : Nat} {a : Addr} {o : OD}, A[i]? = some a → O[i]? = some o → o ≠ .gone → a ∈ live A O
  | [], _, _, _, _, h, _, _ => by simp at h
  | _ :: _, [], _, _, _, _, h, _ => by simp at h
  | c :: A, u :: O, 0, a, o, h1, h2, h3 => by
    have e1 : c = a := Option.some.inj h1
    have e2 : u = o := Option.some.inj h2
    subst e1 e2
    cases u with
    | gone => exact absurd rfl h3
    | lst ds => exact List.mem_cons_self
    | ins C fs => exact List.mem_cons_self
    | dic kvs => exact List.mem_cons_self
  | c :: A, u :: O, i + 1, a, o, h1, h2, h3 => by
    have ih : a ∈ live A O := live_at (i := i) h1 h2 h3
    cases u with
    | gone => exact ih
    | lst ds => exact List.mem_cons_of_mem _ ih
    | ins C fs => exact List.mem_cons_of_mem _ ih
    | dic kvs => exact List.mem_cons_of_mem _ ih

section
variable {K : PySem.W.Frag} {b : Bs} {A A' A2 : List Addr} {O O' O2 : List OD} {H H' H2 : Hp}
theorem StO.some_at (s : StO K b A O H) {a : Addr} (h : a ∈ live A O) : ∃ o, H a = some o ∧ OB o := by
  obtain ⟨i, o, h1, h2, h3⟩ := live_mem h
  have c := s.cell i a o h1 h2
  cases o with
  | gone => exact absurd rfl h3
  | lst ds =>
    obtain ⟨vs, q, _⟩ := c
    exact ⟨_, q, ob_lst⟩
  | ins C fs =>
    obtain ⟨dx, vs, q, _⟩ := c
    exact ⟨_, q, ob_ins⟩
  | dic kvs =>
    obtain ⟨ws, q, _⟩ := c
    exact ⟨_, q, ob_dK⟩
theorem StO.z_at (s : StO K b A O H) {a : Addr} (h : a ∈ b.Z) : a ∉ live A O ∧ ∃ o, H a = some o ∧ OB o := by
  obtain ⟨o, q, n⟩ := s.zs a h
  obtain ⟨h1, h2⟩ := hid_some.mp (s.ext a o q n.1)
  exact ⟨h1, o, h2, n⟩
theorem StO.fresh (s : StO K b A O H) {p : Addr} (h : H p = none) : p ∉ live A O ++ b.Z := fun hm => by
  rcases List.mem_append.mp hm with hm | hm
  · obtain ⟨o, q, _⟩ := s.some_at hm
    rw [h] at q
    cases q
  · obtain ⟨_, o, q, _⟩ := s.z_at hm
    rw [h] at q
    cases q
/-- the next state sees what this one sees -/
structure Nxt (b : Bs) (A : List Addr) (O : List OD) (H : Hp) (A' : List Addr) (O' : List OD) (H' : Hp) : Prop where
  pre : ∃ M, A' = A ++ M
  ext : Ex (Fz b A O H) (Fz b A' O' H')
theorem Nxt.refl : Nxt b A O H A O H := ⟨⟨[], (List.append_nil A).symm⟩, Ex.refl _⟩
theorem Nxt.trans (x : Nxt b A O H A' O' H') (y : Nxt b A' O' H' A2 O2 H2) : Nxt b A O H A2 O2 H2 := by
  obtain ⟨M, e⟩ := x.pre
  obtain ⟨N, e2⟩ := y.pre
  exact ⟨⟨M ++ N, by rw [e2, e, List.append_assoc]⟩, x.ext.trans y.ext⟩
theorem Nxt.at_ (x : Nxt b A O H A' O' H') {i : Nat} {a : Addr} (h : A[i]? = some a) : A'[i]? = some a := by
  obtain ⟨M, e⟩ := x.pre
  rw [e, List.getElem?_append_left (List.getElem?_eq_some_iff.mp h).1]
  exact h

def RepT (K : PySem.W.Frag) (F : Hp) (A : List Addr) : T → Option V → Prop
  | .v d, o => ∃ v, o = some v ∧ Rep K F d v
  | .own i, o => ∃ a, A[i]? = some a ∧ o = some (.ref a)
  | .no, _ => True
  | .clo R f, o => o = some (.ref f) ∧ ∀ F' A', Ex F F' → (∃ M, A' = A ++ M) → R F' A'
theorem RepT.nxt {t : T} {o : Option V} (x : Nxt b A O H A' O' H') (h : RepT K (Fz b A O H) A t o) : RepT K (Fz b A' O' H') A' t o := by
  cases t with
  | v d =>
    obtain ⟨v, e, r⟩ := h
    exact ⟨v, e, r.ex x.ext⟩
  | own i =>
    obtain ⟨a, e, r⟩ := h
    exact ⟨a, x.at_ e, r⟩
  | no => trivial
  | clo R f => exact ⟨h.1, fun F' A2 e p => h.2 F' A2 (x.ext.trans e) (by
      obtain ⟨M, e1⟩ := x.pre
      obtain ⟨N, e2⟩ := p
      exact ⟨M ++ N, by rw [e2, e1, List.append_assoc]⟩)⟩
/-- under any growth -/
theorem RepT.mono {K : PySem.W.Frag} {F F' : Hp} {A A' : List Addr} {t : T} {o : Option V} (x : Ex F F') (p : ∃ M, A' = A ++ M) (h : RepT K F A t o) : RepT K F' A' t o := by
  cases t with
  | v d =>
    obtain ⟨v, e, r⟩ := h
    exact ⟨v, e, r.ex x⟩
  | own i =>
    obtain ⟨a, e, r⟩ := h
    obtain ⟨M, rfl⟩ := p
    exact ⟨a, by rw [List.getElem?_append_left (List.getElem?_eq_some_iff.mp e).1]; exact e, r⟩
  | no => trivial
  | clo R f => exact ⟨h.1, fun F2 A2 e q => h.2 F2 A2 (x.trans e) (by
      obtain ⟨M, e1⟩ := p
      obtain ⟨N, e2⟩ := q
      exact ⟨M ++ N, by rw [e2, e1, List.append_assoc]⟩)⟩
def RepS (K : PySem.W.Frag) (F : Hp) (A : List Addr) (ts : List T) (σ : L2.St) : Prop := ts.length = σ.length ∧ ∀ (i : Nat) (t : T), ts[i]? = some t → ∃ o, σ[i]? = some o ∧ RepT K F A t o
theorem RepS.nxt {ts : List T} {σ : L2.St} (x : Nxt b A O H A' O' H') (h : RepS K (Fz b A O H) A ts σ) : RepS K (Fz b A' O' H') A' ts σ :=
  ⟨h.1, fun i t e => let ⟨o, e1, r⟩ := h.2 i t e; ⟨o, e1, r.nxt x⟩⟩
theorem RepS.mono {F F' : Hp} {B B' : List Addr} {ts : List T} {σ : L2.St} (x : Ex F F') (p : ∃ M, B' = B ++ M) (h : RepS K F B ts σ) : RepS K F' B' ts σ :=
  ⟨h.1, fun i t e => let ⟨o, e1, r⟩ := h.2 i t e; ⟨o, e1, r.mono x p⟩⟩
theorem RepS.set {F : Hp} {ts : List T} {σ : L2.St} {t : T} {v : V} (h : RepS K F A ts σ) (r : RepT K F A t (some v)) (i : Nat) : RepS K F A (ts.set i t) (σ.set i (some v)) := by
  refine ⟨by rw [List.length_set, List.length_set]; exact h.1, fun j u e => ?_⟩
  rw [List.getElem?_set] at e
  by_cases hij : i = j
  · subst hij
    rw [if_pos rfl] at e
    by_cases hl : i < ts.length
    · rw [if_pos hl] at e
      have e2 : t = u := Option.some.inj e
      subst e2
      refine ⟨some v, ?_, r⟩
      rw [List.getElem?_set_self (by rw [← h.1]; exact hl)]
    · rw [if_neg hl] at e
      cases e
  · rw [if_neg hij] at e
    obtain ⟨o, e1, r1⟩ := h.2 j u e
    refine ⟨o, ?_, r1⟩
    rw [List.getElem?_set_ne hij]
    exact e1
/-- what a list of values stands for -/
def RepTs (K : PySem.W.Frag) (F : Hp) (A : List Addr) : List T → List V → Prop
  | [], vs => vs = []
  | t :: ts, vs => ∃ v r, vs = v :: r ∧ RepT K F A t (some v) ∧ RepTs K F A ts r
theorem RepTs.nxt (x : Nxt b A O H A' O' H') : ∀ {ts : List T} {vs : List V}, RepTs K (Fz b A O H) A ts vs → RepTs K (Fz b A' O' H') A' ts vs
  | [], _, h => h
  | t :: ts, _, h => by
    obtain ⟨v, r, e, h1, h2⟩ := h
    exact ⟨v, r, e, h1.nxt x, RepTs.nxt x h2⟩
theorem RepTs.length {F : Hp} : ∀ {ts : List T} {vs : List V}, RepTs K F A ts vs → vs.length = ts.length
  | [], _, h => by rw [show _ = [] from h] <;> rfl
  | t :: ts, _, h => by
    obtain ⟨v, r, e, h1, h2⟩ := h
    rw [e, List.length_cons, List.length_cons, RepTs.length h2]
theorem RepTs.get {F : Hp} : ∀ {ts : List T} {vs : List V} {i : Nat} {t : T}, RepTs K F A ts vs → ts[i]? = some t → ∃ v, vs[i]? = some v ∧ RepT K F A t (some v)
  | [], _, _, _, _, h => by simp at h
  | t :: ts, _, 0, _, h, q => by
    obtain ⟨v, r, e1, h1, h2⟩ := h
    have e : t = _ := Option.some.inj q
    subst e e1
    exact ⟨v, rfl, h1⟩
  | t :: ts, _, i + 1, _, h, q => by
    obtain ⟨v, r, e1, h1, h2⟩ := h
    subst e1
    exact RepTs.get (i := i) h2 q
/-- plain data only -/
def unv : List T → Option (List D)
  | [] => some []
  | .v d :: r => (unv r).map (d :: ·)
  | _ :: _ => none
theorem RepTs.plain {F : Hp} : ∀ {ts : List T} {vs : List V} {ds : List D}, unv ts = some ds → RepTs K F A ts vs → RepL K F ds vs
  | [], _, ds, e, h => by
    have e2 : [] = ds := Option.some.inj e
    subst e2
    exact h
  | .v d :: ts, _, ds, e, h => by
    obtain ⟨v, r, e1, h1, h2⟩ := h
    have e3 : (unv ts).map (d :: ·) = some ds := e
    cases q : unv ts with
    | none =>
      rw [q] at e3
      cases e3
    | some es =>
      rw [q] at e3
      have e4 : d :: es = ds := Option.some.inj e3
      subst e4
      obtain ⟨w, e5, r5⟩ := h1
      have e6 := Option.some.inj e5
      subst e6
      exact ⟨v, r, e1, r5, RepTs.plain q h2⟩
  | .own _ :: _, _, _, e, _ => by cases e
  | .no :: _, _, _, e, _ => by cases e
  | .clo _ _ :: _, _, _, e, _ => by cases e

theorem StO.lay (s : StO K b A O H) {p : Addr} (hp : H p = none) (o : HO) : StO K b A O (upd H p o) ∧ Nxt b A O H A O (upd H p o) ∧ Fz b A O (upd H p o) p = some o := by
  have hn := s.fresh hp
  have e1 : ∀ a u, H a = some u → upd H p o a = some u := fun a u h => by
    rw [upd_ne (ne_of_none h hp)]
    exact h
  have e2 : Ex (Fz b A O H) (Fz b A O (upd H p o)) := hid_mono (fun a u _ h => e1 a u h) fun a u h _ => h
  refine ⟨⟨s.len, s.pre, s.ext.trans (hid_mono (fun a u _ h => e1 a u h) fun a u h _ => h), s.zs, s.nd, fun a h => let ⟨u, q, n⟩ := s.inh a h; ⟨u, e1 a u q, n⟩, fun i a u h1 h2 => (s.cell i a u h1 h2).ex e2 (e1 a), s.tb.ext e1⟩, ⟨⟨[], (List.append_nil A).symm⟩, e2⟩, ?_⟩
  exact hid_some.mpr ⟨hn, upd_same⟩
theorem live_append : ∀ {A : List Addr} {O : List OD}, A.length = O.length → ∀ (p : Addr) (o : OD), live (A ++ [p]) (O ++ [o]) = live A O ++ live [p] [o]
  | [], [], _, p, o => rfl
  | [], _ :: _, h, _, _ => by simp at h
  | _ :: _, [], h, _, _ => by simp at h
  | a :: A, u :: O, h, p, o => by
    have ih := live_append (A := A) (O := O) (by simpa using h) p o
    cases u <;> simp only [List.cons_append, live, ih]
theorem live1_sub {p : Addr} {o : OD} : ∀ a ∈ live [p] [o], a = p := fun a h => by
  cases o <;> simp [live] at h <;> exact h
/-- p, new, becomes the next owned thing -/
theorem StO.own (s : StO K b A O H) {p : Addr} (hp : H p = none) {u : HO} {o : OD} (c : CellOk K (Fz b A O H) (upd H p u) p o) (nu : NT u := by (first | assumption | exact nt_exc | exact fun _ z => (by cases z))) : StO K b (A ++ [p]) (O ++ [o]) (upd H p u) ∧ Nxt b A O H (A ++ [p]) (O ++ [o]) (upd H p u) := by
  have hn := s.fresh hp
  have hA : p ∉ A := fun z => by
    obtain ⟨x, q, _⟩ := s.inh p z
    rw [hp] at q
    cases q
  have e1 : ∀ a w, H a = some w → upd H p u a = some w := fun a w h => by
    rw [upd_ne (ne_of_none h hp)]
    exact h
  have hl := live_append s.len p o
  have sub : ∀ a w, a ∉ live A O → H a = some w → a ∉ live (A ++ [p]) (O ++ [o]) := fun a w h1 h2 h3 => by
    rw [hl] at h3
    rcases List.mem_append.mp h3 with h3 | h3
    · exact h1 h3
    · have e := live1_sub a h3
      rw [e, hp] at h2
      cases h2
  have e2 : Ex (Fz b A O H) (Fz b (A ++ [p]) (O ++ [o]) (upd H p u)) := hid_mono (fun a w _ h => e1 a w h) fun a w h1 h2 h3 => by
    rcases List.mem_append.mp h3 with h3 | h3
    · exact sub a w (fun z => h1 (List.mem_append_left _ z)) h2 h3
    · exact h1 (List.mem_append_right _ h3)
  obtain ⟨M, eM⟩ := s.pre
  refine ⟨⟨by rw [List.length_append, List.length_append, s.len] <;> rfl, ⟨M ++ [p], by rw [eM, List.append_assoc]⟩, s.ext.trans (hid_mono (fun a w _ h => e1 a w h) sub), s.zs, ?_, fun a h => ?_, fun i a w h1 h2 => ?_, s.tb.ext e1⟩, ⟨⟨[p], rfl⟩, e2⟩⟩
  · rw [List.nodup_append]
    refine ⟨s.nd, by simp, fun x hx y hy => ?_⟩
    rw [List.mem_singleton.mp hy]
    intro z
    exact hA (z ▸ hx)
  · rcases List.mem_append.mp h with h | h
    · obtain ⟨x, q, n⟩ := s.inh a h
      exact ⟨x, e1 a x q, n⟩
    · rw [List.mem_singleton.mp h]
      exact ⟨u, upd_same, nu⟩
  · by_cases hi : i < A.length
    · rw [List.getElem?_append_left hi] at h1
      rw [List.getElem?_append_left (by rw [← s.len]; exact hi)] at h2
      exact (s.cell i a w h1 h2).ex e2 (e1 a)
    · rw [List.getElem?_append_right (by omega)] at h1
      rw [List.getElem?_append_right (by rw [← s.len]; omega)] at h2
      have hz : i - A.length = 0 := by
        cases q : i - A.length with
        | zero => rfl
        | succ n =>
          rw [q] at h1
          simp at h1
      rw [hz] at h1
      rw [show i - O.length = 0 by rw [← s.len]; exact hz] at h2
      have e3 : p = a := Option.some.inj h1
      have e4 : o = w := Option.some.inj h2
      subst e3 e4
      exact c.ex e2 fun _ h => h
/-- the i-th owned thing changes -/
theorem live_set : ∀ {A : List Addr} {O : List OD} {i : Nat} {o u : OD}, O[i]? = some u → u ≠ .gone → o ≠ .gone → live A (O.set i o) = live A O
  | [], O, _, _, _, _, _, _ => by cases O <;> rfl
  | _ :: _, [], _, _, _, h, _, _ => by simp at h
  | a :: A, w :: O, 0, o, u, h, h1, h2 => by
    have e : w = u := Option.some.inj h
    subst e
    cases w <;> cases o <;> first | rfl | exact absurd rfl h1 | exact absurd rfl h2
  | a :: A, w :: O, i + 1, o, u, h, h1, h2 => by
    have ih := live_set (A := A) (O := O) (i := i) h h1 h2
    cases w <;> simp only [List.set_cons_succ, live, ih]
theorem StO.obj (s : StO K b A O H) {i : Nat} {a : Addr} {u : OD} (hA : A[i]? = some a) (hO : O[i]? = some u) (hu : u ≠ .gone) : ∃ o, H a = some o ∧ NT o ∧ ∀ c q, o ≠ LamX.CodeO c q := by
  have c := s.cell i a u hA hO
  have key : ∀ o : HO, (∀ P, o ≠ .ext P) → ∀ c q, o ≠ LamX.CodeO c q := fun o h c q z => by
    unfold LamX.CodeO at z
    exact h _ z
  cases u with
  | gone => exact absurd rfl hu
  | lst ds =>
    obtain ⟨vs, q, _⟩ := c
    exact ⟨_, q, by (first | assumption | exact nt_exc | exact fun _ z => (by cases z)), key _ fun _ z => by cases z⟩
  | ins C fs =>
    obtain ⟨dx, vs, q, _⟩ := c
    exact ⟨_, q, by (first | assumption | exact nt_exc | exact fun _ z => (by cases z)), key _ fun _ z => by cases z⟩
  | dic kvs =>
    obtain ⟨ws, q, _⟩ := c
    exact ⟨_, q, by (first | assumption | exact nt_exc | exact fun _ z => (by cases z)), key _ fun _ z => by cases z⟩
theorem StO.tb_put (s : StO K b A O H) {i : Nat} {a : Addr} {u : OD} (hA : A[i]? = some a) (hO : O[i]? = some u) (hu : u ≠ .gone) (w : HO) : TabsK K (upd H a w) := by
  obtain ⟨o, h1, h2, h3⟩ := s.obj hA hO hu
  exact s.tb.upd h1 h2 h3 w
theorem StO.put (s : StO K b A O H) {i : Nat} {a : Addr} {u o : OD} {w : HO} (hA : A[i]? = some a) (hO : O[i]? = some u) (hu : u ≠ .gone) (ho : o ≠ .gone) (c : CellOk K (Fz b A O H) (upd H a w) a o) (nw : NT w := by (first | assumption | exact nt_exc | exact fun _ z => (by cases z))) :
    StO K b A (O.set i o) (upd H a w) ∧ Nxt b A O H A (O.set i o) (upd H a w) := by
  have hl : live A (O.set i o) = live A O := live_set hO hu ho
  have hm : a ∈ live A O := live_at hA hO hu
  have e2 : Ex (Fz b A O H) (Fz b A (O.set i o) (upd H a w)) := by
    unfold Fz
    rw [hl]
    refine hid_mono (fun y x h1 h2 => ?_) fun _ _ h _ => h
    have hne : y ≠ a := fun z => h1 (List.mem_append_left _ (by rw [z]; exact hm))
    rw [upd_ne hne]
    exact h2
  refine ⟨⟨by rw [List.length_set]; exact s.len, s.pre, ?_, s.zs, s.nd, fun c h => ?_, fun j y x h1 h2 => ?_, s.tb_put hA hO hu w⟩, ⟨⟨[], (List.append_nil A).symm⟩, e2⟩⟩
  · rw [hl]
    refine s.ext.trans (hid_mono (fun y x h1 h2 => ?_) fun _ _ h _ => h)
    have hne : y ≠ a := fun z => h1 (by rw [z]; exact hm)
    rw [upd_ne hne]
    exact h2
  · by_cases z : c = a
    · exact ⟨w, by rw [z, upd_same], nw⟩
    · obtain ⟨x, q, n⟩ := s.inh c h
      exact ⟨x, by rw [upd_ne z]; exact q, n⟩
  · rw [List.getElem?_set] at h2
    by_cases hij : i = j
    · subst hij
      rw [if_pos rfl] at h2
      rw [hA] at h1
      have e3 : a = y := Option.some.inj h1
      subst e3
      by_cases hlt : i < O.length
      · rw [if_pos hlt] at h2
        have e4 : o = x := Option.some.inj h2
        subst e4
        exact c.ex e2 fun _ h => h
      · rw [if_neg hlt] at h2
        cases h2
    · rw [if_neg hij] at h2
      have hne : y ≠ a := fun z => hij (nd_ix s.nd hA (z ▸ h1))
      refine (s.cell j y x h1 h2).ex e2 fun q hq => ?_
      rw [upd_ne hne]
      exact hq
end
end G

set_option Elab.async false
set_option linter.all false
set_option maxRecDepth 100000
set_option maxHeartbeats 4000000
namespace G
open PySem PySem.Spec PyProof.Rows L2

abbrev PT' := T → List OD → Prop
abbrev PB := Bool → List OD → Prop
abbrev PL := List T → List OD → Prop
/-- an exception: its class, its own fields (none: no dict of its own) -/
abbrev XX := Value → Option (List (Str × D)) → List OD → Prop
def RepX (K : PySem.W.Frag) (F H : Hp) : Option (List (Str × D)) → Option Addr → Prop
  | none, d => d = none
  | some fs, d => ∃ dx vs, d = some dx ∧ F dx = some (.xd vs) ∧ RepF K F fs vs
/-- what an exception leaves is wanted -/
def KX (K : PySem.W.Frag) (W : WX) (b : Bs) (A : List Addr) (O : List OD) (σ : L2.St) (H : Hp) (X : XX) : Prop :=
  ∀ C fs A' O' H' d, X C fs O' → StO K b A' O' H' → Nxt b A O H A' O' H' → RepX K (Fz b A' O' H') H' fs d → W C d σ H'
def KV' (K : PySem.W.Frag) (b : Bs) (A : List Addr) (O : List OD) (H : Hp) (P : PT') (Q : VK) : Prop :=
  ∀ t v A' O' H', P t O' → StO K b A' O' H' → Nxt b A O H A' O' H' → RepT K (Fz b A' O' H') A' t (some v) → Q v H'
def KB (K : PySem.W.Frag) (b : Bs) (A : List Addr) (O : List OD) (H : Hp) (P : PB) (Q : Bool → Hp → Prop) : Prop :=
  ∀ c A' O' H', P c O' → StO K b A' O' H' → Nxt b A O H A' O' H' → Q c H'
def KL (K : PySem.W.Frag) (b : Bs) (A : List Addr) (O : List OD) (H : Hp) (P : PL) (Q : List V → Hp → Prop) : Prop :=
  ∀ ts vs A' O' H', P ts O' → StO K b A' O' H' → Nxt b A O H A' O' H' → RepTs K (Fz b A' O' H') A' ts vs → Q vs H'
section
variable {K : PySem.W.Frag} {W : WX} {b : Bs} {A A' : List Addr} {O O' : List OD} {H H' : Hp} {σ : L2.St}
theorem KX.nxt {X : XX} (k : KX K W b A O σ H X) (n : Nxt b A O H A' O' H') : KX K W b A' O' σ H' X := fun C fs A2 O2 H2 d x s m r => k C fs A2 O2 H2 d x s (n.trans m) r
theorem KV'.nxt {P : PT'} {Q : VK} (k : KV' K b A O H P Q) (n : Nxt b A O H A' O' H') : KV' K b A' O' H' P Q := fun t v A2 O2 H2 x s m r => k t v A2 O2 H2 x s (n.trans m) r
theorem KB.nxt {P : PB} {Q : Bool → Hp → Prop} (k : KB K b A O H P Q) (n : Nxt b A O H A' O' H') : KB K b A' O' H' P Q := fun c A2 O2 H2 x s m => k c A2 O2 H2 x s (n.trans m)
theorem KL.nxt {P : PL} {Q : List V → Hp → Prop} (k : KL K b A O H P Q) (n : Nxt b A O H A' O' H') : KL K b A' O' H' P Q := fun ts vs A2 O2 H2 x s m r => k ts vs A2 O2 H2 x s (n.trans m) r
end

def WE (K : PySem.W.Frag) (W : WX) (te : TE) (O : List OD) (ts : List T) (P : PT') (X : XX) : Prop :=
  ∀ b A σ H Q, StO K b A O H → RepS K (Fz b A O H) A ts σ → KV' K b A O H P Q → KX K W b A O σ H X → te σ H Q
def WT (K : PySem.W.Frag) (W : WX) (tt : TT) (O : List OD) (ts : List T) (P : PB) (X : XX) : Prop :=
  ∀ b A σ H Q, StO K b A O H → RepS K (Fz b A O H) A ts σ → KB K b A O H P Q → KX K W b A O σ H X → tt σ H Q
def WA (K : PySem.W.Frag) (W : WX) (ta : TA) (O : List OD) (ts : List T) (P : PL) (X : XX) : Prop :=
  ∀ b A σ H Q, StO K b A O H → RepS K (Fz b A O H) A ts σ → KL K b A O H P Q → KX K W b A O σ H X → ta σ H Q
/-- by values -/
def WR (K : PySem.W.Frag) (r : R2) (x y : T) (O : List OD) (P : PT') : Prop :=
  ∀ b A H Q v u, StO K b A O H → RepT K (Fz b A O H) A x (some v) → RepT K (Fz b A O H) A y (some u) → KV' K b A O H P Q → r v u H Q
def WU (K : PySem.W.Frag) (r : V → Hp → VK → Prop) (x : T) (O : List OD) (P : PT') : Prop :=
  ∀ b A H Q v, StO K b A O H → RepT K (Fz b A O H) A x (some v) → KV' K b A O H P Q → r v H Q
def WC (K : PySem.W.Frag) (r : List V → Hp → VK → Prop) (xs : List T) (O : List OD) (P : PT') : Prop :=
  ∀ b A H Q vs, StO K b A O H → RepTs K (Fz b A O H) A xs vs → KV' K b A O H P Q → r vs H Q
def WM (K : PySem.W.Frag) (r : V → List V → Hp → VK → Prop) (x : T) (xs : List T) (O : List OD) (P : PT') : Prop :=
  ∀ b A H Q v vs, StO K b A O H → RepT K (Fz b A O H) A x (some v) → RepTs K (Fz b A O H) A xs vs → KV' K b A O H P Q → r v vs H Q

structure DE where
  nx : List T → List OD → Prop
  rt : PT'
  bk : List T → List OD → Prop := fun _ _ => False
  ct : List T → List OD → Prop := fun _ _ => False
  xe : Value → Option (List (Str × D)) → List T → List OD → Prop := fun _ _ _ _ => False
def KN (K : PySem.W.Frag) (b : Bs) (A : List Addr) (O : List OD) (H : Hp) (N : List T → List OD → Prop) (Q : L2.St → Hp → Prop) : Prop :=
  ∀ ts σ A' O' H', N ts O' → StO K b A' O' H' → Nxt b A O H A' O' H' → RepS K (Fz b A' O' H') A' ts σ → Q σ H'
structure KS (K : PySem.W.Frag) (W : WX) (b : Bs) (A : List Addr) (O : List OD) (H : Hp) (E : DE) (D : Ends) : Prop where
  nx : KN K b A O H E.nx D.nx
  rt : KV' K b A O H E.rt D.rt
  bk : KN K b A O H E.bk D.bk
  ct : KN K b A O H E.ct D.ct
  xe : ∀ C fs ts σ A' O' H' d, E.xe C fs ts O' → StO K b A' O' H' → Nxt b A O H A' O' H' → RepS K (Fz b A' O' H') A' ts σ → RepX K (Fz b A' O' H') H' fs d → W C d σ H'
def WS (K : PySem.W.Frag) (W : WX) (t : TS) (O : List OD) (ts : List T) (E : DE) : Prop :=
  ∀ b A σ H D, StO K b A O H → RepS K (Fz b A O H) A ts σ → KS K W b A O H E D → t D σ H
section
variable {K : PySem.W.Frag} {W : WX} {b : Bs} {A A' : List Addr} {O O' : List OD} {H H' : Hp} {σ : L2.St}
theorem KN.nxt {N : List T → List OD → Prop} {Q : L2.St → Hp → Prop} (k : KN K b A O H N Q) (n : Nxt b A O H A' O' H') : KN K b A' O' H' N Q := fun ts σ A2 O2 H2 x s m r => k ts σ A2 O2 H2 x s (n.trans m) r
theorem KS.nxt {E : DE} {D : Ends} (k : KS K W b A O H E D) (n : Nxt b A O H A' O' H') : KS K W b A' O' H' E D :=
  ⟨k.nx.nxt n, k.rt.nxt n, k.bk.nxt n, k.ct.nxt n, fun C fs ts σ A2 O2 H2 d x s m r q => k.xe C fs ts σ A2 O2 H2 d x s (n.trans m) r q⟩
theorem KS.kx {E : DE} {D : Ends} {ts : List T} (k : KS K W b A O H E D) (rs : RepS K (Fz b A O H) A ts σ) : KX K W b A O σ H (fun C fs O' => E.xe C fs ts O') :=
  fun C fs A' O' H' d x s m r => k.xe C fs ts σ A' O' H' d x s m (rs.nxt m) r
end

section
variable {K : PySem.W.Frag} {W : WX} {O : List OD} {ts : List T} {P : PT'} {PB' : PB} {PL' : PL} {X : XX} {te ta tb tc : TE} {tt uu : TT} {tr : TA} {r r' : R2}
theorem WE.imp {P' : PT'} (h : WE K W te O ts P X) (q : ∀ t O', P t O' → P' t O') : WE K W te O ts P' X := fun b A σ H Q s rs k kx => h b A σ H Q s rs (fun t v A' O' H' p => k t v A' O' H' (q t O' p)) kx
theorem w_var {i : Nat} {t : T} (h : ts[i]? = some t) (hn : t ≠ .no) (k : P t O) : WE K W (tVar i) O ts P X := fun b A σ H Q s rs kv _ => by
  obtain ⟨o, e, rt⟩ := rs.2 i t h
  cases t with
  | v d =>
    obtain ⟨v, e2, rd⟩ := rt
    subst e2
    exact ⟨v, e, kv _ v A O H k s Nxt.refl ⟨v, rfl, rd⟩⟩
  | own j =>
    obtain ⟨a, e1, e2⟩ := rt
    subst e2
    exact ⟨_, e, kv _ _ A O H k s Nxt.refl ⟨a, e1, rfl⟩⟩
  | no => exact absurd rfl hn
  | clo R f =>
    obtain ⟨e1, m⟩ := rt
    subst e1
    exact ⟨_, e, kv _ _ A O H k s Nxt.refl ⟨rfl, m⟩⟩
theorem w_v {i : Nat} {d : D} (h : ts[i]? = some (.v d)) (k : P (.v d) O) : WE K W (tVar i) O ts P X := w_var h (fun z => by cases z) k
theorem w_o {i j : Nat} (h : ts[i]? = some (.own j)) (k : P (.own j) O) : WE K W (tVar i) O ts P X := w_var h (fun z => by cases z) k
theorem w_c {v : V} {d : D} (h : ∀ H, Rep K H d v) (k : P (.v d) O) : WE K W (tC v) O ts P X := fun b A σ H Q s rs kv _ => kv _ v A O H k s Nxt.refl ⟨v, rfl, h _⟩
theorem w_ci {i : Int} (k : P (.v (.int i)) O) : WE K W (tC (.int i)) O ts P X := w_c (d := .int i) (fun _ => rfl) k
theorem w_cb {i : Bool} (k : P (.v (.bl i)) O) : WE K W (tC (.bl i)) O ts P X := w_c (d := .bl i) (fun _ => rfl) k
theorem w_cs {i : Str} (k : P (.v (.str i)) O) : WE K W (tC (.str i)) O ts P X := w_c (d := .str i) (fun _ => rfl) k
theorem w_cn (k : P (.v .non) O) : WE K W (tC .non) O ts P X := w_c (d := .non) (fun _ => rfl) k
theorem w_cr {a : Addr} (k : P (.v (.ref a)) O) : WE K W (tC (.ref a)) O ts P X := w_c (d := .ref a) (fun _ => rfl) k
theorem w_cty {a : String} (k : P (.v (.ty a)) O) : WE K W (tC (.ty a)) O ts P X := w_c (d := .ty a) (fun _ => rfl) k
theorem w_op (h : WE K W ta O ts (fun x O1 => WE K W tb O1 ts (fun y O2 => WR K r x y O2 P) X) X) : WE K W (tOp r ta tb) O ts P X := fun b A σ H Q s rs kv kx => by
  refine h b A σ H _ s rs (fun x v A1 O1 H1 p1 s1 n1 r1 => ?_) kx
  refine p1 b A1 σ H1 _ s1 (rs.nxt n1) (fun y u A2 O2 H2 p2 s2 n2 r2 => ?_) (kx.nxt n1)
  exact p2 b A2 H2 Q v u s2 (r1.nxt n2) r2 (kv.nxt (n1.trans n2))
theorem w_un {r : V → Hp → VK → Prop} (h : WE K W ta O ts (fun x O1 => WU K r x O1 P) X) : WE K W (tUn r ta) O ts P X := fun b A σ H Q s rs kv kx =>
  h b A σ H _ s rs (fun x v A1 O1 H1 p1 s1 n1 r1 => p1 b A1 H1 Q v s1 r1 (kv.nxt n1)) kx
theorem w_I0 {g : Int → Int → V} {i j : Int} {d : D} (hd : ∀ H, Rep K H d (g i j)) (k : P (.v d) O) : WR K (rI0 g) (.v (.int i)) (.v (.int j)) O P := fun b A H Q v u s r1 r2 kv => by
  obtain ⟨_, e1, rfl⟩ := r1
  obtain ⟨_, e2, rfl⟩ := r2
  cases e1
  cases e2
  exact ⟨i, j, rfl, rfl, kv _ _ A O H k s Nxt.refl ⟨_, rfl, hd _⟩⟩
theorem w_I {C : Int → Int → Prop} {g : Int → Int → V} {i j : Int} {d : D} (hc : C i j) (hd : ∀ H, Rep K H d (g i j)) (k : P (.v d) O) : WR K (rI C g) (.v (.int i)) (.v (.int j)) O P := fun b A H Q v u s r1 r2 kv => by
  obtain ⟨_, e1, rfl⟩ := r1
  obtain ⟨_, e2, rfl⟩ := r2
  cases e1
  cases e2
  exact ⟨i, j, rfl, rfl, hc, kv _ _ A O H k s Nxt.refl ⟨_, rfl, hd _⟩⟩
theorem w_Ui {g : Int → V} {i : Int} {d : D} (hd : ∀ H, Rep K H d (g i)) (k : P (.v d) O) : WU K (rU g) (.v (.int i)) O P := fun b A H Q v s r1 kv => by
  obtain ⟨_, e1, rfl⟩ := r1
  cases e1
  exact ⟨i, rfl, kv _ _ A O H k s Nxt.refl ⟨_, rfl, hd _⟩⟩
/-- values that are no objects -/
def scalD : D → Option V
  | .non => some .non
  | .bl b => some (.bl b)
  | .int i => some (.int i)
  | .str x => some (.str x)
  | _ => none
theorem scalD_rep {K : PySem.W.Frag} {H : Hp} {d : D} {v w : V} (h : scalD d = some v) (r : Rep K H d w) : w = v := by
  cases d <;> first | (have e := Option.some.inj h; subst e; exact r) | cases h
theorem w_eq {d e : D} {v u : V} (h1 : scalD d = some v) (h2 : scalD e = some u) (hs : scal v u = true) (k : P (.v (.bl (decide (v = u)))) O) : WR K rEq (.v d) (.v e) O P := fun b A H Q x y s r1 r2 kv => by
  obtain ⟨_, e1, q1⟩ := r1
  obtain ⟨_, e2, q2⟩ := r2
  cases e1
  cases e2
  rw [scalD_rep h1 q1, scalD_rep h2 q2]
  exact ⟨hs, kv _ _ A O H k s Nxt.refl ⟨_, rfl, rfl⟩⟩
theorem w_ne {d e : D} {v u : V} (h1 : scalD d = some v) (h2 : scalD e = some u) (hs : scal v u = true) (k : P (.v (.bl (!decide (v = u)))) O) : WR K rNe (.v d) (.v e) O P := fun b A H Q x y s r1 r2 kv => by
  obtain ⟨_, e1, q1⟩ := r1
  obtain ⟨_, e2, q2⟩ := r2
  cases e1
  cases e2
  rw [scalD_rep h1 q1, scalD_rep h2 q2]
  exact ⟨hs, kv _ _ A O H k s Nxt.refl ⟨_, rfl, rfl⟩⟩
theorem dI (i j : Int) : decide (V.int i = V.int j) = decide (i = j) := by
  by_cases h : i = j
  · subst h
    simp
  · rw [decide_eq_false h, decide_eq_false (fun z => h (V.int.inj z))]
theorem w_eqI {i j : Int} (k : P (.v (.bl (decide (i = j)))) O) : WR K rEq (.v (.int i)) (.v (.int j)) O P := w_eq rfl rfl rfl (by rw [dI]; exact k)
theorem w_neI {i j : Int} (k : P (.v (.bl (!decide (i = j)))) O) : WR K rNe (.v (.int i)) (.v (.int j)) O P := w_ne rfl rfl rfl (by rw [dI]; exact k)
theorem w_test (h : WE K W te O ts (fun t O' => ∃ c, t = .v (.bl c) ∧ PB' c O') X) : WT K W (tTest te) O ts PB' X := fun b A σ H Q s rs kb kx =>
  h b A σ H _ s rs (fun t v A1 O1 H1 p1 s1 n1 r1 => by
    obtain ⟨c, rfl, p⟩ := p1
    obtain ⟨_, e, rfl⟩ := r1
    cases e
    exact ⟨c, rfl, kb c A1 O1 H1 p s1 n1⟩) kx
theorem w_B (h : WE K W te O ts (fun t O' => ∃ c, t = .v (.bl c) ∧ PB' c O') X) : WT K W (tB te) O ts PB' X := w_test h
theorem w_and (h : WT K W tt O ts (fun c O' => (c = true → WT K W uu O' ts PB' X) ∧ (c = false → PB' false O')) X) : WT K W (tAnd tt uu) O ts PB' X := fun b A σ H Q s rs kb kx =>
  h b A σ H _ s rs (fun c A1 O1 H1 p1 s1 n1 => by
    cases c with
    | true => exact iteT (p1.1 rfl b A1 σ H1 Q s1 (rs.nxt n1) (kb.nxt n1) (kx.nxt n1))
    | false => exact iteF (kb false A1 O1 H1 (p1.2 rfl) s1 n1)) kx
theorem w_or (h : WT K W tt O ts (fun c O' => (c = true → PB' true O') ∧ (c = false → WT K W uu O' ts PB' X)) X) : WT K W (tOr tt uu) O ts PB' X := fun b A σ H Q s rs kb kx =>
  h b A σ H _ s rs (fun c A1 O1 H1 p1 s1 n1 => by
    cases c with
    | true => exact iteT (kb true A1 O1 H1 (p1.1 rfl) s1 n1)
    | false => exact iteF (p1.2 rfl b A1 σ H1 Q s1 (rs.nxt n1) (kb.nxt n1) (kx.nxt n1))) kx
theorem w_not (h : WT K W tt O ts (fun c O' => PB' (!c) O') X) : WT K W (tNot tt) O ts PB' X := fun b A σ H Q s rs kb kx =>
  h b A σ H _ s rs (fun c A1 O1 H1 p1 s1 n1 => kb (!c) A1 O1 H1 p1 s1 n1) kx
theorem w_andV (h : WE K W ta O ts (fun t O' => ∃ c, t = .v (.bl c) ∧ (c = true → WE K W tb O' ts P X) ∧ (c = false → P (.v (.bl false)) O')) X) : WE K W (tAndV ta tb) O ts P X := fun b A σ H Q s rs kv kx =>
  h b A σ H _ s rs (fun t v A1 O1 H1 p1 s1 n1 r1 => by
    obtain ⟨c, rfl, pt, pf⟩ := p1
    obtain ⟨_, e, rfl⟩ := r1
    cases e
    refine ⟨c, rfl, ?_⟩
    cases c with
    | true => exact iteT (pt rfl b A1 σ H1 Q s1 (rs.nxt n1) (kv.nxt n1) (kx.nxt n1))
    | false => exact iteF (kv _ _ A1 O1 H1 (pf rfl) s1 n1 ⟨_, rfl, rfl⟩)) kx
theorem w_orV (h : WE K W ta O ts (fun t O' => ∃ c, t = .v (.bl c) ∧ (c = true → P (.v (.bl true)) O') ∧ (c = false → WE K W tb O' ts P X)) X) : WE K W (tOrV ta tb) O ts P X := fun b A σ H Q s rs kv kx =>
  h b A σ H _ s rs (fun t v A1 O1 H1 p1 s1 n1 r1 => by
    obtain ⟨c, rfl, pt, pf⟩ := p1
    obtain ⟨_, e, rfl⟩ := r1
    cases e
    refine ⟨c, rfl, ?_⟩
    cases c with
    | true => exact iteT (kv _ _ A1 O1 H1 (pt rfl) s1 n1 ⟨_, rfl, rfl⟩)
    | false => exact iteF (pf rfl b A1 σ H1 Q s1 (rs.nxt n1) (kv.nxt n1) (kx.nxt n1))) kx
theorem w_notV (h : WE K W ta O ts (fun t O' => ∃ c, t = .v (.bl c) ∧ P (.v (.bl (!c))) O') X) : WE K W (tNotV ta) O ts P X := fun b A σ H Q s rs kv kx =>
  h b A σ H _ s rs (fun t v A1 O1 H1 p1 s1 n1 r1 => by
    obtain ⟨c, rfl, p⟩ := p1
    obtain ⟨_, e, rfl⟩ := r1
    cases e
    exact ⟨c, rfl, kv _ _ A1 O1 H1 p s1 n1 ⟨_, rfl, rfl⟩⟩) kx
theorem w_ife (h : WT K W tt O ts (fun c O' => (c = true → WE K W ta O' ts P X) ∧ (c = false → WE K W tb O' ts P X)) X) : WE K W (tIf tt ta tb) O ts P X := fun b A σ H Q s rs kv kx =>
  h b A σ H _ s rs (fun c A1 O1 H1 p1 s1 n1 => by
    cases c with
    | true => exact iteT (p1.1 rfl b A1 σ H1 Q s1 (rs.nxt n1) (kv.nxt n1) (kx.nxt n1))
    | false => exact iteF (p1.2 rfl b A1 σ H1 Q s1 (rs.nxt n1) (kv.nxt n1) (kx.nxt n1))) kx
theorem w_chain {t3 : TE} (h : WE K W ta O ts (fun x O1 => WE K W tb O1 ts (fun y O2 => WR K r x y O2 (fun z O3 => ∃ c, z = .v (.bl c) ∧ (c = true → WE K W t3 O3 ts (fun w' O4 => WR K r' y w' O4 P) X) ∧ (c = false → P (.v (.bl false)) O3))) X) X) :
    WE K W (tChain r r' ta tb t3) O ts P X := fun b A σ H Q s rs kv kx => by
  refine h b A σ H _ s rs (fun x v A1 O1 H1 p1 s1 n1 r1 => ?_) kx
  refine p1 b A1 σ H1 _ s1 (rs.nxt n1) (fun y u A2 O2 H2 p2 s2 n2 r2 => ?_) (kx.nxt n1)
  refine p2 b A2 H2 _ v u s2 (r1.nxt n2) r2 (fun z w' A3 O3 H3 p3 s3 n3 r3 => ?_)
  obtain ⟨c, rfl, pt, pf⟩ := p3
  obtain ⟨_, e, rfl⟩ := r3
  cases e
  refine ⟨c, rfl, ?_⟩
  have n13 := (n1.trans n2).trans n3
  cases c with
  | true => exact iteT (pt rfl b A3 σ H3 _ s3 (rs.nxt n13) (fun y4 u4 A4 O4 H4 p4 s4 n4 r4 => p4 b A4 H4 Q u u4 s4 (r2.nxt (n3.trans n4)) r4 (kv.nxt (n13.trans n4))) (kx.nxt n13))
  | false => exact iteF (kv _ _ A3 O3 H3 (pf rfl) s3 n13 ⟨_, rfl, rfl⟩)
theorem w_nil (k : PL' [] O) : WA K W tNil O ts PL' X := fun b A σ H Q s rs kl _ => kl [] [] A O H k s Nxt.refl rfl
theorem w_cons (h : WE K W te O ts (fun x O1 => WA K W tr O1 ts (fun xs O2 => PL' (x :: xs) O2) X) X) : WA K W (tCons te tr) O ts PL' X := fun b A σ H Q s rs kl kx =>
  h b A σ H _ s rs (fun x v A1 O1 H1 p1 s1 n1 r1 => p1 b A1 σ H1 _ s1 (rs.nxt n1) (fun xs vs A2 O2 H2 p2 s2 n2 r2 => kl _ _ A2 O2 H2 p2 s2 (n1.trans n2) ⟨v, vs, rfl, r1.nxt n2, r2⟩) (kx.nxt n1)) kx
theorem w_tup (h : WA K W tr O ts (fun xs O1 => ∃ ds, unv xs = some ds ∧ xs.length ≤ sizeLine ∧ P (.v (.tup ds)) O1) X) : WE K W (tTup tr) O ts P X := fun b A σ H Q s rs kv kx =>
  h b A σ H _ s rs (fun xs vs A1 O1 H1 p1 s1 n1 r1 => by
    obtain ⟨ds, e, l, p⟩ := p1
    refine ⟨by rw [r1.length]; exact l, fun p' hp => ?_⟩
    obtain ⟨s2, n2, q⟩ := s1.lay hp (.tup vs)
    exact kv _ _ A1 O1 _ p s2 (n1.trans n2) ⟨_, rfl, p', vs, rfl, SqT.of q, (r1.plain e).ex n2.ext⟩) kx
theorem w_lst (h : WA K W tr O ts (fun xs O1 => ∃ ds, unv xs = some ds ∧ xs.length ≤ sizeLine ∧ P (.v (.lst ds)) O1) X) : WE K W (tLst tr) O ts P X := fun b A σ H Q s rs kv kx =>
  h b A σ H _ s rs (fun xs vs A1 O1 H1 p1 s1 n1 r1 => by
    obtain ⟨ds, e, l, p⟩ := p1
    refine ⟨by rw [r1.length]; exact l, fun p' hp => ?_⟩
    obtain ⟨s2, n2, q⟩ := s1.lay hp (.lst vs)
    exact kv _ _ A1 O1 _ p s2 (n1.trans n2) ⟨_, rfl, p', vs, rfl, q, (r1.plain e).ex n2.ext⟩) kx
/-- a list that is owned -/
theorem w_lstO (h : WA K W tr O ts (fun xs O1 => ∃ ds, unv xs = some ds ∧ xs.length ≤ sizeLine ∧ P (.own O1.length) (O1 ++ [.lst ds])) X) : WE K W (tLst tr) O ts P X := fun b A σ H Q s rs kv kx =>
  h b A σ H _ s rs (fun xs vs A1 O1 H1 p1 s1 n1 r1 => by
    obtain ⟨ds, e, l, p⟩ := p1
    refine ⟨by rw [r1.length]; exact l, fun p' hp => ?_⟩
    obtain ⟨s2, n2⟩ := s1.own (o := .lst ds) hp ⟨vs, upd_same, r1.plain e⟩
    refine kv _ _ _ _ _ p s2 (n1.trans n2) ⟨p', ?_, rfl⟩
    rw [← s1.len, List.getElem?_append_right (Nat.le_refl _), Nat.sub_self]
    exact rfl) kx
theorem w_call {rc : List V → Hp → VK → Prop} (h : WA K W tr O ts (fun xs O1 => WC K rc xs O1 P) X) : WE K W (tCB rc tr) O ts P X := fun b A σ H Q s rs kv kx =>
  h b A σ H _ s rs (fun xs vs A1 O1 H1 p1 s1 n1 r1 => p1 b A1 H1 Q vs s1 r1 (kv.nxt n1)) kx
end
end G

set_option Elab.async false
set_option linter.all false
set_option maxRecDepth 100000
set_option maxHeartbeats 4000000
namespace G
open PySem PySem.Spec PyProof.Rows L2

section
variable {K : PySem.W.Frag} {W : WX} {O : List OD} {ts : List T} {E : DE} {t u : TS} {te : TE} {tt : TT} {ta : TA}
theorem WS.imp {E' : DE} (h : WS K W t O ts E) (hn : ∀ ts O, E.nx ts O → E'.nx ts O) (hr : ∀ t O, E.rt t O → E'.rt t O) (hb : ∀ ts O, E.bk ts O → E'.bk ts O) (hc : ∀ ts O, E.ct ts O → E'.ct ts O) (hx : ∀ C fs ts O, E.xe C fs ts O → E'.xe C fs ts O) : WS K W t O ts E' :=
  fun b A σ H D s rs ks => h b A σ H D s rs ⟨fun ts σ A' O' H' p => ks.nx ts σ A' O' H' (hn _ _ p), fun t v A' O' H' p => ks.rt t v A' O' H' (hr _ _ p), fun ts σ A' O' H' p => ks.bk ts σ A' O' H' (hb _ _ p), fun ts σ A' O' H' p => ks.ct ts σ A' O' H' (hc _ _ p),
    fun C fs ts σ A' O' H' d p => ks.xe C fs ts σ A' O' H' d (hx _ _ _ _ p)⟩
theorem s_next (k : E.nx ts O) : WS K W tNext O ts E := fun b A σ H D s rs ks => ks.nx ts σ A O H k s Nxt.refl rs
theorem s_seq (h : WS K W t O ts { E with nx := fun ts' O' => WS K W u O' ts' E }) : WS K W (tSeq t u) O ts E := fun b A σ H D s rs ks =>
  h b A σ H { D with nx := u D } s rs ⟨fun ts' σ' A' O' H' p s' n' rs' => p b A' σ' H' D s' rs' (ks.nxt n'), ks.rt, ks.bk, ks.ct, ks.xe⟩
/-- the same, with a word between -/
theorem s_cut (M : List T → List OD → Prop) (h : WS K W t O ts { E with nx := M }) (k : ∀ ts' O', M ts' O' → WS K W u O' ts' E) : WS K W (tSeq t u) O ts E :=
  s_seq (WS.imp h (fun ts O p => k ts O p) (fun _ _ p => p) (fun _ _ p => p) (fun _ _ p => p) (fun _ _ _ _ p => p))
theorem s_drop (h : WE K W te O ts (fun _ O' => E.nx ts O') (fun C fs O' => E.xe C fs ts O')) : WS K W (tDrop te) O ts E := fun b A σ H D s rs ks =>
  h b A σ H _ s rs (fun t v A' O' H' p s' n' r' => ks.nx ts σ A' O' H' p s' n' (rs.nxt n')) (ks.kx rs)
theorem s_ret (h : WE K W te O ts E.rt (fun C fs O' => E.xe C fs ts O')) : WS K W (tRet te) O ts E := fun b A σ H D s rs ks => h b A σ H _ s rs ks.rt (ks.kx rs)
theorem s_retN (k : E.rt (.v .non) O) : WS K W tRetN O ts E := fun b A σ H D s rs ks => ks.rt (.v .non) .non A O H k s Nxt.refl ⟨_, rfl, rfl⟩
theorem s_if (h : WT K W tt O ts (fun c O' => (c = true → WS K W t O' ts E) ∧ (c = false → WS K W u O' ts E)) (fun C fs O' => E.xe C fs ts O')) : WS K W (tIfS tt t u) O ts E := fun b A σ H D s rs ks =>
  h b A σ H _ s rs (fun c A1 O1 H1 p1 s1 n1 => by
    cases c with
    | true => exact iteT (p1.1 rfl b A1 σ H1 D s1 (rs.nxt n1) (ks.nxt n1))
    | false => exact iteF (p1.2 rfl b A1 σ H1 D s1 (rs.nxt n1) (ks.nxt n1))) (ks.kx rs)

theorem repT_int {F : Hp} {A : List Addr} (i : Int) : RepT K F A (.v (.int i)) (some (.int i)) := ⟨_, rfl, rfl⟩
def WG (K : PySem.W.Frag) (W : WX) (g : TG) (t : T) (O : List OD) (ts : List T) (N : List T → List OD → Prop) : Prop :=
  ∀ b A σ H Q v, StO K b A O H → RepS K (Fz b A O H) A ts σ → RepT K (Fz b A O H) A t (some v) → KN K b A O H N Q → g v σ H Q
def WGs (K : PySem.W.Frag) (W : WX) (g : TGs) (xs : List T) (O : List OD) (ts : List T) (N : List T → List OD → Prop) : Prop :=
  ∀ b A σ H Q vs, StO K b A O H → RepS K (Fz b A O H) A ts σ → RepTs K (Fz b A O H) A xs vs → KN K b A O H N Q → g vs σ H Q
theorem g_name {i : Nat} {x : T} {N : List T → List OD → Prop} (k : N (ts.set i x) O) : WG K W (gName i) x O ts N := fun b A σ H Q v s rs r kn => kn _ _ A O H k s Nxt.refl (rs.set r i)
theorem g_nil {N : List T → List OD → Prop} (k : N ts O) : WGs K W gNil [] O ts N := fun b A σ H Q vs s rs r kn => ⟨r, kn ts σ A O H k s Nxt.refl rs⟩
theorem g_cons {g : TG} {gs : TGs} {x : T} {xs : List T} {N : List T → List OD → Prop} (h : WG K W g x O ts (fun ts' O' => WGs K W gs xs O' ts' N)) : WGs K W (gCons g gs) (x :: xs) O ts N := fun b A σ H Q vs s rs r kn => by
  obtain ⟨v, r', rfl, r1, r2⟩ := r
  exact ⟨v, r', rfl, h b A σ H _ v s rs r1 fun ts' σ' A' O' H' p s' n' rs' => p b A' σ' H' Q r' s' rs' (r2.nxt n') (kn.nxt n')⟩
theorem repTs_v {F : Hp} {A : List Addr} : ∀ {ds : List D} {vs : List V}, RepL K F ds vs → RepTs K F A (ds.map T.v) vs
  | [], _, h => h
  | d :: ds, _, h => by
    obtain ⟨v, r, e, h1, h2⟩ := h
    exact ⟨v, r, e, ⟨v, rfl, h1⟩, repTs_v h2⟩
/-- a, b = a tuple -/
theorem g_tup {n : Nat} {gs : TGs} {ds : List D} {N : List T → List OD → Prop} (hl : ds.length = n) (h : WGs K W gs (ds.map T.v) O ts N) : WG K W (gTup K n gs) (.v (.tup ds)) O ts N := fun b A σ H Q v s rs r kn => by
  obtain ⟨_, e, a, vs, rfl, h1, h2⟩ := r
  cases e
  exact ⟨a, vs, rfl, (hid_ex : Ex (Fz b A O H) H).t h1, by rw [h2.length]; exact hl, h b A σ H Q vs s rs (repTs_v h2) kn⟩
theorem s_asg {g : TG} (h : WE K W te O ts (fun t O' => WG K W g t O' ts E.nx) (fun C fs O' => E.xe C fs ts O')) : WS K W (tAsg te g) O ts E := fun b A σ H D s rs ks =>
  h b A σ H _ s rs (fun t v A' O' H' p s' n' r' => p b A' σ H' D.nx v s' (rs.nxt n') r' (ks.nx.nxt n')) (ks.kx rs)
theorem s_set {i : Nat} (h : WE K W te O ts (fun t O' => E.nx (ts.set i t) O') (fun C fs O' => E.xe C fs ts O')) : WS K W (tAsg te (gName i)) O ts E := s_asg (h.imp fun t O' p => g_name p)
theorem s_par {i j : Nat} (h : WA K W ta O ts (fun xs O' => ∃ x y, xs = [x, y] ∧ E.nx ((ts.set i x).set j y) O') (fun C fs O' => E.xe C fs ts O')) : WS K W (tPar i j ta) O ts E := fun b A σ H D s rs ks =>
  h b A σ H _ s rs (fun xs vs A' O' H' p s' n' r' => by
    obtain ⟨x, y, rfl, q⟩ := p
    obtain ⟨v, _, rfl, r1, w', _, rfl, r2, rfl⟩ := r'
    exact ⟨v, w', rfl, ks.nx _ _ A' O' H' q s' n' (((rs.nxt n').set r1 i).set r2 j)⟩) (ks.kx rs)
theorem s_aug {i : Nat} {f : Int → Int → Int} {a : Int} (ha : ts[i]? = some (.v (.int a))) (h : WE K W te O ts (fun t O' => ∃ c, t = .v (.int c) ∧ E.nx (ts.set i (.v (.int (f a c)))) O') (fun C fs O' => E.xe C fs ts O')) : WS K W (tAug i te (ipI f)) O ts E := fun b A σ H D s rs ks => by
  obtain ⟨o, e, v, rfl, rd⟩ := rs.2 i _ ha
  refine ⟨v, e, h b A σ H _ s rs (fun t y A' O' H' p s' n' r' => ?_) (ks.kx rs)⟩
  obtain ⟨c, rfl, q⟩ := p
  obtain ⟨_, e2, rd2⟩ := r'
  cases e2
  exact ⟨a, c, rd, rd2, ks.nx _ _ A' O' H' q s' n' ((rs.nxt n').set (repT_int (f a c)) i)⟩

/-- what a for loop's source is, over data: the items, as they come -/
def WI (K : PySem.W.Frag) (W : WX) (wi : TI) (O : List OD) (ts : List T) (S : (Nat → Option T) → List OD → Prop) (X : XX) : Prop :=
  ∀ b A σ H R, StO K b A O H → RepS K (Fz b A O H) A ts σ →
    (∀ J f A' O' H', S f O' → StO K b A' O' H' → Nxt b A O H A' O' H' →
      (∀ i A2 O2 H2, StO K b A2 O2 H2 → Nxt b A' O' H' A2 O2 H2 → (f i = none → (∀ j, j < i → f j ≠ none) → J.stop i H2) ∧ (∀ t, f i = some t → J.go i H2 ∧ ∀ x H3, J.yld i H2 x H3 → StO K b A2 O2 H3 ∧ Nxt b A2 O2 H2 A2 O2 H3 ∧ RepT K (Fz b A2 O2 H3) A2 t (some x))) → R J H') →
    KX K W b A O σ H X → wi σ H R
/-- the items of a list of data -/
def itD (ds : List D) : Nat → Option T := fun i => (ds[i]?).map T.v
theorem itD_none {ds : List D} {i : Nat} (h : itD ds i = none) : ds.length ≤ i := by
  unfold itD at h
  cases q : ds[i]? with
  | none => exact List.getElem?_eq_none_iff.mp q
  | some d =>
    rw [q] at h
    cases h
theorem itD_some {ds : List D} {i : Nat} {t : T} (h : itD ds i = some t) : ∃ d, ds[i]? = some d ∧ t = .v d := by
  unfold itD at h
  cases q : ds[i]? with
  | none =>
    rw [q] at h
    cases h
  | some d =>
    rw [q] at h
    exact ⟨d, rfl, (Option.some.inj h).symm⟩
theorem i_list {tl : TE} {S : (Nat → Option T) → List OD → Prop} {X : XX} (h : WE K W tl O ts (fun t O' => ∃ ds, t = .v (.lst ds) ∧ S (itD ds) O') X) : WI K W (iList K tl) O ts S X := fun b A σ H R s rs k kx =>
  h b A σ H _ s rs (fun t v A' O' H' p s' n' r' => by
    obtain ⟨ds, rfl, q⟩ := p
    obtain ⟨_, e, a, vs, rfl, h1, h2⟩ := r'
    replace h1 := SqL.of (K := K) h1
    cases e
    have h1' := (hid_ex : Ex (Fz b A' O' H') H').l h1
    refine ⟨a, rfl, ⟨vs, h1'⟩, k _ _ A' O' H' q s' n' fun i A2 O2 H2 s2 n2 => ⟨fun hn _ => ⟨vs, hid_ex.l (n2.ext.l h1), by rw [h2.length]; exact itD_none hn⟩, fun t ht => ?_⟩⟩
    obtain ⟨d, e1, rfl⟩ := itD_some ht
    obtain ⟨v, e2, r⟩ := h2.get e1
    have h2' : SqL K H2 a vs := hid_ex.l (n2.ext.l h1)
    refine ⟨⟨vs, v, h2', e2⟩, fun x H3 y => ?_⟩
    obtain ⟨rfl, y⟩ := y
    have e3 := (y vs h2').symm.trans e2
    have e4 : x = v := Option.some.inj e3
    subst e4
    exact ⟨s2, Nxt.refl, ⟨_, rfl, r.ex n2.ext⟩⟩) kx
theorem i_tup {tl : TE} {S : (Nat → Option T) → List OD → Prop} {X : XX} (h : WE K W tl O ts (fun t O' => ∃ ds, t = .v (.tup ds) ∧ S (itD ds) O') X) : WI K W (iTup K tl) O ts S X := fun b A σ H R s rs k kx =>
  h b A σ H _ s rs (fun t v A' O' H' p s' n' r' => by
    obtain ⟨ds, rfl, q⟩ := p
    obtain ⟨_, e, a, vs, rfl, h1, h2⟩ := r'
    cases e
    have h1' := (hid_ex : Ex (Fz b A' O' H') H').t h1
    refine ⟨a, rfl, ⟨vs, h1'⟩, k _ _ A' O' H' q s' n' fun i A2 O2 H2 s2 n2 => ⟨fun hn _ => ⟨vs, hid_ex.t (n2.ext.t h1), by rw [h2.length]; exact itD_none hn⟩, fun t ht => ?_⟩⟩
    obtain ⟨d, e1, rfl⟩ := itD_some ht
    obtain ⟨v, e2, r⟩ := h2.get e1
    have h2' : SqT K H2 a vs := hid_ex.t (n2.ext.t h1)
    refine ⟨⟨vs, v, h2', e2⟩, fun x H3 y => ?_⟩
    obtain ⟨rfl, y⟩ := y
    have e3 := (y vs h2').symm.trans e2
    have e4 : x = v := Option.some.inj e3
    subst e4
    exact ⟨s2, Nxt.refl, ⟨_, rfl, r.ex n2.ext⟩⟩) kx
/-- the integers from lo on, n of them -/
def itR (lo c : Int) (n : Nat) : Nat → Option T := fun i => if i < n then some (.v (.int (lo + (i : Int) * c))) else none
theorem itR_none {lo c : Int} {n i : Nat} (h : itR lo c n i = none) : n ≤ i := by
  unfold itR at h
  by_cases q : i < n
  · rw [if_pos q] at h
    cases h
  · omega
theorem itR_some {lo c : Int} {n i : Nat} {t : T} (h : itR lo c n i = some t) : i < n ∧ t = .v (.int (lo + (i : Int) * c)) := by
  unfold itR at h
  by_cases q : i < n
  · rw [if_pos q] at h
    exact ⟨q, (Option.some.inj h).symm⟩
  · rw [if_neg q] at h
    cases h
theorem r_facts {b : Bs} {lo : Int} {n : Nat} {A' : List Addr} {O' : List OD} {H' : Hp} (i : Nat) (A2 : List Addr) (O2 : List OD) (H2 : Hp) (s2 : StO K b A2 O2 H2) :
    (itR lo 1 n i = none → (∀ j, j < i → itR lo 1 n j ≠ none) → (Itr lo n).stop i H2) ∧ (∀ t, itR lo 1 n i = some t → (Itr lo n).go i H2 ∧ ∀ x H3, (Itr lo n).yld i H2 x H3 → StO K b A2 O2 H3 ∧ Nxt b A2 O2 H2 A2 O2 H3 ∧ RepT K (Fz b A2 O2 H3) A2 t (some x)) := by
  refine ⟨fun hn _ => itR_none hn, fun t ht => ?_⟩
  obtain ⟨hi, rfl⟩ := itR_some ht
  refine ⟨hi, fun x H3 y => ?_⟩
  obtain ⟨rfl, rfl⟩ := y
  exact ⟨s2, Nxt.refl, ⟨_, rfl, by rw [Int.mul_one]; exact rfl⟩⟩
theorem i_rng1 {S : (Nat → Option T) → List OD → Prop} {X : XX} (h : WA K W ta O ts (fun xs O' => ∃ j : Int, xs = [.v (.int j)] ∧ (-(2 ^ 62) ≤ j ∧ j < 2 ^ 62) ∧ S (itR 0 1 j.toNat) O') X) : WI K W (iRng1 ta) O ts S X := fun b A σ H R s rs k kx =>
  h b A σ H _ s rs (fun xs vs A' O' H' p s' n' r' => by
    obtain ⟨j, rfl, hj, q⟩ := p
    obtain ⟨v, _, rfl, ⟨_, e, rfl⟩, rfl⟩ := r'
    cases e
    exact ⟨j, rfl, hj.1, hj.2, k _ _ A' O' H' q s' n' fun i A2 O2 H2 s2 _ => r_facts (A' := A') (O' := O') (H' := H') i A2 O2 H2 s2⟩) kx
theorem i_rng2 {S : (Nat → Option T) → List OD → Prop} {X : XX} (h : WA K W ta O ts (fun xs O' => ∃ i j : Int, xs = [.v (.int i), .v (.int j)] ∧ (-(2 ^ 62) ≤ i ∧ i < 2 ^ 62 ∧ -(2 ^ 62) ≤ j ∧ j < 2 ^ 62) ∧ S (itR i 1 (j - i).toNat) O') X) : WI K W (iRng2 ta) O ts S X := fun b A σ H R s rs k kx =>
  h b A σ H _ s rs (fun xs vs A' O' H' p s' n' r' => by
    obtain ⟨i, j, rfl, hj, q⟩ := p
    obtain ⟨v, _, rfl, ⟨_, e, rfl⟩, w', _, rfl, ⟨_, e2, rfl⟩, rfl⟩ := r'
    cases e
    cases e2
    exact ⟨i, j, rfl, hj, k _ _ A' O' H' q s' n' fun i A2 O2 H2 s2 _ => r_facts (A' := A') (O' := O') (H' := H') i A2 O2 H2 s2⟩) kx
/-- a for loop by an invariant over the turn, the slots and the owned things; n: the number of items -/
theorem s_for {wi : TI} {g : TG} {tb : TS} (h : WI K W wi O ts (fun f O1 => ∃ (n : Nat) (I : Nat → List T → List OD → Prop), (∀ i, i < n → f i ≠ none) ∧ f n = none ∧ I 0 ts O1 ∧
      (∀ i t ts' O', i < n → f i = some t → I i ts' O' → WG K W g t O' ts' (fun ts2 O2 => WS K W tb O2 ts2 { E with nx := I (i + 1), ct := I (i + 1), bk := E.nx })) ∧ (∀ ts' O', I n ts' O' → E.nx ts' O')) (fun C fs O' => E.xe C fs ts O')) : WS K W (tFor wi g tb) O ts E := fun b A σ H D s rs ks =>
  h b A σ H _ s rs (fun J f A1 O1 H1 p s1 n1 fc => by
    obtain ⟨n, I, hf, hn, h0, hs, hd⟩ := p
    refine ⟨fun i m σ' H' => m = n - i ∧ i ≤ n ∧ ∃ ts' A' O', I i ts' O' ∧ StO K b A' O' H' ∧ Nxt b A1 O1 H1 A' O' H' ∧ RepS K (Fz b A' O' H') A' ts' σ', ⟨n, by omega, Nat.zero_le _, ts, A1, O1, h0, s1, Nxt.refl, rs.nxt n1⟩, ?_⟩
    rintro i m σ' H' ⟨rfl, hi, ts', A', O', hI, s', n', rs'⟩
    obtain ⟨c1, c2⟩ := fc i A' O' H' s' n'
    by_cases hlt : i < n
    · right
      obtain ⟨t, ht⟩ := Option.ne_none_iff_exists'.mp (hf i hlt)
      obtain ⟨hgo, hy⟩ := c2 t ht
      refine ⟨hgo, fun σ2 H2 => ∃ ts2 A2 O2, I (i + 1) ts2 O2 ∧ StO K b A2 O2 H2 ∧ Nxt b A1 O1 H1 A2 O2 H2 ∧ RepS K (Fz b A2 O2 H2) A2 ts2 σ2, fun σ2 H2 q => ⟨n - (i + 1), by omega, rfl, hlt, q⟩, fun x H3 y => ?_⟩
      obtain ⟨s3, n3, r3⟩ := hy x H3 y
      refine hs i t ts' O' hlt ht hI b A' σ' H3 _ x s3 (rs'.nxt n3) r3 fun ts4 σ4 A4 O4 H4 p4 s4 n4 rs4 => ?_
      have n14 := (n'.trans n3).trans n4
      refine p4 b A4 σ4 H4 _ s4 rs4 ⟨fun ts5 σ5 A5 O5 H5 p5 s5 n5 rs5 => ⟨ts5, A5, O5, p5, s5, n14.trans n5, rs5⟩, ks.rt.nxt (n1.trans n14), ks.nx.nxt (n1.trans n14), fun ts5 σ5 A5 O5 H5 p5 s5 n5 rs5 => ⟨ts5, A5, O5, p5, s5, n14.trans n5, rs5⟩,
        fun C fs ts5 σ5 A5 O5 H5 d p5 s5 n5 rs5 rx => ks.xe C fs ts5 σ5 A5 O5 H5 d p5 s5 ((n1.trans n14).trans n5) rs5 rx⟩
    · left
      have e : i = n := by omega
      subst e
      exact ⟨c1 hn hf, ks.nx ts' σ' A' O' H' (hd ts' O' hI) s' (n1.trans n') rs'⟩) (ks.kx rs)
/-- while: an invariant with a measure -/
theorem s_while {tb : TS} (I : Nat → List T → List OD → Prop) (m0 : Nat) (h0 : I m0 ts O)
    (hs : ∀ m ts' O', I m ts' O' → WT K W tt O' ts' (fun c O2 => (c = true → WS K W tb O2 ts' { E with nx := fun ts3 O3 => ∃ m', m' < m ∧ I m' ts3 O3, ct := fun ts3 O3 => ∃ m', m' < m ∧ I m' ts3 O3, bk := E.nx }) ∧ (c = false → E.nx ts' O2)) (fun C fs O2 => E.xe C fs ts' O2)) :
    WS K W (tWhile tt tb) O ts E := fun b A σ H D s rs ks => by
  refine ⟨fun m σ' H' => ∃ ts' A' O', I m ts' O' ∧ StO K b A' O' H' ∧ Nxt b A O H A' O' H' ∧ RepS K (Fz b A' O' H') A' ts' σ', ⟨m0, ts, A, O, h0, s, Nxt.refl, rs⟩, ?_⟩
  rintro m σ' H' ⟨ts', A', O', hI, s', n', rs'⟩
  refine hs m ts' O' hI b A' σ' H' _ s' rs' (fun c A2 O2 H2 p2 s2 n2 => ?_) ((ks.nxt n').kx rs')
  cases c with
  | true =>
    refine iteT ⟨fun σ3 H3 => ∃ m', m' < m ∧ ∃ ts3 A3 O3, I m' ts3 O3 ∧ StO K b A3 O3 H3 ∧ Nxt b A O H A3 O3 H3 ∧ RepS K (Fz b A3 O3 H3) A3 ts3 σ3, fun σ3 H3 q => q, ?_⟩
    have n12 := n'.trans n2
    exact p2.1 rfl b A2 σ' H2 _ s2 (rs'.nxt n2) ⟨fun ts3 σ3 A3 O3 H3 ⟨m', l, p3⟩ s3 n3 rs3 => ⟨m', l, ts3, A3, O3, p3, s3, n12.trans n3, rs3⟩, ks.rt.nxt n12, ks.nx.nxt n12, fun ts3 σ3 A3 O3 H3 ⟨m', l, p3⟩ s3 n3 rs3 => ⟨m', l, ts3, A3, O3, p3, s3, n12.trans n3, rs3⟩,
      fun C fs ts3 σ3 A3 O3 H3 d p3 s3 n3 rs3 rx => ks.xe C fs ts3 σ3 A3 O3 H3 d p3 s3 (n12.trans n3) rs3 rx⟩
  | false => exact iteF (ks.nx ts' σ' A2 O2 H2 (p2.2 rfl) s2 (n'.trans n2) (rs'.nxt n2))
end
end G

set_option Elab.async false
set_option linter.all false
set_option maxRecDepth 100000
set_option maxHeartbeats 4000000
namespace G
open PySem PySem.Spec PyProof.Rows L2

theorem live_app : ∀ {A M : List Addr} {O N : List OD}, A.length = O.length → live (A ++ M) (O ++ N) = live A O ++ live M N
  | [], _, [], _, _ => rfl
  | [], _, _ :: _, _, h => by simp at h
  | _ :: _, _, [], _, h => by simp at h
  | a :: A, M, u :: O, N, h => by
    have ih := live_app (A := A) (O := O) (M := M) (N := N) (by simpa using h)
    cases u <;> simp only [List.cons_append, live, ih]
section
variable {K : PySem.W.Frag} {b : Bs} {A M : List Addr} {O N : List OD} {H : Hp}
theorem StO.drop (s : StO K b (A ++ M) (O ++ N) H) (hl : A.length = O.length) (hp : ∃ L, A = b.A0 ++ L) : StO K b A O H ∧ Ex (Fz b (A ++ M) (O ++ N) H) (Fz b A O H) := by
  have e := live_app (M := M) (N := N) hl
  have sub : ∀ a, a ∈ live A O → a ∈ live (A ++ M) (O ++ N) := fun a h => by
    rw [e]
    exact List.mem_append_left _ h
  have x : Ex (Fz b (A ++ M) (O ++ N) H) (Fz b A O H) := hid_mono (fun _ _ _ h => h) fun a o h _ z => by
    rcases List.mem_append.mp z with z | z
    · exact h (List.mem_append_left _ (sub a z))
    · exact h (List.mem_append_right _ z)
  refine ⟨⟨hl, hp, s.ext.trans (hid_mono (fun _ _ _ h => h) fun a o h _ z => h (sub a z)), s.zs, (List.nodup_append.mp s.nd).1, fun a h => s.inh a (List.mem_append_left _ h), fun i a o h1 h2 => ?_, s.tb⟩, x⟩
  have l1 : i < A.length := (List.getElem?_eq_some_iff.mp h1).1
  exact (s.cell i a o (by rw [List.getElem?_append_left l1]; exact h1) (by rw [List.getElem?_append_left (by rw [← hl]; exact l1)]; exact h2)).ex x fun _ h => h
end

def okG : List OD → Bool
  | [] => true
  | .gone :: _ => false
  | _ :: r => okG r
theorem okG_live : ∀ {A : List Addr} {O : List OD}, A.length = O.length → okG O = true → live A O = A
  | [], [], _, _ => rfl
  | [], _ :: _, h, _ => by simp at h
  | _ :: _, [], h, _ => by simp at h
  | a :: A, o :: O, h, g => by
    cases o with
    | gone => cases g
    | lst ds => exact congrArg (a :: ·) (okG_live (A := A) (O := O) (by simpa using h) g)
    | ins C fs => exact congrArg (a :: ·) (okG_live (A := A) (O := O) (by simpa using h) g)
    | dic kvs => exact congrArg (a :: ·) (okG_live (A := A) (O := O) (by simpa using h) g)
abbrev SpD := List T → List OD → PT' → XX → Prop
/-- the promise, over the heap -/
def lift (K : PySem.W.Frag) (sp : SpD) : Sp := fun vs H Q E => ∃ (Z A : List Addr) (O : List OD) (ts : List T) (P : PT') (X : XX),
  StO K ⟨hid A H, Z, A⟩ A O H ∧ okG O = true ∧ RepTs K (Fz ⟨hid A H, Z, A⟩ A O H) A ts vs ∧ sp ts O P X ∧
  (∀ t v O' H', P t O' → okG O' = true → StO K ⟨hid A H, Z, A⟩ A O' H' → RepT K (Fz ⟨hid A H, Z, A⟩ A O' H') A t (some v) → Q v H') ∧
  (∀ C fs O' H' d, X C fs O' → okG O' = true → StO K ⟨hid A H, Z, A⟩ A O' H' → RepX K (Fz ⟨hid A H, Z, A⟩ A O' H') H' fs d → E C d H')
theorem lift_len {K : PySem.W.Frag} {sp : SpD} {n : Nat} (h : ∀ ts O P X, sp ts O P X → ts.length = n) : ∀ vs H Q E, lift K sp vs H Q E → vs.length = n := fun vs H Q E ⟨_, _, _, ts, _, _, _, _, r, p, _, _⟩ => by
  rw [r.length]
  exact h _ _ _ _ p
/-- what a def hands back: an owned list of its own becomes plain data -/
def retOk (n : Nat) (P : PT') (t : T) (O : List OD) : Prop := okG (O.take n) = true ∧ match t with
  | .v d => P (.v d) (O.take n)
  | .own i => if i < n then P (.own i) (O.take n) else (match O[i]? with
    | some (.lst ds) => P (.v (.lst ds)) (O.take n)
    | some (.ins C fs) => P (.v (.ins C fs)) (O.take n)
    | some (.dic kvs) => P (.v (.dic kvs)) (O.take n)
    | _ => False)
  | _ => False
def bodyE (n : Nat) (P : PT') (X : XX) : DE where
  nx := fun _ O' => okG (O'.take n) = true ∧ P (.v .non) (O'.take n)
  rt := retOk n P
  xe := fun C fs _ O' => okG (O'.take n) = true ∧ X C fs (O'.take n)
def startT (N : Nat) (ts : List T) : List T := ts ++ List.replicate (N - ts.length) .no
theorem repS_start {K : PySem.W.Frag} {F : Hp} {A : List Addr} {N : List Str} {ts : List T} {vs : List V} (r : RepTs K F A ts vs) : RepS K F A (startT N.length ts) (L2.start N vs) := by
  have hl := r.length
  refine ⟨?_, fun i t h => ?_⟩
  · unfold startT L2.start
    rw [List.length_append, List.length_append, List.length_replicate, List.length_replicate, List.length_map, hl]
  · unfold startT at h
    unfold L2.start
    by_cases hi : i < ts.length
    · rw [List.getElem?_append_left hi] at h
      obtain ⟨v, e, q⟩ := r.get h
      refine ⟨some v, ?_, q⟩
      rw [List.getElem?_append_left (by rw [List.length_map, hl]; exact hi), List.getElem?_map, e]
      exact rfl
    · rw [List.getElem?_append_right (by omega)] at h
      rw [List.getElem?_append_right (by rw [List.length_map, hl]; omega), List.length_map, hl]
      rw [List.getElem?_replicate] at h ⊢
      by_cases h2 : i - ts.length < N.length - ts.length
      · rw [if_pos h2] at h ⊢
        have e : T.no = t := Option.some.inj h
        subst e
        exact ⟨_, rfl, trivial⟩
      · rw [if_neg h2] at h
        cases h
theorem enter {K : PySem.W.Frag} {sp : SpD} {t : TS} {N : List Str} {vs : List V} {H : Hp} {Q : VK} {E : XK} (h : lift K sp vs H Q E)
    (hb : ∀ ts O P X, sp ts O P X → okG O = true → WS K (fun c d _ H => E c d H) t O (startT N.length ts) (bodyE O.length P X)) : t { nx := fun _ H' => Q .non H', rt := Q } (L2.start N vs) H := by
  obtain ⟨Z, A, O, ts, P, X, s, g, r, p, hq, hx⟩ := h
  have hlen := s.len
  have shut : ∀ {A' O' H'}, StO K ⟨hid A H, Z, A⟩ A' O' H' → ∃ M, A' = A ++ M ∧ StO K ⟨hid A H, Z, A⟩ A (O'.take O.length) H' ∧ Ex (Fz ⟨hid A H, Z, A⟩ A' O' H') (Fz ⟨hid A H, Z, A⟩ A (O'.take O.length) H') := fun {A' O' H'} s' => by
    obtain ⟨M, e⟩ := s'.pre
    have e : A' = A ++ M := e
    subst e
    have l1 := s'.len
    rw [List.length_append] at l1
    have e2 : O' = O'.take O.length ++ O'.drop O.length := (List.take_append_drop _ _).symm
    have s2 := s'
    rw [e2] at s2
    obtain ⟨s3, x3⟩ := s2.drop (by rw [List.length_take]; omega) ⟨[], (List.append_nil A).symm⟩
    refine ⟨M, rfl, s3, ?_⟩
    rw [← e2] at x3
    exact x3
  refine hb ts O P X p g _ A _ H _ s (repS_start r) ⟨fun ts' σ' A' O' H' q s' _ _ => ?_, fun t v A' O' H' q s' _ rt => ?_, fun _ _ _ _ _ q => q.elim, fun _ _ _ _ _ q => q.elim, fun C fs ts' σ' A' O' H' d q s' _ _ rx => ?_⟩
  · obtain ⟨M, _, s3, _⟩ := shut s'
    exact hq (.v .non) .non _ H' q.2 q.1 s3 ⟨_, rfl, rfl⟩
  · obtain ⟨M, e, s3, x3⟩ := shut s'
    obtain ⟨q1, q2⟩ := q
    cases t with
    | v d =>
      obtain ⟨w, e4, r4⟩ := rt
      exact hq (.v d) v _ H' q2 q1 s3 ⟨w, e4, r4.ex x3⟩
    | own i =>
      obtain ⟨a, e4, e5⟩ := rt
      have ev : v = .ref a := Option.some.inj e5
      subst ev
      have q3 : if i < O.length then P (.own i) (O'.take O.length) else (match O'[i]? with
        | some (.lst ds) => P (.v (.lst ds)) (O'.take O.length)
        | some (.ins C fs) => P (.v (.ins C fs)) (O'.take O.length)
        | some (.dic kvs) => P (.v (.dic kvs)) (O'.take O.length)
        | _ => False) := q2
      by_cases hi : i < O.length
      · rw [if_pos hi] at q3
        refine hq (.own i) _ _ H' q3 q1 s3 ⟨a, ?_, rfl⟩
        rw [e, List.getElem?_append_left (by rw [hlen]; exact hi)] at e4
        exact e4
      · rw [if_neg hi] at q3
        have hn : a ∉ A := fun hm => by
          have nd := s'.nd
          rw [e] at nd e4
          rw [List.getElem?_append_right (by rw [hlen]; omega)] at e4
          exact (List.nodup_append.mp nd).2.2 a hm a (List.mem_of_getElem? e4) rfl
        have fz : ∀ o, H' a = some o → Fz ⟨hid A H, Z, A⟩ A (O'.take O.length) H' a = some o := fun o ho => hid_some.mpr ⟨fun z => by
          rcases List.mem_append.mp z with z | z
          · rw [okG_live s3.len q1] at z
            exact hn z
          · obtain ⟨o2, z2, _⟩ := s3.zs a z
            have z3 := (hid_some.mp z2).2
            have zz := s'.z_at (a := a) z
            cases ho' : O'[i]? with
            | none =>
              rw [ho'] at q3
              exact q3
            | some w =>
              rw [ho'] at q3
              have ng : w ≠ .gone := fun zz2 => by
                subst zz2
                exact q3
              exact zz.1 (live_at e4 ho' ng), ho⟩
        cases ho : O'[i]? with
        | none =>
          rw [ho] at q3
          exact q3.elim
        | some w =>
          rw [ho] at q3
          have c := s'.cell i a w e4 ho
          cases w with
          | gone => exact q3.elim
          | lst ds =>
            obtain ⟨us, c1, c2⟩ := c
            exact hq (.v (.lst ds)) _ _ H' q3 q1 s3 ⟨_, rfl, a, us, rfl, fz _ c1, c2.ex x3⟩
          | ins C fs =>
            obtain ⟨dx, us, c1, c2⟩ := c
            exact hq (.v (.ins C fs)) _ _ H' q3 q1 s3 ⟨_, rfl, a, dx, us, rfl, fz _ c1, c2.ex x3⟩
          | dic kvs =>
            obtain ⟨us, c1, c2⟩ := c
            exact hq (.v (.dic kvs)) _ _ H' q3 q1 s3 ⟨_, rfl, a, us, rfl, fz _ c1, c2.ex x3⟩
    | no => exact q2.elim
    | clo R f => exact q2.elim
  · obtain ⟨M, _, s3, x3⟩ := shut s'
    refine hx C fs _ H' d q.2 q.1 s3 ?_
    cases fs with
    | none => exact rx
    | some l =>
      obtain ⟨dx, us, r1, r2, r3⟩ := rx
      exact ⟨dx, us, r1, x3 _ _ r2 (by (first | assumption | exact nt_exc | exact fun _ z => (by cases z))), r3.ex x3⟩

section
variable {K : PySem.W.Frag} {W : WX} {O : List OD} {ts : List T} {P : PT'} {X : XX} {sp : SpD} {te ta : TE} {tr : TA} {E : XK}
theorem unv_reps {F : Hp} {A A' : List Addr} : ∀ {xs : List T} {vs : List V} {ds : List D}, unv xs = some ds → RepTs K F A xs vs → RepTs K F A' xs vs
  | [], _, _, _, h => h
  | .v d :: xs, _, ds, e, h => by
    obtain ⟨v, r, e1, ⟨w, e2, r2⟩, h2⟩ := h
    have e3 : (unv xs).map (d :: ·) = some ds := e
    cases q : unv xs with
    | none =>
      rw [q] at e3
      cases e3
    | some es => exact ⟨v, r, e1, ⟨w, e2, r2⟩, unv_reps q h2⟩
  | .own _ :: _, _, _, e, _ => by cases e
  | .no :: _, _, _, e, _ => by cases e
  | .clo _ _ :: _, _, _, e, _ => by cases e
/-- into a def that is handed plain data alone -/
theorem lift_p {b : Bs} {A : List Addr} {O : List OD} {H : Hp} {σ : L2.St} {Q : VK} {vs : List V} {xs : List T} {ds : List D} (s : StO K b A O H) (r : RepTs K (Fz b A O H) A xs vs) (hx : unv xs = some ds) (hE : ∀ C d H, W C d σ H → E C d H)
    (p : sp xs [] (fun t _ => (∃ d, t = .v d) ∧ P t O) (fun C fs _ => X C fs O)) (kv : KV' K b A O H P Q) (kx : KX K W b A O σ H X) : lift K sp vs H Q E := by
  have eh : hid [] H = H := by
    funext a
    unfold hid
    rw [if_neg (by simp)]
  have nz : ∀ a, a ∈ live A O ++ b.Z → ∃ o, H a = some o ∧ OB o := fun a h => by
    rcases List.mem_append.mp h with h | h
    · exact s.some_at h
    · exact (s.z_at h).2
  have back : ∀ {H'}, StO K ⟨hid [] H, live A O ++ b.Z, []⟩ [] [] H' → StO K b A O H' ∧ Nxt b A O H A O H' := fun {H'} s' => by
    have x : Ex H H' := by
      have x1 := s'.ext
      have e2 : hid (live [] []) H' = H' := by
        funext a
        show hid [] H' a = H' a
        unfold hid
        rw [if_neg (by simp)]
      rw [e2] at x1
      have x2 : Ex (hid [] H) H' := x1
      rw [eh] at x2
      exact x2
    have x3 : Ex (Fz b A O H) (Fz b A O H') := hid_monoW (fun a o _ h n => x a o h n) fun _ _ h _ => h
    exact ⟨⟨s.len, s.pre, s.ext.trans (hid_monoW (fun a o _ h n => x a o h n) fun _ _ h _ => h), s.zs, s.nd, fun a h => let ⟨o, q, n⟩ := s.inh a h; ⟨o, x a o q n, n⟩, fun i a o h1 h2 => (s.cell i a o h1 h2).exW x3 (x a), s'.tb⟩, ⟨[], (List.append_nil A).symm⟩, x3⟩
  refine ⟨live A O ++ b.Z, [], [], xs, _, _, ⟨rfl, ⟨[], rfl⟩, ?_, fun z hz => ?_, List.nodup_nil, fun a h => (by simp at h), fun i a o h _ => (by simp at h), s.tb⟩, rfl, unv_reps hx r, p, fun t v O' H' ⟨⟨d, e⟩, q⟩ g s' rt => ?_, fun C fs O' H' d q g s' rx => ?_⟩
  · show Ex (hid [] H) (hid [] H)
    exact Ex.refl _
  · obtain ⟨o, q, n⟩ := nz z hz
    exact ⟨o, by show hid [] H z = some o; rw [eh]; exact q, n⟩
  · have e0 : O' = [] := List.length_eq_zero_iff.mp s'.len.symm
    subst e0
    obtain ⟨s2, n2⟩ := back s'
    subst e
    exact kv _ v A O H' q s2 n2 rt
  · have e0 : O' = [] := List.length_eq_zero_iff.mp s'.len.symm
    subst e0
    obtain ⟨s2, n2⟩ := back s'
    exact hE C d H' (kx C fs A O H' d q s2 n2 rx)
/-- .. one that lets no exception out -/
theorem w_fn0 (h : WA K W tr O ts (fun xs O1 => ∃ ds, unv xs = some ds ∧ sp xs [] (fun t _ => (∃ d, t = .v d) ∧ P t O1) (fun _ _ _ => False)) X) : WE K W (tCall (lift K sp) [] E0 tr) O ts P X := fun b A σ H Q s rs kv kx =>
  h b A σ H _ s rs (fun xs vs A1 O1 H1 p1 s1 n1 r1 => by
    obtain ⟨ds, e, p⟩ := p1
    rw [List.append_nil]
    exact lift_p (W := fun _ _ _ _ => False) (X := fun _ _ _ => False) (σ := σ) s1 r1 e (fun C d H z => z) p (kv.nxt n1) (fun C fs A' O' H' d z => z.elim)) kx
end
end G

set_option Elab.async false
set_option linter.all false
set_option maxRecDepth 100000
set_option maxHeartbeats 4000000
namespace G
open PySem PySem.Spec PyProof.Rows L2

section
variable {K : PySem.W.Frag} {W : WX} {O : List OD} {ts : List T} {P : PT'} {X : XX} {sp : SpD} {te ta : TE} {tr : TA} {E : XK}
/-- into a def that is handed one owned thing, the i-th one (by it .own 0) -/
def tr1 (i : Nat) : List T → Option (List T)
  | [] => some []
  | .v d :: r => (tr1 i r).map (.v d :: ·)
  | .own j :: r => if j = i then (tr1 i r).map (.own 0 :: ·) else none
  | _ :: _ => none
/-- what a def may hand back -/
def okR : T → Bool
  | .v _ => true
  | .own _ => true
  | _ => false
abbrev un1 (i : Nat) : T → T
  | .own _ => .own i
  | t => t
theorem tr1_reps {F : Hp} {A : List Addr} {i : Nat} {a : Addr} (ha : A[i]? = some a) : ∀ {xs ys : List T} {vs : List V}, tr1 i xs = some ys → RepTs K F A xs vs → RepTs K F [a] ys vs
  | [], ys, _, e, h => by
    have e2 : [] = ys := Option.some.inj e
    subst e2
    exact h
  | .v d :: xs, ys, _, e, h => by
    obtain ⟨v, r, e1, ⟨w, e2, r2⟩, h2⟩ := h
    have e3 : (tr1 i xs).map (.v d :: ·) = some ys := e
    cases q : tr1 i xs with
    | none =>
      rw [q] at e3
      cases e3
    | some es =>
      rw [q] at e3
      have e4 : .v d :: es = ys := Option.some.inj e3
      subst e4
      exact ⟨v, r, e1, ⟨w, e2, r2⟩, tr1_reps ha q h2⟩
  | .own j :: xs, ys, _, e, h => by
    obtain ⟨v, r, e1, ⟨c, e2, r2⟩, h2⟩ := h
    have e3 : (if j = i then (tr1 i xs).map (.own 0 :: ·) else none) = some ys := e
    by_cases hj : j = i
    · rw [if_pos hj] at e3
      subst hj
      cases q : tr1 j xs with
      | none =>
        rw [q] at e3
        cases e3
      | some es =>
        rw [q] at e3
        have e4 : .own 0 :: es = ys := Option.some.inj e3
        subst e4
        rw [ha] at e2
        have e5 : a = c := Option.some.inj e2
        subst e5
        exact ⟨v, r, e1, ⟨a, rfl, r2⟩, tr1_reps ha q h2⟩
    · rw [if_neg hj] at e3
      cases e3
  | .no :: _, _, _, e, _ => by cases e
  | .clo _ _ :: _, _, _, e, _ => by cases e
theorem lift_1 {b : Bs} {A : List Addr} {H : Hp} {σ : L2.St} {Q : VK} {vs : List V} {xs ys : List T} {i : Nat} {o : OD} (s : StO K b A O H) (r : RepTs K (Fz b A O H) A xs vs) (hx : tr1 i xs = some ys) (ho : O[i]? = some o) (ng : okG [o] = true) (hE : ∀ C d H, W C d σ H → E C d H)
    (p : sp ys [o] (fun t O' => ∃ o', O' = [o'] ∧ okR t = true ∧ P (un1 i t) (O.set i o')) (fun C fs O' => ∃ o', O' = [o'] ∧ X C fs (O.set i o'))) (kv : KV' K b A O H P Q) (kx : KX K W b A O σ H X) : lift K sp vs H Q E := by
  have ng1 : o ≠ .gone := fun z => by
    subst z
    cases ng
  have hi : i < A.length := by
    rw [s.len]
    exact (List.getElem?_eq_some_iff.mp ho).1
  obtain ⟨a, ha⟩ : ∃ a, A[i]? = some a := ⟨A[i], List.getElem?_eq_getElem hi⟩
  have hl : a ∈ live A O := live_at ha ho ng1
  have lv1 : ∀ {o' : OD}, o' ≠ .gone → live [a] [o'] = [a] := fun {o'} h => by
    cases o' with
    | gone => exact absurd rfl h
    | _ => rfl
  have mem : ∀ x, x ∈ [a] ++ ((live A O).filter (fun y => y != a) ++ b.Z) ↔ x ∈ live A O ++ b.Z := fun x => by
    simp only [List.mem_append, List.mem_singleton, List.mem_filter, bne_iff_ne, ne_eq]
    constructor
    · rintro (rfl | ⟨h, _⟩ | h)
      · exact .inl hl
      · exact .inl h
      · exact .inr h
    · rintro (h | h)
      · by_cases hx : x = a
        · exact .inl hx
        · exact .inr (.inl ⟨h, hx⟩)
      · exact .inr (.inr h)
  have hid_eq : ∀ H0 : Hp, hid ([a] ++ ((live A O).filter (fun y => y != a) ++ b.Z)) H0 = hid (live A O ++ b.Z) H0 := fun H0 => by
    funext x
    unfold hid
    by_cases hx : x ∈ live A O ++ b.Z
    · rw [if_pos hx, if_pos ((mem x).mpr hx)]
    · rw [if_neg hx, if_neg fun z => hx ((mem x).mp z)]
  have fzc : ∀ {o' : OD} {H0 : Hp}, o' ≠ .gone → Fz ⟨hid [a] H, (live A O).filter (fun y => y != a) ++ b.Z, [a]⟩ [a] [o'] H0 = hid (live A O ++ b.Z) H0 := fun {o' H0} h => by
    show hid (live [a] [o'] ++ ((live A O).filter (fun y => y != a) ++ b.Z)) H0 = _
    rw [lv1 h]
    exact hid_eq H0
  have back : ∀ {o' : OD} {H' : Hp}, o' ≠ .gone → StO K ⟨hid [a] H, (live A O).filter (fun y => y != a) ++ b.Z, [a]⟩ [a] [o'] H' → StO K b A (O.set i o') H' ∧ Nxt b A O H A (O.set i o') H' ∧ Fz b A (O.set i o') H' = hid (live A O ++ b.Z) H' := fun {o' H'} g s' => by
    have x : ∀ c u, c ≠ a → H c = some u → NT u → H' c = some u := fun c u hc h n => by
      have x1 : Ex (hid [a] H) (hid (live [a] [o']) H') := s'.ext
      exact (hid_some.mp (x1 c u (hid_some.mpr ⟨by simpa using hc, h⟩) n)).2
    have el : live A (O.set i o') = live A O := live_set ho ng1 g
    have x3 : Ex (Fz b A O H) (Fz b A (O.set i o') H') := by
      unfold Fz
      rw [el]
      exact hid_monoW (fun c u hc h n => x c u (fun z => hc (List.mem_append_left _ (by rw [z]; exact hl))) h n) fun _ _ h _ => h
    refine ⟨⟨by rw [List.length_set]; exact s.len, s.pre, ?_, s.zs, s.nd, fun c h => ?_, fun j c u h1 h2 => ?_, s'.tb⟩, ⟨⟨[], (List.append_nil A).symm⟩, x3⟩, by unfold Fz; rw [el]⟩
    · rw [el]
      exact s.ext.trans (hid_monoW (fun c u hc h n => x c u (fun z => hc (by rw [z]; exact hl)) h n) fun _ _ h _ => h)
    · by_cases z : c = a
      · rw [z]
        exact s'.inh a List.mem_cons_self
      · obtain ⟨u, q, n⟩ := s.inh c h
        exact ⟨u, x c u z q n, n⟩
    · rw [List.getElem?_set] at h2
      by_cases hij : i = j
      · subst hij
        rw [if_pos rfl] at h2
        rw [ha] at h1
        have e3 : a = c := Option.some.inj h1
        subst e3
        by_cases hlt : i < O.length
        · rw [if_pos hlt] at h2
          have e4 : o' = u := Option.some.inj h2
          subst e4
          have c := s'.cell 0 a o' rfl rfl
          refine c.ex (fun y w h _ => ?_) fun _ h => h
          rw [fzc g] at h
          unfold Fz
          rw [el]
          exact h
        · rw [if_neg hlt] at h2
          cases h2
      · rw [if_neg hij] at h2
        have hne : c ≠ a := fun z => hij (nd_ix s.nd ha (z ▸ h1))
        exact (s.cell j c u h1 h2).exW x3 fun w h n => x c w hne h n
  have one : ∀ {o' : OD}, okG [o'] = true → o' ≠ .gone := fun {o'} g z => by
    subst z
    cases g
  refine ⟨(live A O).filter (fun y => y != a) ++ b.Z, [a], [o], ys, _, _, ⟨rfl, ⟨[], rfl⟩, ?_, fun z hz => ?_, by simp, fun c h => ?_, fun j c u h1 h2 => ?_, s.tb⟩, ng, ?_, p, fun t v O' H' ⟨o', e, hn, q⟩ g s' rt => ?_, fun C fs O' H' d ⟨o', e, q⟩ g s' rx => ?_⟩
  · show Ex (hid [a] H) (hid (live [a] [o]) H)
    rw [lv1 ng1]
    exact Ex.refl _
  · have hz' : z ≠ a ∧ ∃ u, H z = some u ∧ OB u := by
      rcases List.mem_append.mp hz with hz | hz
      · obtain ⟨h1, h2⟩ := List.mem_filter.mp hz
        exact ⟨by simpa using h2, s.some_at h1⟩
      · obtain ⟨h1, h2⟩ := s.z_at hz
        exact ⟨fun z => h1 (by rw [z]; exact hl), h2⟩
    obtain ⟨h1, u, h2, n⟩ := hz'
    exact ⟨u, hid_some.mpr ⟨by simpa using h1, h2⟩, n⟩
  · rw [List.mem_singleton.mp h]
    obtain ⟨o2, q2, q3⟩ := s.some_at hl
    exact ⟨o2, q2, q3.1⟩
  · have hj : j = 0 := by
      cases j with
      | zero => rfl
      | succ n => simp at h1
    subst hj
    have e1 : a = c := Option.some.inj h1
    have e2 : o = u := Option.some.inj h2
    subst e1 e2
    rw [fzc ng1]
    exact s.cell i a o ha ho
  · rw [fzc ng1]
    exact tr1_reps ha hx r
  · subst e
    have g1 := one g
    obtain ⟨s2, n2, f2⟩ := back g1 s'
    rw [fzc g1] at rt
    refine kv _ v A _ H' q s2 n2 ?_
    rw [f2]
    cases t with
    | v d => exact rt
    | own j =>
      obtain ⟨c, e1, e2⟩ := rt
      have hj : j = 0 := by
        cases j with
        | zero => rfl
        | succ n => simp at e1
      subst hj
      have e3 : a = c := Option.some.inj e1
      subst e3
      exact ⟨a, ha, e2⟩
    | no => cases hn
    | clo R f => cases hn
  · subst e
    have g1 := one g
    obtain ⟨s2, n2, f2⟩ := back g1 s'
    refine hE C d H' (kx C fs A _ H' d q s2 n2 ?_)
    rw [f2]
    rw [fzc g1] at rx
    exact rx
theorem w_fn10 (i : Nat) (h : WA K W tr O ts (fun xs O1 => ∃ ys o, tr1 i xs = some ys ∧ O1[i]? = some o ∧ okG [o] = true ∧
    sp ys [o] (fun t O' => ∃ o', O' = [o'] ∧ okR t = true ∧ P (un1 i t) (O1.set i o')) (fun C fs O' => False)) X) : WE K W (tCall (lift K sp) [] E0 tr) O ts P X := fun b A σ H Q s rs kv kx =>
  h b A σ H _ s rs (fun xs vs A1 O1 H1 p1 s1 n1 r1 => by
    obtain ⟨ys, o, e, ho, ng, p⟩ := p1
    rw [List.append_nil]
    have x0 : (fun (C : Value) (fs : Option (List (Str × D))) (O' : List OD) => ∃ o', O' = [o'] ∧ (fun _ _ _ => False : XX) C fs (O1.set i o')) = fun _ _ _ => False := by
      funext C fs O'
      exact propext ⟨fun ⟨_, _, z⟩ => z, fun z => z.elim⟩
    exact lift_1 (W := fun _ _ _ _ => False) (X := fun _ _ _ => False) (σ := σ) s1 r1 e ho ng (fun C d H z => z) (by rw [x0]; exact p) (kv.nxt n1) (fun C fs A' O' H' d z => z.elim)) kx

theorem StO.lay2 {b : Bs} {A : List Addr} {H : Hp} (s : StO K b A O H) {p : Addr} (hp : H p = none) (o : HO) : StO K b A O (upd H p o) ∧ Nxt b A O H A O (upd H p o) := ⟨(s.lay hp o).1, (s.lay hp o).2.1⟩
/-- C(..): __init__ is handed the new instance as the owned thing 0, of no fields -/
theorem w_make0 {C : Addr} (h : WA K W tr O ts (fun xs O1 => ∃ ds, unv xs = some ds ∧ sp (.own 0 :: xs) [.ins C []] (fun t O' => t = .v .non ∧ ∃ fs, O' = [.ins C fs] ∧ P (.v (.ins C fs)) O1) (fun _ _ _ => False)) X) :
    WE K W (tMake C (lift K sp) [] E0 tr) O ts P X := fun b A σ H Q s rs kv kx =>
  h b A σ H _ s rs (fun xs vs A1 O1 H1 p1 s1 n1 r1 x dx hx hdx hne => by
    obtain ⟨ds, e, p⟩ := p1
    rw [List.append_nil]
    obtain ⟨s2, n2⟩ := s1.lay2 hdx (.own x)
    have hx2 : upd H1 dx (.own x) x = none := by
      rw [upd_ne hne.symm]
      exact hx
    obtain ⟨s3, n3⟩ := s2.own (u := .ins C dx []) (o := .ins C []) hx2 ⟨dx, [], upd_same, rfl⟩
    have n13 := n2.trans n3
    have hat : (A1 ++ [x])[A1.length]? = some x := by
      rw [List.getElem?_append_right (Nat.le_refl _), Nat.sub_self]
      exact rfl
    have hoat : (O1 ++ [OD.ins C []])[A1.length]? = some (.ins C []) := by
      rw [s1.len, List.getElem?_append_right (Nat.le_refl _), Nat.sub_self]
      exact rfl
    have tr : tr1 A1.length (.own A1.length :: xs) = some (.own 0 :: xs) := by
      have z : ∀ {xs : List T} {ds : List D}, unv xs = some ds → tr1 A1.length xs = some xs := fun {xs} => by
        induction xs with
        | nil => exact fun _ => rfl
        | cons t xs ih =>
          intro ds e
          cases t with
          | v d =>
            have e3 : (unv xs).map (d :: ·) = some ds := e
            cases q : unv xs with
            | none =>
              rw [q] at e3
              cases e3
            | some es =>
              show (tr1 A1.length xs).map (T.v d :: ·) = _
              rw [ih q]
              exact rfl
          | own j => cases e
          | no => cases e
          | clo R f => cases e
      show (if A1.length = A1.length then (tr1 A1.length xs).map (T.own 0 :: ·) else none) = _
      rw [if_pos rfl, z e]
      exact rfl
    refine lift_1 (W := fun _ _ _ _ => False) (X := fun _ _ _ => False) (σ := σ) (P := fun t O' => t = .v .non ∧ ∃ fs, O' = O1 ++ [.ins C fs] ∧ P (.v (.ins C fs)) O1) s3 (xs := .own A1.length :: xs) ⟨.ref x, vs, rfl, ⟨x, hat, rfl⟩, r1.nxt n13⟩ tr hoat rfl (fun C d H z => z) ?_
      (fun t v A' O' H' q s' n' rt => ?_) (fun C fs A' O' H' d z => z.elim)
    · have x0 : (fun (C' : Value) (fs : Option (List (Str × D))) (O' : List OD) => ∃ o', O' = [o'] ∧ (fun _ _ _ => False : XX) C' fs ((O1 ++ [OD.ins C []]).set A1.length o')) = fun _ _ _ => False := by
        funext C fs O'
        exact propext ⟨fun ⟨_, _, z⟩ => z, fun z => z.elim⟩
      rw [x0]
      have pq : (fun (t : T) (O' : List OD) => ∃ o', O' = [o'] ∧ okR t = true ∧ (un1 A1.length t = .v .non ∧ ∃ fs, (O1 ++ [OD.ins C []]).set A1.length o' = O1 ++ [.ins C fs] ∧ P (.v (.ins C fs)) O1)) = fun t O' => t = .v .non ∧ ∃ fs, O' = [.ins C fs] ∧ P (.v (.ins C fs)) O1 := by
        have es : ∀ o' : OD, (O1 ++ [OD.ins C []]).set A1.length o' = O1 ++ [o'] := fun o' => by
          rw [s1.len, List.set_append_right _ _ (Nat.le_refl _), Nat.sub_self]
          exact rfl
        funext t O'
        refine propext ⟨?_, ?_⟩
        · rintro ⟨o', rfl, hn, hu, fs, e1, q⟩
          rw [es] at e1
          have e2 : o' = .ins C fs := by
            have := List.append_cancel_left e1
            injection this
          subst e2
          refine ⟨?_, fs, rfl, q⟩
          cases t with
          | v d => exact hu
          | own j => cases hu
          | no => cases hn
          | clo R f => cases hn
        · rintro ⟨rfl, fs, rfl, q⟩
          exact ⟨_, rfl, rfl, rfl, fs, es _, q⟩
      rw [pq]
      exact p
    · obtain ⟨rfl, fs, rfl, q⟩ := q
      obtain ⟨_, e1, e2⟩ := rt
      cases e1
      obtain ⟨M, eM⟩ := n'.pre
      have l2 := s'.len
      have eM0 : M = [] := by
        have l3 : A'.length = (A1 ++ [x] ++ M).length := by rw [eM]
        rw [List.length_append, List.length_append] at l3
        rw [List.length_append] at l2
        have l4 := s1.len
        refine List.length_eq_zero_iff.mp ?_
        simp only [List.length_singleton] at l2 l3
        omega
      subst eM0
      rw [List.append_nil] at eM
      subst eM
      have c := s'.cell A1.length x (.ins C fs) hat (by rw [s1.len, List.getElem?_append_right (Nat.le_refl _), Nat.sub_self]; exact rfl)
      obtain ⟨s4, x4⟩ := s'.drop s1.len s1.pre
      obtain ⟨dx', us, c1, c2⟩ := c
      have nA : x ∉ A1 := fun hm => (List.nodup_append.mp s'.nd).2.2 x hm x (List.mem_singleton.mpr rfl) rfl
      have nz : x ∉ live A1 O1 ++ b.Z := fun z => by
        rcases List.mem_append.mp z with z | z
        · obtain ⟨j, o, z1, _, _⟩ := live_mem z
          exact nA (List.mem_of_getElem? z1)
        · have zz := s1.z_at (a := x) z
          obtain ⟨o, zz, _⟩ := zz.2
          rw [hx] at zz
          cases zz
      have fz : Fz b A1 O1 H' x = some (.ins C dx' us) := hid_some.mpr ⟨nz, c1⟩
      refine ⟨e2, kv _ _ A1 O1 H' q s4 (n1.trans ⟨⟨[], (List.append_nil A1).symm⟩, ?_⟩) ⟨_, rfl, x, dx', us, rfl, fz, c2.ex x4⟩⟩
      exact (n13.ext.trans n'.ext).trans x4) kx
end
end G

set_option Elab.async false
set_option linter.all false
set_option maxRecDepth 100000
set_option maxHeartbeats 4000000
namespace G
open PySem PySem.Spec PyProof.Rows L2

/-- an instance: plain, or owned -/
def InsD (x : T) (O : List OD) (C : Addr) (fs : List (Str × D)) : Prop := x = .v (.ins C fs) ∨ ∃ i, x = .own i ∧ O[i]? = some (.ins C fs)
theorem insD_v {O : List OD} {C : Addr} {fs : List (Str × D)} : InsD (.v (.ins C fs)) O C fs := .inl rfl
theorem insD_o {O : List OD} {C : Addr} {fs : List (Str × D)} {i : Nat} (h : O[i]? = some (.ins C fs)) : InsD (.own i) O C fs := .inr ⟨i, rfl, h⟩
theorem insD_at {K : PySem.W.Frag} {b : Bs} {A : List Addr} {O : List OD} {H : Hp} {x : T} {C : Addr} {fs : List (Str × D)} {v : V} (h : InsD x O C fs) (s : StO K b A O H) (r : RepT K (Fz b A O H) A x (some v)) :
    ∃ a dx vs, v = .ref a ∧ H a = some (.ins C dx vs) ∧ RepF K (Fz b A O H) fs vs := by
  rcases h with rfl | ⟨i, rfl, ho⟩
  · obtain ⟨_, e, a, dx, vs, rfl, h1, h2⟩ := r
    cases e
    exact ⟨a, dx, vs, rfl, (hid_some.mp h1).2, h2⟩
  · obtain ⟨a, ha, e⟩ := r
    cases e
    obtain ⟨dx, vs, h1, h2⟩ := s.cell i a _ ha ho
    exact ⟨a, dx, vs, rfl, h1, h2⟩
section
variable {K : PySem.W.Frag} {W : WX} {O : List OD} {ts : List T} {P : PT'} {X : XX} {sp : SpD} {te ta tv : TE} {tr : TA} {E : XK} {DE' : DE} {C : Addr} {f m : Str}
theorem w_fld (c : Cls K C) (n : NoAttr K C f) (h : WE K W ta O ts (fun x O1 => ∃ fs d, InsD x O1 C fs ∧ fs.lookup f = some d ∧ P (.v d) O1) X) : WE K W (tFld K ta f) O ts P X := fun b A σ H Q s rs kv kx =>
  h b A σ H _ s rs (fun x v A1 O1 H1 p1 s1 n1 r1 => by
    obtain ⟨fs, d, hi, hl, p⟩ := p1
    obtain ⟨a, dx, vs, rfl, h1, h2⟩ := insD_at hi s1 r1
    obtain ⟨w, e, r⟩ := h2.look hl
    exact ⟨a, C, dx, vs, w, rfl, h1, c, n, e, kv _ w A1 O1 H1 p s1 n1 ⟨w, rfl, r⟩⟩) kx
def putD (f : Str) (d : D) : List (Str × D) → List (Str × D)
  | [] => [(f, d)]
  | p :: r => if p.1 = f then (f, d) :: r else p :: putD f d r
theorem repF_put {F : Hp} {f : Str} {d : D} {v : V} (q : Rep K F d v) : ∀ {fs : List (Str × D)} {vs : List (Str × V)}, RepF K F fs vs → RepF K F (putD f d fs) (putF f v vs)
  | [], _, h => by
    rw [show _ = [] from h]
    exact ⟨v, [], rfl, q, rfl⟩
  | p :: fs, _, h => by
    obtain ⟨w, r, e1, h1, h2⟩ := h
    subst e1
    show RepF K F (if p.1 = f then (f, d) :: fs else p :: putD f d fs) (putF f v ((p.1, w) :: r))
    unfold putF
    by_cases e : p.1 = f
    · rw [if_pos e]
      first
        | (rw [if_pos e]; exact ⟨v, r, rfl, q, h2⟩)
        | (rw [if_pos e.symm]; exact ⟨v, r, rfl, q, h2⟩)
        | (simp only [e, beq_self_eq_true, if_true]; exact ⟨v, r, rfl, q, h2⟩)
    · rw [if_neg e]
      first
        | (rw [if_neg e]; exact ⟨w, _, rfl, h1, repF_put q h2⟩)
        | (rw [if_neg (Ne.symm e)]; exact ⟨w, _, rfl, h1, repF_put q h2⟩)
        | (simp only [beq_iff_eq, e, if_false]; exact ⟨w, _, rfl, h1, repF_put q h2⟩)
theorem s_fld (c : Cls K C) (n : NoAttr K C f) (h : WE K W tv O ts (fun y O1 => WE K W ta O1 ts (fun x O2 => ∃ i fs d, x = .own i ∧ y = .v d ∧ O2[i]? = some (.ins C fs) ∧ fs.length < 1000 ∧ DE'.nx ts (O2.set i (.ins C (putD f d fs)))) (fun C fs O' => DE'.xe C fs ts O')) (fun C fs O' => DE'.xe C fs ts O')) :
    WS K W (sFld K ta tv f) O ts DE' := fun b A σ H D s rs ks =>
  h b A σ H _ s rs (fun y v A1 O1 H1 p1 s1 n1 r1 => by
    refine p1 b A1 σ H1 _ s1 (rs.nxt n1) (fun x u A2 O2 H2 p2 s2 n2 r2 => ?_) ((ks.kx rs).nxt n1)
    obtain ⟨i, fs, d, rfl, rfl, ho, hz, q⟩ := p2
    obtain ⟨a, ha, e⟩ := r2
    cases e
    obtain ⟨dx, vs, h1, h2⟩ := s2.cell i a _ ha ho
    obtain ⟨w, e2, rw'⟩ := r1.nxt n2
    cases e2
    obtain ⟨s3, n3⟩ := s2.put (w := .ins C dx (putF f v vs)) (o := .ins C (putD f d fs)) ha ho (fun z => by cases z) (fun z => by cases z) ⟨dx, _, upd_same, repF_put rw' h2⟩
    refine ⟨a, C, dx, vs, rfl, h1, c, n, by rw [h2.length]; exact hz, ks.nx ts σ A2 _ _ q s3 ((n1.trans n2).trans n3) (rs.nxt ((n1.trans n2).trans n3))⟩) (ks.kx rs)
/-- o.m(..) of a plain instance -/
theorem w_meth0 (h : WE K W ta O ts (fun x O1 => ∃ fs, x = .v (.ins C fs) ∧ fs.lookup m = none ∧ WA K W tr O1 ts (fun xs O2 => ∃ ds, unv xs = some ds ∧ sp (.v (.ins C fs) :: xs) [] (fun t _ => (∃ d, t = .v d) ∧ P t O2) (fun _ _ _ => False)) X) X) :
    WE K W (tMeth C m (lift K sp) [] E0 ta tr) O ts P X := fun b A σ H Q s rs kv kx =>
  h b A σ H _ s rs (fun x v A1 O1 H1 p1 s1 n1 r1 => by
    obtain ⟨fs, rfl, hm, p⟩ := p1
    obtain ⟨a, dx, vs, rfl, h1, h2⟩ := insD_at insD_v s1 r1
    refine ⟨a, dx, vs, rfl, h1, h2.none hm, p b A1 σ H1 _ s1 (rs.nxt n1) (fun xs us A2 O2 H2 p2 s2 n2 r2 => ?_) (kx.nxt n1)⟩
    obtain ⟨ds, e, q⟩ := p2
    rw [List.append_nil]
    exact lift_p (W := fun _ _ _ _ => False) (X := fun _ _ _ => False) (σ := σ) s2 (xs := .v (.ins C fs) :: xs) (ds := .ins C fs :: ds) ⟨.ref a, us, rfl, r1.nxt n2, r2⟩ (by show (unv xs).map _ = _; rw [e] <;> rfl) (fun C d H z => z) q (kv.nxt (n1.trans n2)) (fun C fs A' O' H' d z => z.elim)) kx
end

def LstD (x : T) (O : List OD) (ds : List D) : Prop := x = .v (.lst ds) ∨ ∃ i, x = .own i ∧ O[i]? = some (.lst ds)
theorem lstD_v {O : List OD} {ds : List D} : LstD (.v (.lst ds)) O ds := .inl rfl
theorem lstD_o {O : List OD} {ds : List D} {i : Nat} (h : O[i]? = some (.lst ds)) : LstD (.own i) O ds := .inr ⟨i, rfl, h⟩
theorem lstD_atH {K : PySem.W.Frag} {b : Bs} {A : List Addr} {O : List OD} {H : Hp} {x : T} {ds : List D} {v : V} (h : LstD x O ds) (s : StO K b A O H) (r : RepT K (Fz b A O H) A x (some v)) :
    ∃ a vs, v = .ref a ∧ H a = some (.lst vs) ∧ RepL K (Fz b A O H) ds vs := by
  rcases h with rfl | ⟨i, rfl, ho⟩
  · obtain ⟨_, e, a, vs, rfl, h1, h2⟩ := r
    cases e
    exact ⟨a, vs, rfl, hid_ex _ _ h1 (by (first | assumption | exact nt_exc | exact fun _ z => (by cases z))), h2⟩
  · obtain ⟨a, ha, e⟩ := r
    cases e
    obtain ⟨vs, h1, h2⟩ := s.cell i a _ ha ho
    exact ⟨a, vs, rfl, h1, h2⟩
theorem lstD_at {K : PySem.W.Frag} {b : Bs} {A : List Addr} {O : List OD} {H : Hp} {x : T} {ds : List D} {v : V} (h : LstD x O ds) (s : StO K b A O H) (r : RepT K (Fz b A O H) A x (some v)) :
    ∃ a vs, v = .ref a ∧ SqL K H a vs ∧ RepL K (Fz b A O H) ds vs := by
  obtain ⟨a, vs, e, h1, h2⟩ := lstD_atH h s r
  exact ⟨a, vs, e, SqL.of h1, h2⟩
theorem tupD_at {K : PySem.W.Frag} {F H : Hp} {A : List Addr} {ds : List D} {v : V} (e : Ex F H) (r : RepT K F A (.v (.tup ds)) (some v)) : ∃ a vs, v = .ref a ∧ SqT K H a vs ∧ RepL K F ds vs := by
  obtain ⟨_, e1, a, vs, rfl, h1, h2⟩ := r
  cases e1
  exact ⟨a, vs, rfl, e.t h1, h2⟩
theorem atI_rep {K : PySem.W.Frag} {F : Hp} {ds : List D} {vs : List V} {i : Int} {d : D} (r : RepL K F ds vs) (h : atI ds i = some d) : ∃ v, atI vs i = some v ∧ Rep K F d v := by
  unfold atI at h ⊢
  rw [r.length]
  cases q : ixN ds.length i with
  | none =>
    rw [q] at h
    cases h
  | some j =>
    rw [q] at h
    exact r.get h
section
variable {K : PySem.W.Frag} {W : WX} {O : List OD} {ts : List T} {P : PT'} {X : XX} {te ta tv : TE} {tr : TA} {DE' : DE}
theorem w_ixL {x : T} {ds : List D} {i : Int} {d : D} (hx : LstD x O ds) (h : atI ds i = some d) (k : P (.v d) O) : WR K (rIxL K) x (.v (.int i)) O P := fun b A H Q v u s r1 r2 kv => by
  obtain ⟨a, vs, rfl, h1, h2⟩ := lstD_at hx s r1
  obtain ⟨_, e2, rfl⟩ := r2
  cases e2
  obtain ⟨w, e, r⟩ := atI_rep h2 h
  exact ⟨a, vs, i, w, rfl, rfl, h1, e, kv _ w A O H k s Nxt.refl ⟨w, rfl, r⟩⟩
theorem w_ixT {ds : List D} {i : Int} {d : D} (h : atI ds i = some d) (k : P (.v d) O) : WR K (rIxT K) (.v (.tup ds)) (.v (.int i)) O P := fun b A H Q v u s r1 r2 kv => by
  obtain ⟨a, vs, rfl, h1, h2⟩ := tupD_at (hid_ex : Ex (Fz b A O H) H) r1
  obtain ⟨_, e2, rfl⟩ := r2
  cases e2
  obtain ⟨w, e, r⟩ := atI_rep h2 h
  exact ⟨a, vs, i, w, rfl, rfl, h1, e, kv _ w A O H k s Nxt.refl ⟨w, rfl, r⟩⟩
theorem atI_0 {α : Type} {x : α} {r : List α} : atI (x :: r) 0 = some x := atI_nat (j := 0) rfl
theorem atI_1 {α : Type} {x y : α} {r : List α} : atI (x :: y :: r) 1 = some y := atI_nat (j := 1) rfl
theorem atI_2 {α : Type} {x y z : α} {r : List α} : atI (x :: y :: z :: r) 2 = some z := atI_nat (j := 2) rfl
theorem atI_3 {α : Type} {x y z u : α} {r : List α} : atI (x :: y :: z :: u :: r) 3 = some u := atI_nat (j := 3) rfl
theorem atI_4 {α : Type} {x y z u v : α} {r : List α} : atI (x :: y :: z :: u :: v :: r) 4 = some v := atI_nat (j := 4) rfl
theorem atI_5 {α : Type} {x y z u v w : α} {r : List α} : atI (x :: y :: z :: u :: v :: w :: r) 5 = some w := atI_nat (j := 5) rfl
theorem atI_6 {α : Type} {x y z u v w k : α} {r : List α} : atI (x :: y :: z :: u :: v :: w :: k :: r) 6 = some k := atI_nat (j := 6) rfl
/-- xs[i] = e -/
theorem g_setL {te ti : TE} {x : T} {N : List T → List OD → Prop} (h : WE K W te O ts (fun y O1 => WE K W ti O1 ts (fun z O2 => ∃ (i : Nat) (ds : List D) (k : Int) (j : Nat) (d : D), y = .own i ∧ z = .v (.int k) ∧ x = .v d ∧ O2[i]? = some (.lst ds) ∧ ixN ds.length k = some j ∧ N ts (O2.set i (.lst (ds.set j d)))) (fun _ _ _ => False)) (fun _ _ _ => False)) :
    WG K W (gSub te ti rSetL) x O ts N := fun b A σ H Q v s rs r kn => by
  refine h b A σ H _ s rs (fun y u A1 O1 H1 p1 s1 n1 r1 => ?_) (fun C fs A' O' H' d z => z.elim)
  refine p1 b A1 σ H1 _ s1 (rs.nxt n1) (fun z w A2 O2 H2 p2 s2 n2 r2 => ?_) (fun C fs A' O' H' d z => z.elim)
  obtain ⟨i, ds, k, j, d, rfl, rfl, rfl, ho, hk, q⟩ := p2
  obtain ⟨a, ha, e⟩ := r1.nxt n2
  cases e
  obtain ⟨_, e2, rfl⟩ := r2
  cases e2
  obtain ⟨vs, h1, h2⟩ := s2.cell i a _ ha ho
  obtain ⟨v', e3, rd⟩ := r.nxt (n1.trans n2)
  cases e3
  obtain ⟨s3, n3⟩ := s2.put (w := .lst (vs.set j v)) (o := .lst (ds.set j d)) ha ho (fun z => by cases z) (fun z => by cases z) ⟨_, upd_same, h2.set rd j⟩
  exact ⟨a, vs, k, j, rfl, rfl, h1, by rw [h2.length]; exact hk, kn ts σ A2 _ _ q s3 ((n1.trans n2).trans n3) (rs.nxt ((n1.trans n2).trans n3))⟩
theorem w_bmL {rm : V → List V → Hp → VK → Prop} (h : WE K W ta O ts (fun x O1 => ∃ ds, LstD x O1 ds ∧ WA K W tr O1 ts (fun xs O2 => WM K rm x xs O2 P) X) X) : WE K W (tBM K "list" rm ta tr) O ts P X := fun b A σ H Q s rs kv kx =>
  h b A σ H _ s rs (fun x v A1 O1 H1 p1 s1 n1 r1 => by
    obtain ⟨ds, hx, p⟩ := p1
    obtain ⟨a, vs, rfl, h1, h2⟩ := lstD_at hx s1 r1
    exact ⟨.inl ⟨rfl, vs, h1⟩, p b A1 σ H1 _ s1 (rs.nxt n1) (fun xs us A2 O2 H2 p2 s2 n2 r2 => p2 b A2 H2 Q _ us s2 (r1.nxt n2) r2 (kv.nxt (n1.trans n2))) (kx.nxt n1)⟩) kx
theorem w_bmL0 {rm : V → List V → Hp → VK → Prop} (h : WE K W ta O ts (fun x O1 => ∃ ds, LstD x O1 ds ∧ WM K rm x [] O1 P) X) : WE K W (tBM0 K "list" rm ta) O ts P X := fun b A σ H Q s rs kv kx =>
  h b A σ H _ s rs (fun x v A1 O1 H1 p1 s1 n1 r1 => by
    obtain ⟨ds, hx, p⟩ := p1
    obtain ⟨a, vs, rfl, h1, h2⟩ := lstD_at hx s1 r1
    exact ⟨.inl ⟨rfl, vs, h1⟩, p b A1 H1 Q _ [] s1 r1 rfl (kv.nxt n1)⟩) kx
theorem m_append {i : Nat} {ds : List D} {d : D} (ho : O[i]? = some (.lst ds)) (hz : ds.length < sizeLine) (k : P (.v .non) (O.set i (.lst (ds ++ [d])))) : WM K rAppend (.own i) [.v d] O P := fun b A H Q v vs s r1 r2 kv => by
  obtain ⟨a, ha, e⟩ := r1
  cases e
  obtain ⟨us, h1, h2⟩ := s.cell i a _ ha ho
  obtain ⟨w, _, rfl, ⟨w2, e2, rd⟩, rfl⟩ := r2
  cases e2
  obtain ⟨s3, n3⟩ := s.put (w := .lst (us ++ [w])) (o := .lst (ds ++ [d])) ha ho (fun z => by cases z) (fun z => by cases z) ⟨_, upd_same, h2.append ⟨w, [], rfl, rd, rfl⟩⟩
  exact ⟨a, us, w, rfl, rfl, h1, by rw [h2.length]; exact hz, kv _ .non A _ _ k s3 n3 ⟨_, rfl, rfl⟩⟩
def WO (K : PySem.W.Frag) (W : WX) (to : TO) (O : List OD) (ts : List T) (P : Option Int → List OD → Prop) (X : XX) : Prop :=
  ∀ b A σ H Q, StO K b A O H → RepS K (Fz b A O H) A ts σ → (∀ c A' O' H', P c O' → StO K b A' O' H' → Nxt b A O H A' O' H' → Q c H') → KX K W b A O σ H X → to σ H Q
theorem o_none {PO' : Option Int → List OD → Prop} (k : PO' none O) : WO K W tNoPart O ts PO' X := fun b A σ H Q s rs kb _ => kb none A O H k s Nxt.refl
theorem o_some {PO' : Option Int → List OD → Prop} (h : WE K W te O ts (fun t O' => ∃ i, t = .v (.int i) ∧ PO' (some i) O') X) : WO K W (tPart te) O ts PO' X := fun b A σ H Q s rs kb kx =>
  h b A σ H _ s rs (fun t v A1 O1 H1 p1 s1 n1 r1 => by
    obtain ⟨i, rfl, p⟩ := p1
    obtain ⟨_, e, rfl⟩ := r1
    cases e
    exact ⟨i, rfl, kb _ A1 O1 H1 p s1 n1⟩) kx
def cutD (xs : List D) (lo hi : Option Int) : List D := (xs.drop (HT.sIx xs.length 0 lo)).take (HT.sIx xs.length xs.length hi - HT.sIx xs.length 0 lo)
theorem cut_rep {F : Hp} {ds : List D} {vs : List V} (r : RepL K F ds vs) (lo hi : Option Int) : RepL K F (cutD ds lo hi) (cutV vs lo hi) := by
  unfold cutD cutV
  rw [r.length]
  exact (r.drop _).take _
theorem w_slL {tl th : TO} (h : WE K W te O ts (fun x O1 => WO K W tl O1 ts (fun lo O2 => WO K W th O2 ts (fun hi O3 => ∃ ds, LstD x O3 ds ∧ P (.v (.lst (cutD ds lo hi))) O3) X) X) X) : WE K W (tSl (rSlL K) te tl th) O ts P X := fun b A σ H Q s rs kv kx =>
  h b A σ H _ s rs (fun x v A1 O1 H1 p1 s1 n1 r1 => p1 b A1 σ H1 _ s1 (rs.nxt n1) (fun lo A2 O2 H2 p2 s2 n2 => p2 b A2 σ H2 _ s2 (rs.nxt (n1.trans n2)) (fun hi A3 O3 H3 p3 s3 n3 => by
    obtain ⟨ds, hx, p⟩ := p3
    obtain ⟨a, vs, rfl, h1, h2⟩ := lstD_at hx s3 (r1.nxt (n2.trans n3))
    refine ⟨a, vs, rfl, h1, fun p' hp => ?_⟩
    obtain ⟨s4, n4, q⟩ := s3.lay hp (.lst (cutV vs lo hi))
    exact kv _ _ A3 O3 _ p s4 (((n1.trans n2).trans n3).trans n4) ⟨_, rfl, p', _, rfl, q, (cut_rep h2 lo hi).ex n4.ext⟩) (kx.nxt (n1.trans n2))) (kx.nxt n1)) kx
theorem c_int {i : Int} (k : P (.v (.int i)) O) : WC K (fun xs H Q => (∃ i, xs = [.int i] ∧ Q (.int i) H) ∨ ∃ k, xs = [.bl k] ∧ Q (.int (if k then 1 else 0)) H) [.v (.int i)] O P := fun b A H Q vs s r kv => by
  obtain ⟨v, _, rfl, ⟨_, e, rfl⟩, rfl⟩ := r
  cases e
  exact .inl ⟨i, rfl, kv _ _ A O H k s Nxt.refl ⟨_, rfl, rfl⟩⟩
theorem c_intB {c : Bool} (k : P (.v (.int (if c then 1 else 0))) O) : WC K (fun xs H Q => (∃ i, xs = [.int i] ∧ Q (.int i) H) ∨ ∃ k, xs = [.bl k] ∧ Q (.int (if k then 1 else 0)) H) [.v (.bl c)] O P := fun b A H Q vs s r kv => by
  obtain ⟨v, _, rfl, ⟨_, e, rfl⟩, rfl⟩ := r
  cases e
  exact .inr ⟨c, rfl, kv _ _ A O H k s Nxt.refl ⟨_, rfl, rfl⟩⟩
theorem c_abs {i : Int} (k : P (.v (.int (if i < 0 then -i else i))) O) : WC K (fun xs H Q => ∃ i, xs = [.int i] ∧ Q (.int (if i < 0 then -i else i)) H) [.v (.int i)] O P := fun b A H Q vs s r kv => by
  obtain ⟨v, _, rfl, ⟨_, e, rfl⟩, rfl⟩ := r
  cases e
  exact ⟨i, rfl, kv _ _ A O H k s Nxt.refl ⟨_, rfl, rfl⟩⟩
def rLen (K : PySem.W.Frag) : List V → Hp → VK → Prop := fun xs H Q => ∃ x n, xs = [x] ∧ LenV K x H n ∧ Q (.int n) H
theorem cr_len {X : Cx} : CallR X (.builtin "len") (rLen X.K) := call_len
theorem c_lenL {x : T} {ds : List D} (hx : LstD x O ds) (k : P (.v (.int ds.length)) O) : WC K (rLen K) [x] O P := fun b A H Q vs s r kv => by
  obtain ⟨v, _, rfl, r1, rfl⟩ := r
  obtain ⟨a, us, rfl, h1, h2⟩ := lstD_at hx s r1
  refine ⟨.ref a, ds.length, rfl, .inl ⟨us, h1, h2.length.symm⟩, kv _ _ A O H k s Nxt.refl ⟨_, rfl, rfl⟩⟩
theorem c_lenT {ds : List D} (k : P (.v (.int ds.length)) O) : WC K (rLen K) [.v (.tup ds)] O P := fun b A H Q vs s r kv => by
  obtain ⟨v, _, rfl, r1, rfl⟩ := r
  obtain ⟨a, us, rfl, h1, h2⟩ := tupD_at (hid_ex : Ex (Fz b A O H) H) r1
  refine ⟨.ref a, ds.length, rfl, .inr ⟨us, h1, h2.length.symm⟩, kv _ _ A O H k s Nxt.refl ⟨_, rfl, rfl⟩⟩
def rListOf (K : PySem.W.Frag) : List V → Hp → VK → Prop := fun xs H Q => ∃ p ys, xs = [.ref p] ∧ (SqL K H p ys ∨ SqT K H p ys) ∧ ∀ l, H l = none → Q (.ref l) (upd H l (.lst ys))
theorem cr_list {X : Cx} : CallR X (.type "list") (rListOf X.K) := call_list_of
def rTupOf (K : PySem.W.Frag) : List V → Hp → VK → Prop := fun xs H Q => ∃ p ys, xs = [.ref p] ∧ ((SqL K H p ys ∧ ∀ l, H l = none → Q (.ref l) (upd H l (.tup ys))) ∨ (SqT K H p ys ∧ Q (.ref p) H))
theorem cr_tup {X : Cx} : CallR X (.type "tuple") (rTupOf X.K) := call_tuple_of
theorem c_listL {x : T} {ds : List D} (hx : LstD x O ds) (k : P (.v (.lst ds)) O) : WC K (rListOf K) [x] O P := fun b A H Q vs s r kv => by
  obtain ⟨v, _, rfl, r1, rfl⟩ := r
  obtain ⟨a, us, rfl, h1, h2⟩ := lstD_at hx s r1
  refine ⟨a, us, rfl, .inl h1, fun p hp => ?_⟩
  obtain ⟨s2, n2, q⟩ := s.lay hp (.lst us)
  exact kv _ _ A O _ k s2 n2 ⟨_, rfl, p, us, rfl, q, h2.ex n2.ext⟩
theorem c_listT {ds : List D} (k : P (.v (.lst ds)) O) : WC K (rListOf K) [.v (.tup ds)] O P := fun b A H Q vs s r kv => by
  obtain ⟨v, _, rfl, r1, rfl⟩ := r
  obtain ⟨a, us, rfl, h1, h2⟩ := tupD_at (hid_ex : Ex (Fz b A O H) H) r1
  refine ⟨a, us, rfl, .inr h1, fun p hp => ?_⟩
  obtain ⟨s2, n2, q⟩ := s.lay hp (.lst us)
  exact kv _ _ A O _ k s2 n2 ⟨_, rfl, p, us, rfl, q, h2.ex n2.ext⟩
theorem c_tupL {x : T} {ds : List D} (hx : LstD x O ds) (k : P (.v (.tup ds)) O) : WC K (rTupOf K) [x] O P := fun b A H Q vs s r kv => by
  obtain ⟨v, _, rfl, r1, rfl⟩ := r
  obtain ⟨a, us, rfl, h1, h2⟩ := lstD_at hx s r1
  refine ⟨a, us, rfl, .inl ⟨h1, fun p hp => ?_⟩⟩
  obtain ⟨s2, n2, q⟩ := s.lay hp (.tup us)
  exact kv _ _ A O _ k s2 n2 ⟨_, rfl, p, us, rfl, SqT.of q, h2.ex n2.ext⟩
theorem c_tupT {ds : List D} (k : P (.v (.tup ds)) O) : WC K (rTupOf K) [.v (.tup ds)] O P := fun b A H Q vs s r kv => by
  obtain ⟨v, _, rfl, r1, rfl⟩ := r
  obtain ⟨a, us, rfl, h1, h2⟩ := tupD_at (hid_ex : Ex (Fz b A O H) H) r1
  exact ⟨a, us, rfl, .inr ⟨h1, kv _ _ A O H k s Nxt.refl r1⟩⟩
theorem rep_ints {F : Hp} : ∀ {ns : List Int} {vs : List V}, RepL K F (ns.map D.int) vs → vs = ns.map V.int
  | [], _, h => h
  | n :: ns, _, h => by
    obtain ⟨v, r, rfl, rfl, h2⟩ := h
    rw [rep_ints h2] <;> rfl
theorem rep_bools {F : Hp} : ∀ {ns : List Bool} {vs : List V}, RepL K F (ns.map D.bl) vs → vs = ns.map V.bl
  | [], _, h => h
  | n :: ns, _, h => by
    obtain ⟨v, r, rfl, rfl, h2⟩ := h
    rw [rep_bools h2] <;> rfl
theorem c_sum {x : T} {ns : List Int} (hx : LstD x O (ns.map D.int)) (k : P (.v (.int ns.sum)) O) : WC K (rSum K) [x] O P := fun b A H Q vs s r kv => by
  obtain ⟨v, _, rfl, r1, rfl⟩ := r
  obtain ⟨a, us, rfl, h1, h2⟩ := lstD_at hx s r1
  rw [rep_ints h2] at h1
  exact ⟨a, ns, rfl, h1, kv _ _ A O H k s Nxt.refl ⟨_, rfl, rfl⟩⟩
theorem c_all {x : T} {bs : List Bool} (hx : LstD x O (bs.map D.bl)) (k : P (.v (.bl (bs.all id))) O) : WC K (rAll K) [x] O P := fun b A H Q vs s r kv => by
  obtain ⟨v, _, rfl, r1, rfl⟩ := r
  obtain ⟨a, us, rfl, h1, h2⟩ := lstD_at hx s r1
  rw [rep_bools h2] at h1
  exact ⟨a, bs, rfl, h1, kv _ _ A O H k s Nxt.refl ⟨_, rfl, rfl⟩⟩
theorem c_any {x : T} {bs : List Bool} (hx : LstD x O (bs.map D.bl)) (k : P (.v (.bl (bs.any id))) O) : WC K (rAny K) [x] O P := fun b A H Q vs s r kv => by
  obtain ⟨v, _, rfl, r1, rfl⟩ := r
  obtain ⟨a, us, rfl, h1, h2⟩ := lstD_at hx s r1
  rw [rep_bools h2] at h1
  exact ⟨a, bs, rfl, h1, kv _ _ A O H k s Nxt.refl ⟨_, rfl, rfl⟩⟩
end
end G

set_option Elab.async false
set_option linter.all false
set_option maxRecDepth 100000
set_option maxHeartbeats 4000000
namespace G
open PySem PySem.Spec PyProof.Rows L2

def wipeT (ts : List T) : List Nat → List T
  | [] => ts
  | v :: vs => (wipeT ts vs).set v .no
theorem repS_wipe {K : PySem.W.Frag} {F : Hp} {A : List Addr} {ts : List T} {σ : L2.St} (h : RepS K F A ts σ) : ∀ vs : List Nat, RepS K F A (wipeT ts vs) (wipe σ vs)
  | [] => h
  | v :: vs => by
    have ih := repS_wipe h vs
    refine ⟨by show ((wipeT ts vs).set v .no).length = ((wipe σ vs).set v none).length; rw [List.length_set, List.length_set]; exact ih.1, fun j u e => ?_⟩
    have e : ((wipeT ts vs).set v .no)[j]? = some u := e
    show ∃ o, ((wipe σ vs).set v none)[j]? = some o ∧ _
    rw [List.getElem?_set] at e
    by_cases hij : v = j
    · subst hij
      rw [if_pos rfl] at e
      by_cases hl : v < (wipeT ts vs).length
      · rw [if_pos hl] at e
        have e2 : T.no = u := Option.some.inj e
        subst e2
        refine ⟨none, ?_, trivial⟩
        rw [List.getElem?_set_self (by rw [← ih.1]; exact hl)]
      · rw [if_neg hl] at e
        cases e
    · rw [if_neg hij] at e
      obtain ⟨o, e1, r1⟩ := ih.2 j u e
      refine ⟨o, ?_, r1⟩
      rw [List.getElem?_set_ne hij]
      exact e1
/-- the target touches the block's own slots alone -/
def Tgt (g : TG) (vs : List Nat) : Prop := ∀ v σ H (Q : L2.St → Hp → Prop), g v σ H Q → g v σ H fun σ2 H2 => wipe σ2 vs = wipe σ vs ∧ Q σ2 H2
def Tgts (g : TGs) (vs : List Nat) : Prop := ∀ xs σ H (Q : L2.St → Hp → Prop), g xs σ H Q → g xs σ H fun σ2 H2 => wipe σ2 vs = wipe σ vs ∧ Q σ2 H2
theorem wipe_get {σ : L2.St} : ∀ (vs : List Nat) (i : Nat), (wipe σ vs)[i]? = if i ∈ vs then (σ[i]?).map (fun _ => none) else σ[i]?
  | [], i => by simp [wipe]
  | v :: vs, i => by
    show ((wipe σ vs).set v none)[i]? = _
    rw [List.getElem?_set, wipe_get vs i]
    by_cases h : v = i
    · subst h
      rw [if_pos rfl, if_pos List.mem_cons_self]
      by_cases hl : v < (wipe σ vs).length
      · rw [if_pos hl]
        rw [wipe_length] at hl
        rw [List.getElem?_eq_getElem hl] <;> rfl
      · rw [if_neg hl]
        rw [wipe_length] at hl
        rw [List.getElem?_eq_none (by omega)] <;> rfl
    · rw [if_neg h]
      by_cases hm : i ∈ vs
      · rw [if_pos hm, if_pos (List.mem_cons_of_mem _ hm)]
      · rw [if_neg hm, if_neg (fun z => by rcases List.mem_cons.mp z with z | z; exact h z.symm; exact hm z)]
theorem wipe_set {σ : L2.St} {j : Nat} {o : Option V} {vs : List Nat} (h : j ∈ vs) : wipe (σ.set j o) vs = wipe σ vs := by
  refine List.ext_getElem? fun i => ?_
  rw [wipe_get, wipe_get, List.getElem?_set]
  by_cases hi : i ∈ vs
  · rw [if_pos hi, if_pos hi]
    by_cases hj : j = i
    · subst hj
      rw [if_pos rfl]
      by_cases hl : j < σ.length
      · rw [if_pos hl, List.getElem?_eq_getElem hl] <;> rfl
      · rw [if_neg hl, List.getElem?_eq_none (by omega)]
    · rw [if_neg hj]
  · have hne : ¬ j = i := fun z => hi (z ▸ h)
    rw [if_neg hi, if_neg hi, if_neg hne]
theorem tgt_name {j : Nat} {vs : List Nat} (h : j ∈ vs) : Tgt (gName j) vs := fun v σ H Q q => ⟨wipe_set h, q⟩
theorem tgt_nil {vs : List Nat} : Tgts gNil vs := fun xs σ H Q q => ⟨q.1, rfl, q.2⟩
theorem tgt_cons1 {j : Nat} {gs : TGs} {vs : List Nat} (h : j ∈ vs) (hs : Tgts gs vs) : Tgts (gCons (gName j) gs) vs := fun xs σ H Q q => by
  obtain ⟨v, r, rfl, q⟩ := q
  refine ⟨v, r, rfl, ?_⟩
  have q2 := hs r (σ.set j (some v)) H Q q
  rw [wipe_set h] at q2
  exact q2
theorem tgt_tup {K : PySem.W.Frag} {n : Nat} {gs : TGs} {vs : List Nat} (h : Tgts gs vs) : Tgt (gTup K n gs) vs := fun v σ H Q q => by
  obtain ⟨a, xs, e, h1, h2, q⟩ := q
  exact ⟨a, xs, e, h1, h2, h xs σ H Q q⟩

section
variable {K : PySem.W.Frag} {W : WX} {O : List OD} {ts : List T} {P : PT'} {X : XX} {te : TE} {tt : TT}
/-- no exception may leave -/
abbrev X0 : XX := fun _ _ _ => False
theorem w_yes {PB' : PB} (k : PB' true O) : WT K W tYes O ts PB' X := fun b A σ H Q s rs kb _ => kb true A O H k s Nxt.refl
theorem w_lc {wi : TI} {g : TG} {vs : List Nat} (hg : Tgt g vs) (h : WI K W wi O ts (fun f O1 => ∃ (n : Nat) (I : Nat → List D → List OD → Prop), (∀ i, i < n → f i ≠ none) ∧ f n = none ∧ I 0 [] O1 ∧ (∀ i acc O', I i acc O' → O'.length = O1.length) ∧
      (∀ i t acc O', i < n → f i = some t → I i acc O' → WG K W g t (O' ++ [.lst acc]) (wipeT ts vs) (fun ts2 O2 => WT K W tt O2 ts2 (fun c O3 =>
        (c = true → WE K W te O3 ts2 (fun y O4 => ∃ d O5, y = .v d ∧ O4 = O5 ++ [.lst acc] ∧ acc.length < sizeLine ∧ I (i + 1) (acc ++ [d]) O5) X0) ∧ (c = false → ∃ O5, O3 = O5 ++ [.lst acc] ∧ I (i + 1) acc O5)) X0)) ∧
      (∀ acc O', I n acc O' → P (.v (.lst acc)) O')) X) : WE K W (tLc wi g tt te vs) O ts P X := fun b A σ H Q s rs kv kx =>
  h b A σ H _ s rs (fun J f A1 O1 H1 p s1 n1 fc => by
    obtain ⟨n, I, hf, hn, h0, hlen, hs, hd⟩ := p
    intro Dl hD
    obtain ⟨s2, n2⟩ := s1.own (u := .lst []) (o := .lst []) hD ⟨[], upd_same, rfl⟩
    have at_ : ∀ {O' : List OD} {acc : List D}, O'.length = O1.length → (O' ++ [OD.lst acc])[A1.length]? = some (.lst acc) := fun {O' acc} e => by
      rw [s1.len, List.getElem?_append_right (by omega), e, Nat.sub_self]
      exact rfl
    have atA : (A1 ++ [Dl])[A1.length]? = some Dl := by
      rw [List.getElem?_append_right (Nat.le_refl _), Nat.sub_self]
      exact rfl
    refine ⟨fun i m H' => m = n - i ∧ i ≤ n ∧ ∃ acc O', I i acc O' ∧ StO K b (A1 ++ [Dl]) (O' ++ [.lst acc]) H' ∧ Nxt b A1 O1 H1 (A1 ++ [Dl]) (O' ++ [.lst acc]) H', ⟨n, by omega, Nat.zero_le _, [], O1, h0, s2, n2⟩, ?_⟩
    rintro i m H' ⟨rfl, hi, acc, O', hI, s', n'⟩
    have hl := hlen i acc O' hI
    obtain ⟨c1, c2⟩ := fc i _ _ H' s' n'
    by_cases hlt : i < n
    · right
      obtain ⟨t, ht⟩ := Option.ne_none_iff_exists'.mp (hf i hlt)
      obtain ⟨hgo, hy⟩ := c2 t ht
      refine ⟨hgo, fun H2 => ∃ acc2 O2, I (i + 1) acc2 O2 ∧ StO K b (A1 ++ [Dl]) (O2 ++ [.lst acc2]) H2 ∧ Nxt b A1 O1 H1 (A1 ++ [Dl]) (O2 ++ [.lst acc2]) H2, fun H2 q => ⟨n - (i + 1), by omega, rfl, hlt, q⟩, fun x H3 y => ?_⟩
      obtain ⟨s3, n3, r3⟩ := hy x H3 y
      have rsw : RepS K (Fz b (A1 ++ [Dl]) (O' ++ [.lst acc]) H3) (A1 ++ [Dl]) (wipeT ts vs) (wipe σ vs) := repS_wipe (rs.nxt ((n1.trans n').trans n3)) vs
      have key := hs i t acc O' hlt ht hI b (A1 ++ [Dl]) (wipe σ vs) H3 (fun σ2 H2 => tt σ2 H2 fun c H4 => if c = true then te σ2 H4 fun y H5 => ∃ acc, H5 Dl = some (.lst acc) ∧ acc.length < sizeLine ∧ ∃ acc2 O2, I (i + 1) acc2 O2 ∧ StO K b (A1 ++ [Dl]) (O2 ++ [.lst acc2]) (upd H5 Dl (.lst (acc ++ [y]))) ∧ Nxt b A1 O1 H1 (A1 ++ [Dl]) (O2 ++ [.lst acc2]) (upd H5 Dl (.lst (acc ++ [y])))
        else ∃ acc2 O2, I (i + 1) acc2 O2 ∧ StO K b (A1 ++ [Dl]) (O2 ++ [.lst acc2]) H4 ∧ Nxt b A1 O1 H1 (A1 ++ [Dl]) (O2 ++ [.lst acc2]) H4) x s3 rsw r3 fun ts4 σ4 A4 O4 H4 p4 s4 n4 rs4 => ?_
      · have k2 := hg x (wipe σ vs) H3 _ key
        have ww : wipe (wipe σ vs) vs = wipe σ vs := by
          refine List.ext_getElem? fun i => ?_
          rw [wipe_get, wipe_get]
          by_cases hi : i ∈ vs
          · rw [if_pos hi, if_pos hi]
            cases σ[i]? <;> rfl
          · rw [if_neg hi, if_neg hi]
        rw [ww] at k2
        exact k2
      · have n14 := (n'.trans n3).trans n4
        refine p4 b A4 σ4 H4 _ s4 rs4 (fun c A5 O5 H5 p5 s5 n5 => ?_) (fun C fs A' O' H' d z => z.elim)
        have n15 := n14.trans n5
        have prefixA : ∀ {A6 O6 H6}, Nxt b A1 O1 H1 A6 O6 H6 → Nxt b (A1 ++ [Dl]) (O' ++ [.lst acc]) H' A6 O6 H6 → StO K b A6 O6 H6 → O6.length = O1.length + 1 → A6 = A1 ++ [Dl] := fun {A6 O6 H6} n6 m6 s6 l6 => by
          obtain ⟨M, e⟩ := m6.pre
          have l7 := s6.len
          rw [e, List.length_append, List.length_append, s1.len] at l7
          have : M.length = 0 := by
            simp only [List.length_singleton] at l7
            omega
          rw [e, List.length_eq_zero_iff.mp this, List.append_nil]
        cases c with
        | true =>
          refine iteT (p5.1 rfl b A5 σ4 H5 _ s5 (rs4.nxt n5) (fun y v A6 O6 H6 p6 s6 n6 r6 => ?_) (fun C fs A' O' H' d z => z.elim))
          obtain ⟨d, O7, rfl, rfl, hz, hI2⟩ := p6
          have hl7 := hlen _ _ _ hI2
          have eA := prefixA (n'.trans (((n3.trans n4).trans n5).trans n6)) (((n3.trans n4).trans n5).trans n6) s6 (by rw [List.length_append, hl7] <;> rfl)
          subst eA
          obtain ⟨us, h1, h2⟩ := s6.cell A1.length Dl _ atA (at_ hl7)
          obtain ⟨w, e2, rd⟩ := r6
          cases e2
          refine ⟨us, h1, by rw [h2.length]; exact hz, acc ++ [d], O7, hI2, ?_⟩
          obtain ⟨s8, n8⟩ := s6.put (w := .lst (us ++ [v])) (o := .lst (acc ++ [d])) atA (at_ hl7) (fun z => by cases z) (fun z => by cases z) ⟨_, upd_same, h2.append ⟨v, [], rfl, rd, rfl⟩⟩
          have es : (O7 ++ [OD.lst acc]).set A1.length (.lst (acc ++ [d])) = O7 ++ [.lst (acc ++ [d])] := by
            rw [s1.len, ← hl7, List.set_append_right _ _ (Nat.le_refl _), Nat.sub_self]
            exact rfl
          rw [es] at s8 n8
          exact ⟨s8, n'.trans ((((n3.trans n4).trans n5).trans n6).trans n8)⟩
        | false =>
          refine iteF ?_
          obtain ⟨O7, rfl, hI2⟩ := p5.2 rfl
          have hl7 := hlen _ _ _ hI2
          have eA := prefixA (n'.trans ((n3.trans n4).trans n5)) ((n3.trans n4).trans n5) s5 (by rw [List.length_append, hl7] <;> rfl)
          subst eA
          exact ⟨acc, O7, hI2, s5, n'.trans ((n3.trans n4).trans n5)⟩
    · left
      have e : i = n := by omega
      subst e
      refine ⟨c1 hn hf, ?_⟩
      obtain ⟨us, h1, h2⟩ := s'.cell A1.length Dl _ atA (at_ hl)
      obtain ⟨s5, x5⟩ := s'.drop (by rw [hl]; exact s1.len) s1.pre
      have nA : Dl ∉ A1 := fun hm => (List.nodup_append.mp s'.nd).2.2 Dl hm Dl (List.mem_singleton.mpr rfl) rfl
      have nz : Dl ∉ live A1 O' ++ b.Z := fun z => by
        rcases List.mem_append.mp z with z | z
        · obtain ⟨j, o, z1, _, _⟩ := live_mem z
          exact nA (List.mem_of_getElem? z1)
        · have zz := s1.z_at (a := Dl) z
          obtain ⟨o, zz, _⟩ := zz.2
          rw [hD] at zz
          cases zz
      exact kv _ _ A1 O' H' (hd acc O' hI) s5 (n1.trans ⟨⟨[], (List.append_nil A1).symm⟩, n'.ext.trans x5⟩) ⟨_, rfl, Dl, us, rfl, (hid_some.mpr ⟨nz, h1⟩), h2.ex x5⟩) kx
end

mutual
def toP : D → PyData
  | .non => .none
  | .bl b => .bool b
  | .int i => .int i
  | .str x => .str x
  | .lst ds => .list (toPs ds)
  | .tup ds => .tuple (toPs ds)
  | _ => .none
def toPs : List D → List PyData
  | [] => []
  | d :: ds => toP d :: toPs ds
end
mutual
/-- data that can be compared, of depth at most n -/
def pl : Nat → D → Bool
  | _, .non => true
  | _, .bl _ => true
  | _, .int _ => true
  | _, .str x => PyData.canLay0 (.str x)
  | n + 1, .lst ds => pls n ds
  | n + 1, .tup ds => pls n ds
  | _, _ => false
def pls : Nat → List D → Bool
  | _, [] => true
  | n, d :: ds => pl n d && pls n ds
end
mutual
theorem rep_dp {K : PySem.W.Frag} {H : Hp} : ∀ (n : Nat) (d : D) {v : V}, pl n d = true → Rep K H d v → Dp K H v (toP d)
  | _, .non, _, _, r => by rw [show _ = V.non from r]; exact .non
  | _, .bl b, _, _, r => by rw [show _ = V.bl b from r]; exact .bl b
  | _, .int b, _, _, r => by rw [show _ = V.int b from r]; exact .int b
  | _, .str b, _, _, r => by rw [show _ = V.str b from r]; exact .str b
  | n + 1, .lst ds, _, h, r => by
    obtain ⟨a, vs, rfl, h1, h2⟩ := r
    exact .lst (SqL.of h1) (reps_dp n ds h h2)
  | n + 1, .tup ds, _, h, r => by
    obtain ⟨a, vs, rfl, h1, h2⟩ := r
    exact .tup h1 (reps_dp n ds h h2)
  | 0, .lst ds, _, h, _ => by cases h
  | 0, .tup ds, _, h, _ => by cases h
  | 0, .ins _ _, _, h, _ => by cases h
  | _ + 1, .ins _ _, _, h, _ => by cases h
  | 0, .ref _, _, h, _ => by cases h
  | _ + 1, .ref _, _, h, _ => by cases h
  | 0, .ty _, _, h, _ => by cases h
  | _ + 1, .ty _, _, h, _ => by cases h
  | 0, .dic _, _, h, _ => by cases h
  | _ + 1, .dic _, _, h, _ => by cases h
  | 0, .scr _, _, h, _ => by cases h
  | _ + 1, .scr _, _, h, _ => by cases h
  | 0, .exc _ _, _, h, _ => by cases h
  | _ + 1, .exc _ _, _, h, _ => by cases h
theorem reps_dp {K : PySem.W.Frag} {H : Hp} : ∀ (n : Nat) (ds : List D) {vs : List V}, pls n ds = true → RepL K H ds vs → DpAll K H vs (toPs ds)
  | _, [], _, _, r => by rw [show _ = [] from r]; exact .nil
  | n, d :: ds, _, h, r => by
    obtain ⟨v, s, rfl, r1, r2⟩ := r
    have h' : (pl n d && pls n ds) = true := h
    obtain ⟨h1, h2⟩ := Bool.and_eq_true_iff.mp h'
    exact .cons (rep_dp n d h1 r1) (reps_dp n ds h2 r2)
end
mutual
theorem pl_shape : ∀ (n : Nat) (d : D), pl n d = true → (toP d).canLay0 = true ∧ (toP d).depth ≤ n
  | _, .non, _ => ⟨by simp only [toP, PyData.canLay0], by simp only [toP, PyData.depth]; omega⟩
  | _, .bl b, _ => ⟨by simp only [toP, PyData.canLay0], by simp only [toP, PyData.depth]; omega⟩
  | _, .int b, _ => ⟨by simp only [toP, PyData.canLay0], by simp only [toP, PyData.depth]; omega⟩
  | _, .str b, h => ⟨h, by simp only [toP, PyData.depth]; omega⟩
  | n + 1, .lst ds, h => by
    obtain ⟨h1, h2⟩ := pls_shape n ds h
    exact ⟨by simp only [toP, PyData.canLay0]; exact h1, by simp only [toP, PyData.depth]; omega⟩
  | n + 1, .tup ds, h => by
    obtain ⟨h1, h2⟩ := pls_shape n ds h
    exact ⟨by simp only [toP, PyData.canLay0]; exact h1, by simp only [toP, PyData.depth]; omega⟩
  | 0, .lst ds, h => by cases h
  | 0, .tup ds, h => by cases h
  | 0, .ins _ _, h => by cases h
  | _ + 1, .ins _ _, h => by cases h
  | 0, .ref _, h => by cases h
  | _ + 1, .ref _, h => by cases h
  | 0, .ty _, h => by cases h
  | _ + 1, .ty _, h => by cases h
  | 0, .scr _, h => by cases h
  | _ + 1, .scr _, h => by cases h
  | 0, .exc _ _, h => by cases h
  | _ + 1, .exc _ _, h => by cases h
  | 0, .dic _, h => by cases h
  | _ + 1, .dic _, h => by cases h
theorem pls_shape : ∀ (n : Nat) (ds : List D), pls n ds = true → PyData.canLayAll0 (toPs ds) = true ∧ PyData.depthAll (toPs ds) ≤ n
  | n, [], _ => ⟨by simp only [toPs, PyData.canLayAll0], by simp only [toPs, PyData.depthAll]; omega⟩
  | n, d :: ds, h => by
    have h' : (pl n d && pls n ds) = true := h
    obtain ⟨h1, h2⟩ := Bool.and_eq_true_iff.mp h'
    obtain ⟨a1, a2⟩ := pl_shape n d h1
    obtain ⟨b1, b2⟩ := pls_shape n ds h2
    exact ⟨by simp only [toPs, PyData.canLayAll0, a1, b1, Bool.and_self], by simp only [toPs, PyData.depthAll]; omega⟩
end
theorem pl_shaped {d : D} (h : pl 60 d = true) : SeqAt.shaped (toP d) = true := by
  obtain ⟨h1, h2⟩ := pl_shape 60 d h
  unfold SeqAt.shaped
  rw [h1, decide_eq_true (by omega)] <;> rfl
def eqD (d e : D) : Bool := PyData.eqv (toP d) (toP e)
/-- a value, or an owned list, as data -/
def ValD (x : T) (O : List OD) (d : D) : Prop := x = .v d ∨ ∃ i ds, x = .own i ∧ O[i]? = some (.lst ds) ∧ d = .lst ds
theorem valD_v {O : List OD} {d : D} : ValD (.v d) O d := .inl rfl
theorem valD_dp {K : PySem.W.Frag} {b : Bs} {A : List Addr} {O : List OD} {H : Hp} {x : T} {d : D} {v : V} (hp : pl 60 d = true) (h : ValD x O d) (s : StO K b A O H) (r : RepT K (Fz b A O H) A x (some v)) : Dp K H v (toP d) := by
  rcases h with rfl | ⟨i, ds, rfl, ho, rfl⟩
  · obtain ⟨_, e, r⟩ := r
    cases e
    exact rep_dp 60 d hp (r.ex hid_ex)
  · obtain ⟨a, ha, e⟩ := r
    cases e
    obtain ⟨vs, h1, h2⟩ := s.cell i a _ ha ho
    have h2' : RepL K H ds vs := h2.ex hid_ex
    exact rep_dp 60 (.lst ds) hp ⟨a, vs, rfl, h1, h2'⟩
section
variable {K : PySem.W.Frag} {W : WX} {O : List OD} {ts : List T} {P : PT'} {X : XX} {te : TE} {tr : TA}
theorem w_eqD {x y : T} {d e : D} (hx : ValD x O d) (hy : ValD y O e) (h1 : pl 60 d = true) (h2 : pl 60 e = true) (k : P (.v (.bl (eqD d e))) O) : WR K (rEqD K) x y O P := fun b A H Q v u s r1 r2 kv =>
  ⟨toP d, toP e, valD_dp h1 hx s r1, valD_dp h2 hy s r2, pl_shaped h1, pl_shaped h2, kv _ _ A O H k s Nxt.refl ⟨_, rfl, rfl⟩⟩
theorem w_neD {x y : T} {d e : D} (hx : ValD x O d) (hy : ValD y O e) (h1 : pl 60 d = true) (h2 : pl 60 e = true) (k : P (.v (.bl (!eqD d e))) O) : WR K (rNeD K) x y O P := fun b A H Q v u s r1 r2 kv =>
  ⟨toP d, toP e, valD_dp h1 hx s r1, valD_dp h2 hy s r2, pl_shaped h1, pl_shaped h2, kv _ _ A O H k s Nxt.refl ⟨_, rfl, rfl⟩⟩
def isNon : D → Bool
  | .non => true
  | _ => false
theorem isNon_v {F : Hp} {d : D} {v : V} (r : Rep K F d v) : decide (v = .non) = isNon d := by
  cases d with
  | non => rw [show v = .non from r] <;> rfl
  | bl b => rw [show v = .bl b from r] <;> rfl
  | int b => rw [show v = .int b from r] <;> rfl
  | str b => rw [show v = .str b from r] <;> rfl
  | ty b => rw [show v = .ty b from r] <;> rfl
  | ref b => rw [show v = .ref b from r] <;> rfl
  | lst ds =>
    obtain ⟨a, vs, rfl, _⟩ := r
    rfl
  | tup ds =>
    obtain ⟨a, vs, rfl, _⟩ := r
    rfl
  | ins C fs =>
    obtain ⟨a, dx, vs, rfl, _⟩ := r
    rfl
  | dic kvs =>
    obtain ⟨a, vs, rfl, _⟩ := r
    rfl
  | scr kvs =>
    obtain ⟨a, rfl, _⟩ := r
    rfl
  | exc C fs =>
    obtain ⟨a, d, vs, rfl, _⟩ := r
    rfl
  | ext R =>
    obtain ⟨a, h0, rfl, _⟩ := r
    rfl
theorem w_isN {d : D} (k : P (.v (.bl (isNon d))) O) : WR K rIsN (.v d) (.v .non) O P := fun b A H Q v u s r1 r2 kv => by
  obtain ⟨_, e1, q1⟩ := r1
  obtain ⟨_, e2, rfl⟩ := r2
  cases e1
  cases e2
  refine ⟨rfl, ?_⟩
  rw [isNon_v q1]
  exact kv _ _ A O H k s Nxt.refl ⟨_, rfl, rfl⟩
theorem w_notN {d : D} (k : P (.v (.bl (!isNon d))) O) : WR K rNotN (.v d) (.v .non) O P := fun b A H Q v u s r1 r2 kv => by
  obtain ⟨_, e1, q1⟩ := r1
  obtain ⟨_, e2, rfl⟩ := r2
  cases e1
  cases e2
  refine ⟨rfl, ?_⟩
  rw [isNon_v q1]
  exact kv _ _ A O H k s Nxt.refl ⟨_, rfl, rfl⟩
theorem cutV_whole {xs : List V} {lo hi : Option Int} (h : HT.sIx xs.length 0 lo = 0 ∧ HT.sIx xs.length xs.length hi = xs.length) : cutV xs lo hi = xs := by
  unfold cutV
  rw [h.1, h.2, Nat.sub_zero, List.drop_zero, List.take_length]
theorem w_slT {tl th : TO} (h : WE K W te O ts (fun x O1 => WO K W tl O1 ts (fun lo O2 => WO K W th O2 ts (fun hi O3 => ∃ ds, x = .v (.tup ds) ∧ P (.v (.tup (cutD ds lo hi))) O3) X) X) X) : WE K W (tSl (rSlA K) te tl th) O ts P X := fun b A σ H Q s rs kv kx =>
  h b A σ H _ s rs (fun x v A1 O1 H1 p1 s1 n1 r1 => p1 b A1 σ H1 _ s1 (rs.nxt n1) (fun lo A2 O2 H2 p2 s2 n2 => p2 b A2 σ H2 _ s2 (rs.nxt (n1.trans n2)) (fun hi A3 O3 H3 p3 s3 n3 => by
    obtain ⟨ds, rfl, p⟩ := p3
    have r3 := r1.nxt (n2.trans n3)
    obtain ⟨_, e3, a, vs, rfl, h1, h2⟩ := r3
    cases e3
    refine ⟨a, vs, rfl, (hid_ex : Ex (Fz b A3 O3 H3) H3).t h1, fun hw => ?_, fun _ p' hp => ?_⟩
    · have c := cut_rep h2 lo hi
      rw [cutV_whole hw] at c
      exact kv _ _ A3 O3 _ p s3 ((n1.trans n2).trans n3) ⟨_, rfl, a, vs, rfl, h1, c⟩
    · obtain ⟨s4, n4, q⟩ := s3.lay hp (.tup (cutV vs lo hi))
      exact kv _ _ A3 O3 _ p s4 (((n1.trans n2).trans n3).trans n4) ⟨_, rfl, p', _, rfl, SqT.of q, (cut_rep h2 lo hi).ex n4.ext⟩) (kx.nxt (n1.trans n2))) (kx.nxt n1)) kx
theorem w_catT {ds es : List D} (hz : ds.length + es.length ≤ sizeLine) (k : P (.v (.tup (ds ++ es))) O) : WR K (rCatA K) (.v (.tup ds)) (.v (.tup es)) O P := fun b A H Q v u s r1 r2 kv => by
  obtain ⟨_, e1, a, vs, rfl, h1, h2⟩ := r1
  obtain ⟨_, e2, c, us, rfl, h3, h4⟩ := r2
  cases e1
  cases e2
  have x : Ex (Fz b A O H) H := hid_ex
  refine ⟨a, c, vs, us, rfl, rfl, x.t h1, x.t h3, by rw [h2.length, h4.length]; exact hz, fun e => ?_, fun _ e => ?_, fun _ _ p hp => ?_⟩
  · subst e
    have e0 : ds = [] := List.length_eq_zero_iff.mp h2.length.symm
    subst e0
    exact kv _ _ A O H k s Nxt.refl ⟨_, rfl, c, us, rfl, h3, h4⟩
  · subst e
    have e0 : es = [] := List.length_eq_zero_iff.mp h4.length.symm
    subst e0
    rw [List.append_nil] at k
    exact kv _ _ A O H k s Nxt.refl ⟨_, rfl, a, vs, rfl, h1, h2⟩
  · obtain ⟨s4, n4, q⟩ := s.lay hp (.tup (vs ++ us))
    exact kv _ _ A O _ k s4 n4 ⟨_, rfl, p, _, rfl, SqT.of q, (h2.append h4).ex n4.ext⟩
theorem repTs_app {F : Hp} {A : List Addr} {ys : List T} {us : List V} (q : RepTs K F A ys us) : ∀ {ds : List D} {vs : List V}, RepL K F ds vs → RepTs K F A (ds.map T.v ++ ys) (vs ++ us)
  | [], _, h => by
    rw [show _ = [] from h]
    exact q
  | d :: ds, _, h => by
    obtain ⟨v, r, rfl, h1, h2⟩ := h
    exact ⟨v, r ++ us, rfl, ⟨v, rfl, h1⟩, repTs_app q h2⟩
/-- *xs in a display or a call -/
theorem w_star {PL' : PL} (h : WE K W te O ts (fun x O1 => ∃ ds, (ValD x O1 (.lst ds) ∨ x = .v (.tup ds)) ∧ WA K W tr O1 ts (fun ys O2 => PL' (ds.map T.v ++ ys) O2) X) X) : WA K W (StX.tStar K te tr) O ts PL' X := fun b A σ H Q s rs kl kx =>
  h b A σ H _ s rs (fun x v A1 O1 H1 p1 s1 n1 r1 => by
    obtain ⟨ds, hx, p⟩ := p1
    have key : ∃ a vs, v = .ref a ∧ (SqT K H1 a vs ∨ SqL K H1 a vs) ∧ RepL K (Fz b A1 O1 H1) ds vs := by
      rcases hx with hx | rfl
      · have hx' : LstD x O1 ds := by
          rcases hx with rfl | ⟨i, es, rfl, ho, e⟩
          · exact .inl rfl
          · cases e
            exact .inr ⟨i, rfl, ho⟩
        obtain ⟨a, vs, e, h1, h2⟩ := lstD_at hx' s1 r1
        exact ⟨a, vs, e, .inr h1, h2⟩
      · obtain ⟨a, vs, e, h1, h2⟩ := tupD_at (hid_ex : Ex (Fz b A1 O1 H1) H1) r1
        exact ⟨a, vs, e, .inl h1, h2⟩
    obtain ⟨a, vs, rfl, h1, h2⟩ := key
    refine ⟨a, vs, rfl, h1, p b A1 σ H1 _ s1 (rs.nxt n1) (fun ys us A2 O2 H2 p2 s2 n2 r2 => kl _ _ A2 O2 H2 p2 s2 (n1.trans n2) ?_) (kx.nxt n1)⟩
    exact repTs_app r2 (h2.ex n2.ext)) kx
end
end G

set_option Elab.async false
set_option linter.all false
set_option maxRecDepth 100000
set_option maxHeartbeats 4000000
namespace G
open PySem PySem.Spec PyProof.Rows L2

section
variable {K : PySem.W.Frag} {W : WX} {O : List OD} {ts : List T} {X : XX} {ta : TA}
def itE (ds : List D) : Nat → Option T := fun i => (ds[i]?).map fun d => T.v (.tup [.int (i : Nat), d])
theorem itE_none {ds : List D} {i : Nat} (h : itE ds i = none) : ds.length ≤ i := by
  unfold itE at h
  cases q : ds[i]? with
  | none => exact List.getElem?_eq_none_iff.mp q
  | some d =>
    rw [q] at h
    cases h
theorem itE_some {ds : List D} {i : Nat} {t : T} (h : itE ds i = some t) : ∃ d, ds[i]? = some d ∧ t = .v (.tup [.int (i : Nat), d]) := by
  unfold itE at h
  cases q : ds[i]? with
  | none =>
    rw [q] at h
    cases h
  | some d =>
    rw [q] at h
    exact ⟨d, rfl, (Option.some.inj h).symm⟩
theorem pair_laid {b : Bs} {A : List Addr} {H : Hp} {p : Addr} {x y : V} {d e : D} (s : StO K b A O H) (hp : H p = none) (r1 : Rep K (Fz b A O H) d x) (r2 : Rep K (Fz b A O H) e y) :
    StO K b A O (upd H p (.tup [x, y])) ∧ Nxt b A O H A O (upd H p (.tup [x, y])) ∧ RepT K (Fz b A O (upd H p (.tup [x, y]))) A (.v (.tup [d, e])) (some (.ref p)) := by
  obtain ⟨s2, n2, q⟩ := s.lay hp (.tup [x, y])
  exact ⟨s2, n2, _, rfl, p, _, rfl, SqT.of q, x, [y], rfl, r1.ex n2.ext, y, [], rfl, r2.ex n2.ext, rfl⟩
theorem i_enumL {S : (Nat → Option T) → List OD → Prop} (h : WA K W ta O ts (fun xs O' => ∃ ds, xs = [.v (.lst ds)] ∧ S (itE ds) O') X) : WI K W (iEnum K ta) O ts S X := fun b A σ H R s rs k kx =>
  h b A σ H _ s rs (fun xs vs A' O' H' p s' n' r' => by
    obtain ⟨ds, rfl, q⟩ := p
    obtain ⟨v, _, rfl, ⟨_, e, a, us, rfl, h1, h2⟩, rfl⟩ := r'
    replace h1 := SqL.of (K := K) h1
    cases e
    refine ⟨a, us, rfl, hid_ex.l h1, k _ _ A' O' H' q s' n' fun i A2 O2 H2 s2 n2 => ⟨fun hn _ => ⟨us, hid_ex.l (n2.ext.l h1), by rw [h2.length]; exact itE_none hn⟩, fun t ht => ?_⟩⟩
    obtain ⟨d, e1, rfl⟩ := itE_some ht
    obtain ⟨v, e2, r⟩ := h2.get e1
    have h2' : SqL K H2 a us := hid_ex.l (n2.ext.l h1)
    refine ⟨⟨us, v, h2', e2⟩, fun x H3 y => ?_⟩
    obtain ⟨p, w, rfl, hp, rfl, y⟩ := y
    have e4 : w = v := Option.some.inj ((y us h2').symm.trans e2)
    subst e4
    exact pair_laid s2 hp (d := .int (i : Nat)) (by exact rfl) (r.ex n2.ext)) kx
/-- zip of two lists, of two tuples -/
def itZ (ds es : List D) : Nat → Option T := fun i => match ds[i]?, es[i]? with
  | some d, some e => some (.v (.tup [d, e]))
  | _, _ => none
theorem itZ_none {ds es : List D} {i : Nat} (h : itZ ds es i = none) : ds.length ≤ i ∨ es.length ≤ i := by
  unfold itZ at h
  cases q : ds[i]? with
  | none => exact .inl (List.getElem?_eq_none_iff.mp q)
  | some d =>
    cases q2 : es[i]? with
    | none => exact .inr (List.getElem?_eq_none_iff.mp q2)
    | some e =>
      rw [q, q2] at h
      cases h
theorem itZ_some {ds es : List D} {i : Nat} {t : T} (h : itZ ds es i = some t) : ∃ d e, ds[i]? = some d ∧ es[i]? = some e ∧ t = .v (.tup [d, e]) := by
  unfold itZ at h
  cases q : ds[i]? with
  | none =>
    rw [q] at h
    cases h
  | some d =>
    cases q2 : es[i]? with
    | none =>
      rw [q, q2] at h
      cases h
    | some e =>
      rw [q, q2] at h
      exact ⟨d, e, rfl, rfl, (Option.some.inj h).symm⟩
theorem i_zipL {S : (Nat → Option T) → List OD → Prop} (h : WA K W ta O ts (fun xs O' => ∃ ds es, xs = [.v (.lst ds), .v (.lst es)] ∧ S (itZ ds es) O') X) : WI K W (RZ.iZipA K ta) O ts S X := fun b A σ H R s rs k kx =>
  h b A σ H _ s rs (fun xs vs A' O' H' p s' n' r' => by
    obtain ⟨ds, es, rfl, q⟩ := p
    obtain ⟨v, _, rfl, ⟨_, e, a, us, rfl, h1, h2⟩, v', _, rfl, ⟨_, e', c, ws, rfl, h3, h4⟩, rfl⟩ := r'
    replace h1 := SqL.of (K := K) h1
    replace h3 := SqL.of (K := K) h3
    cases e
    cases e'
    refine ⟨a, c, us, ws, rfl, .inl ⟨hid_ex.l h1, hid_ex.l h3, k _ _ A' O' H' q s' n' fun i A2 O2 H2 s2 n2 => ⟨fun hn _ => ⟨us, ws, hid_ex.l (n2.ext.l h1), hid_ex.l (n2.ext.l h3), by rw [h2.length, h4.length]; exact itZ_none hn⟩, fun t ht => ?_⟩⟩⟩
    obtain ⟨d, e, e1, e2, rfl⟩ := itZ_some ht
    obtain ⟨v, e3, r3⟩ := h2.get e1
    obtain ⟨v', e4, r4⟩ := h4.get e2
    have k1 : SqL K H2 a us := hid_ex.l (n2.ext.l h1)
    have k2 : SqL K H2 c ws := hid_ex.l (n2.ext.l h3)
    refine ⟨⟨us, ws, v, v', k1, k2, e3, e4⟩, fun x H3 y => ?_⟩
    obtain ⟨p, w, w', rfl, hp, rfl, y1, y2⟩ := y
    have e5 : w = v := Option.some.inj ((y1 us k1).symm.trans e3)
    have e6 : w' = v' := Option.some.inj ((y2 ws k2).symm.trans e4)
    subst e5 e6
    exact pair_laid s2 hp (r3.ex n2.ext) (r4.ex n2.ext)) kx
theorem s_par3 {E : DE} {i j l : Nat} (h : WA K W ta O ts (fun xs O' => ∃ x y z, xs = [x, y, z] ∧ E.nx (((ts.set i x).set j y).set l z) O') (fun C fs O' => E.xe C fs ts O')) : WS K W (tPar3 i j l ta) O ts E := fun b A σ H D s rs ks =>
  h b A σ H _ s rs (fun xs vs A' O' H' p s' n' r' => by
    obtain ⟨x, y, z, rfl, q⟩ := p
    obtain ⟨v, _, rfl, r1, w', _, rfl, r2, w2, _, rfl, r3, rfl⟩ := r'
    exact ⟨v, w', w2, rfl, ks.nx _ _ A' O' H' q s' n' ((((rs.nxt n').set r1 i).set r2 j).set r3 l)⟩) (ks.kx rs)
/-- what of the text an own class must have that isinstance may look at its instances -/
structure InsTy (K : PySem.W.Frag) (C : Addr) : Prop where
  cl : Cls K C
  ha : PySem.W.findIn K (.ref C) "__class__" = some (some (.builtin "object.__class__"))
  hn : PySem.W.specialIn K (.builtin "object.__class__") "__get__" = some (some (.builtin "getset_descriptor.__get__"))
  ht : PySem.W.takesIn K (.builtin "object.__class__") = some true
  hm : PySem.W.mroIn K C (.type "object") = some true
inductive TyD (K : PySem.W.Frag) : D → Value → Prop where
  | non : TyD K .non (.type "NoneType")
  | bl (b : Bool) : TyD K (.bl b) (.type "bool")
  | int (i : Int) : TyD K (.int i) (.type "int")
  | str (x : Str) : TyD K (.str x) (.type "str")
  | lst (ds : List D) : TyD K (.lst ds) (.type "list")
  | tup (ds : List D) : TyD K (.tup ds) (.type "tuple")
  | dic (kvs : List (Key × D)) : TyD K (.dic kvs) (.type "dict")
  | ins (C : Addr) (fs : List (Str × D)) (h : InsTy K C) : TyD K (.ins C fs) (.ref C)
theorem sqL_ty {H : Hp} {a : Addr} {vs : List V} (h : SqL K H a vs) : TyX K H (.ref a) (.type "list") := by
  rcases h with (h | ⟨o, h⟩) | h
  · exact .base (.lst h)
  · exact .base (.frz h)
  · obtain ⟨o, its, n, h1, h2, _⟩ := h
    exact .kList h1 h2
theorem sqT_ty {H : Hp} {a : Addr} {vs : List V} (h : SqT K H a vs) : TyX K H (.ref a) (.type "tuple") := by
  rcases h with (h | ⟨o, h⟩) | h
  · exact .base (.tup h)
  · exact .fTuple h
  · obtain ⟨o, its, n, h1, h2, _⟩ := h
    exact .kTuple h1 h2
theorem TyD.tyX {H : Hp} {d : D} {t : Value} {v : V} (h : TyD K d t) (r : Rep K H d v) : TyX K H v t := by
  cases h with
  | non => rw [show v = .non from r]; exact .base .non
  | bl b => rw [show v = .bl b from r]; exact .base (.bl b)
  | int i => rw [show v = .int i from r]; exact .base (.int i)
  | str x => rw [show v = .str x from r]; exact .base (.str x)
  | lst ds =>
    obtain ⟨a, vs, rfl, h1, _⟩ := r
    exact sqL_ty (SqL.of h1)
  | tup ds =>
    obtain ⟨a, vs, rfl, h1, _⟩ := r
    exact sqT_ty h1
  | dic kvs =>
    obtain ⟨a, vs, rfl, h1, _⟩ := r
    exact .base (.dK h1)
  | ins C fs h =>
    obtain ⟨a, dx, vs, rfl, h1, _⟩ := r
    exact .base (.ins h1 h.cl h.ha h.hn h.ht h.hm)
/-- a class as data -/
inductive ClsD : D → Value → Prop where
  | ty (n : String) : ClsD (.ty n) (.type n)
  | own (C : Addr) : ClsD (.ref C) (.ref C)
theorem ClsD.cls {H : Hp} {d : D} {u : Value} {v : V} (h : ClsD d u) (r : Rep K H d v) : ClsV v u := by
  cases h with
  | ty n => rw [show v = .ty n from r]; exact .ty n
  | own C => rw [show v = .ref C from r]; exact .own C
theorem c_isi {P : PT'} {d c : D} {t u : Value} {b : Bool} (ht : TyD K d t) (hc : ClsD c u) (e : PySem.W.kitOne K t u = some b) (k : P (.v (.bl b)) O) : WC K (rIsi K) [.v d, .v c] O P := fun b' A H Q vs s r kv => by
  obtain ⟨v, _, rfl, ⟨_, e1, r1⟩, w, _, rfl, ⟨_, e2, r2⟩, rfl⟩ := r
  cases e1
  cases e2
  exact ⟨v, w, t, u, b, rfl, hc.cls r2, ht.tyX (r1.ex hid_ex), e, kv _ _ A O H k s Nxt.refl ⟨_, rfl, rfl⟩⟩
/-- isinstance(x, (c1, c2)): the tuple as it can be read -/
def rIsiS (K : PySem.W.Frag) : List V → Hp → VK → Prop := fun xs H Q => ∃ (x : V) (tp : Addr) (cs : List V) (t : Value) (us : List Value) (b : Bool), xs = [x, .ref tp] ∧ SqT K H tp cs ∧ Paired ClsV cs us ∧ TyX K H x t ∧ PySem.W.kitAny K t us = some b ∧ Q (.bl b) H
theorem call_isiS {X : Cx} : CallR X (.builtin "isinstance") (rIsiS X.K) := by
  intro pins s σ H xs us Q I r h
  obtain ⟨x, tp, cs, t, ws, b, rfl, hT, k, ty, e, q⟩ := h
  obtain ⟨u1, u2, rfl, r1, r2⟩ := vals2 r
  obtain rfl : u2 = Value.ref tp := r2
  obtain ⟨P, Z, p, hx⟩ := kit_of I r1 ty
  obtain ⟨its, rv, ⟨o, h1, h2, n, h3⟩, _⟩ := I.tuple hT
  have e3 := ClsV.all k rv
  subst e3
  obtain ⟨oc, od, dt, sl⟩ := o
  simp only at h2 h3
  subst h2 h3
  exact PySem.W.kia_tup Z I.kIn p h1 e hx fun tk => ⟨.bl b, H, I.tok tk, rfl, q⟩
theorem clsDs {H : Hp} : ∀ {ds : List D} {us : List Value} {vs : List V}, Paired ClsD ds us → RepL K H ds vs → Paired ClsV vs us
  | [], _, _, .nil, r => by
    rw [show _ = [] from r]
    exact .nil
  | d :: ds, _, _, .cons h t, r => by
    obtain ⟨v, r, rfl, h1, h2⟩ := r
    exact .cons (h.cls h1) (clsDs t h2)
theorem c_isiS {P : PT'} {d : D} {cs : List D} {t : Value} {us : List Value} {b : Bool} (ht : TyD K d t) (hc : Paired ClsD cs us) (e : PySem.W.kitAny K t us = some b) (k : P (.v (.bl b)) O) : WC K (rIsiS K) [.v d, .v (.tup cs)] O P := fun b' A H Q vs s r kv => by
  obtain ⟨v, _, rfl, ⟨_, e1, r1⟩, w, _, rfl, ⟨_, e2, a, xs, rfl, h1, h2⟩, rfl⟩ := r
  cases e1
  cases e2
  exact ⟨v, a, xs, t, us, b, rfl, (hid_ex : Ex (Fz b' A O H) H).t h1, clsDs hc h2, ht.tyX (r1.ex hid_ex), e, kv _ _ A O H k s Nxt.refl ⟨_, rfl, rfl⟩⟩
end
end G

set_option Elab.async false
set_option linter.all false
set_option maxRecDepth 100000
set_option maxHeartbeats 4000000
namespace G
open PySem PySem.Spec PyProof.Rows L2
section
variable {K : PySem.W.Frag} {W : WX} {O : List OD} {ts : List T} {P : PT'} {X : XX}
theorem w_add {i j : Int} (k : P (.v (.int (i + j))) O) : WR K (rI0 fun i j => .int (i + j)) (.v (.int i)) (.v (.int j)) O P := w_I0 (d := .int (i + j)) (fun _ => rfl) k
theorem w_sub {i j : Int} (k : P (.v (.int (i - j))) O) : WR K (rI0 fun i j => .int (i - j)) (.v (.int i)) (.v (.int j)) O P := w_I0 (d := .int (i - j)) (fun _ => rfl) k
theorem w_lt {i j : Int} (k : P (.v (.bl (decide (i < j)))) O) : WR K (rI0 fun i j => .bl (decide (i < j))) (.v (.int i)) (.v (.int j)) O P := w_I0 (d := .bl (decide (i < j))) (fun _ => rfl) k
theorem w_le {i j : Int} (k : P (.v (.bl (decide (i ≤ j)))) O) : WR K (rI0 fun i j => .bl (decide (i ≤ j))) (.v (.int i)) (.v (.int j)) O P := w_I0 (d := .bl (decide (i ≤ j))) (fun _ => rfl) k
theorem w_gt {i j : Int} (k : P (.v (.bl (decide (j < i)))) O) : WR K (rI0 fun i j => .bl (decide (j < i))) (.v (.int i)) (.v (.int j)) O P := w_I0 (d := .bl (decide (j < i))) (fun _ => rfl) k
theorem w_ge {i j : Int} (k : P (.v (.bl (decide (j ≤ i)))) O) : WR K (rI0 fun i j => .bl (decide (j ≤ i))) (.v (.int i)) (.v (.int j)) O P := w_I0 (d := .bl (decide (j ≤ i))) (fun _ => rfl) k
theorem w_mul {i j : Int} (h : CMul i j) (k : P (.v (.int (i * j))) O) : WR K (rI CMul fun i j => .int (i * j)) (.v (.int i)) (.v (.int j)) O P := w_I (d := .int (i * j)) h (fun _ => rfl) k
theorem w_mulW {i j : Int} (h : CMulW i j) (k : P (.v (.int (i * j))) O) : WR K (rI CMulW fun i j => .int (i * j)) (.v (.int i)) (.v (.int j)) O P := w_I (d := .int (i * j)) h (fun _ => rfl) k
theorem w_fdivW {i j : Int} (h : CDivW i j) (k : P (.v (.int (i / j))) O) : WR K (rI CDivW fun i j => .int (i / j)) (.v (.int i)) (.v (.int j)) O P := w_I (d := .int (i / j)) h (fun _ => rfl) k
theorem w_mod {i j : Int} (h : 0 < j) (k : P (.v (.int (i % j))) O) : WR K (rI (fun _ j => 0 < j) fun i j => .int (i % j)) (.v (.int i)) (.v (.int j)) O P := w_I (d := .int (i % j)) h (fun _ => rfl) k
theorem w_pow {i j : Int} (h : CPow i j) (k : P (.v (.int (i ^ j.toNat))) O) : WR K (rI CPow fun i j => .int (i ^ j.toNat)) (.v (.int i)) (.v (.int j)) O P := w_I (d := .int (i ^ j.toNat)) h (fun _ => rfl) k
theorem w_neg {i : Int} (k : P (.v (.int (-i))) O) : WU K (rU fun i => .int (-i)) (.v (.int i)) O P := w_Ui (d := .int (-i)) (fun _ => rfl) k
theorem br {p : Prop} [Decidable p] {A B : Prop} (h1 : p → A) (h2 : ¬ p → B) : (decide p = true → A) ∧ (decide p = false → B) := ⟨fun z => h1 (of_decide_eq_true z), fun z => h2 (of_decide_eq_false z)⟩
theorem nbr {p : Prop} [Decidable p] {A B : Prop} (h1 : ¬ p → A) (h2 : p → B) : ((!decide p) = true → A) ∧ ((!decide p) = false → B) := ⟨fun z => h1 fun hp => (by rw [decide_eq_true hp] at z; cases z), fun z => h2 (Decidable.byContradiction fun hp => (by rw [decide_eq_false hp] at z; cases z))⟩
theorem bT {c : Bool} {A B : Prop} (hp : c = true) (h : A) : (c = true → A) ∧ (c = false → B) := ⟨fun _ => h, fun z => by rw [hp] at z; cases z⟩
theorem bF {c : Bool} {A B : Prop} (hp : c = false) (h : B) : (c = true → A) ∧ (c = false → B) := ⟨fun z => (by rw [hp] at z; cases z), fun _ => h⟩
theorem bnT {c : Bool} {A B : Prop} (hp : c = false) (h : A) : ((!c) = true → A) ∧ ((!c) = false → B) := ⟨fun _ => h, fun z => by rw [hp] at z; cases z⟩
theorem bnF {c : Bool} {A B : Prop} (hp : c = true) (h : B) : ((!c) = true → A) ∧ ((!c) = false → B) := ⟨fun z => (by rw [hp] at z; cases z), fun _ => h⟩
theorem tt_ {A B : Prop} (h : A) : (true = true → A) ∧ (true = false → B) := ⟨fun _ => h, fun z => (nomatch z)⟩
theorem ff_ {A B : Prop} (h : B) : (false = true → A) ∧ (false = false → B) := ⟨fun z => (nomatch z), fun _ => h⟩
theorem ntt_ {A B : Prop} (h : B) : ((!true) = true → A) ∧ ((!true) = false → B) := ⟨fun z => (nomatch z), fun _ => h⟩
theorem nff_ {A B : Prop} (h : A) : ((!false) = true → A) ∧ ((!false) = false → B) := ⟨fun _ => h, fun z => (nomatch z)⟩
end
def LkF (K : PySem.W.Frag) (f : Addr) (fd : FuncData) : Prop := ∃ oc od osl, K.lookup f = some ⟨oc, od, .func fd, osl⟩
theorem lk_of {K : PySem.W.Frag} {x qual : Str} {params : Arguments} {body : List Stmt} {scope : Scope} {dvs : List V} {kws : List (Str × V)} {f : Addr} {fd : FuncData} (F : FunD K x qual params body scope dvs kws f fd) : LkF K f fd := by
  obtain ⟨oc, od, dV, kV, doc, pm, an, cdv, ct, osl, rfl, lk, _⟩ := F.ex
  exact ⟨oc, od, osl, lk⟩
/-- a def by its promise over data -/
def Fn (P : Program) (w : World) (K : PySem.W.Frag) (mg : Str → Option Value) (base : Heap) (k : Nat) (f : Addr) (ps : List Str) (sp : SpD) : Prop :=
  ∃ fd, FnOk P w K mg base (L2.CX P w) k f fd ps (lift K sp) ∧ Binds K fd ps [] ∧ PySem.W.keepIn K (.ref f) = true ∧ LkF K f fd
theorem natAbs_lt {i : Int} {n : Nat} (h0 : -(2 ^ n : Int) < i) (h1 : i < 2 ^ n) : i.natAbs < 2 ^ n := by
  have e : ((2 ^ n : Nat) : Int) = (2 ^ n : Int) := by simp
  omega
theorem mulW_ok {i j : Int} (hi : -(2 ^ 250 : Int) < i ∧ i < 2 ^ 250) (hj : -(2 ^ 250 : Int) < j ∧ j < 2 ^ 250) : CMulW i j :=
  wide_mul (a := 250) (b := 250) (natAbs_lt hi.1 hi.2) (natAbs_lt hj.1 hj.2) (by omega) (by omega) (by omega)
theorem divW_ok {i j : Int} (h : 0 < j) (hj : j < 2 ^ 250) : CDivW i j := by
  have h2 : -(2 ^ 250 : Int) < j := Int.lt_trans (by decide) h
  exact wide_div (b := 250) h (natAbs_lt h2 hj) (by omega) (by omega)
/-- whether a value is an integer and no bool, as isinstance tells it -/
def IntQ (K : PySem.W.Frag) (d : D) (b : Bool) : Prop := ∃ t b1 b2, TyD K d t ∧ PySem.W.kitOne K t (.type "int") = some b1 ∧ PySem.W.kitOne K t (.type "bool") = some b2 ∧ b = (b1 && !b2)
theorem intQ_int {K : PySem.W.Frag} {n : Int} : IntQ K (.int n) true := ⟨_, true, false, .int n, kit_ty (by decide +kernel), kit_ty (by decide +kernel), rfl⟩
theorem intQ_bl {K : PySem.W.Frag} {n : Bool} : IntQ K (.bl n) false := ⟨_, true, true, .bl n, kit_ty (by decide +kernel), kit_ty (by decide +kernel), rfl⟩
theorem intQ_non {K : PySem.W.Frag} : IntQ K .non false := ⟨_, false, false, .non, kit_ty (by decide +kernel), kit_ty (by decide +kernel), rfl⟩
theorem intQ_str {K : PySem.W.Frag} {n : Str} : IntQ K (.str n) false := ⟨_, false, false, .str n, kit_ty (by decide +kernel), kit_ty (by decide +kernel), rfl⟩
theorem intQ_lst {K : PySem.W.Frag} {n : List D} : IntQ K (.lst n) false := ⟨_, false, false, .lst n, kit_ty (by decide +kernel), kit_ty (by decide +kernel), rfl⟩
theorem intQ_tup {K : PySem.W.Frag} {n : List D} : IntQ K (.tup n) false := ⟨_, false, false, .tup n, kit_ty (by decide +kernel), kit_ty (by decide +kernel), rfl⟩
theorem intQ_dic {K : PySem.W.Frag} {n : List (Key × D)} : IntQ K (.dic n) false := ⟨_, false, false, .dic n, kit_ty (by decide +kernel), kit_ty (by decide +kernel), rfl⟩
end G

set_option Elab.async false
set_option linter.all false
set_option maxRecDepth 100000
set_option maxHeartbeats 4000000
namespace G
open PySem PySem.Spec PyProof.Rows L2

def nums (ns : List Int) : List D := ns.map D.int
/-- a pen: its cells, where it is, what is left of a great cell; n: how often it has drawn at most -/
def Pen (n : Nat) (p : List D) : Prop := ∃ (cs : List Int) (at_ g : Int), p = [.lst (nums cs), .int at_, .int g] ∧ 0 ≤ at_ ∧ at_ ≤ n ∧ 0 ≤ g
theorem Pen.mono {n m : Nat} {p : List D} (h : Pen n p) (k : n ≤ m) : Pen m p := by
  obtain ⟨cs, a, g, e, h1, h2, h3⟩ := h
  exact ⟨cs, a, g, e, h1, by omega, h3⟩
/-- what making a pen does: the script's cut, its copy, the pen -/
def penSp (K : PySem.W.Frag) (n : Int) : Sp := fun vs H Q _ => ∃ (a : Addr) (cs : List Int), vs = [.ref a] ∧ SqL K H a (cs.map V.int) ∧
  ∀ s l p, H s = none → upd H s (.lst (cutV (cs.map V.int) none (some n))) l = none → upd (upd H s (.lst (cutV (cs.map V.int) none (some n)))) l (.lst (cutV (cs.map V.int) none (some n))) p = none →
    Q (.ref p) (upd (upd (upd H s (.lst (cutV (cs.map V.int) none (some n)))) l (.lst (cutV (cs.map V.int) none (some n)))) p (.lst [.ref l, .int 0, .int 0]))
theorem penSp_len {K : PySem.W.Frag} {n : Int} {vs H Q E} (h : penSp K n vs H Q E) : vs.length = 1 := by
  obtain ⟨a, cs, rfl, _⟩ := h
  rfl
theorem cut_ints {cs : List Int} {n : Int} : ∃ ds : List Int, cutV (cs.map V.int) none (some n) = List.map V.int ds := ⟨(cs.drop (HT.sIx (cs.map V.int).length 0 none)).take (HT.sIx (cs.map V.int).length (cs.map V.int).length (some n) - HT.sIx (cs.map V.int).length 0 none), by
  unfold cutV
  rw [List.map_take, List.map_drop]⟩
/-- a def by its promise as it is -/
def FnRaw (P : Program) (w : World) (K : PySem.W.Frag) (mg : Str → Option Value) (base : Heap) (k : Nat) (f : Addr) (ps : List Str) (sp : Sp) : Prop :=
  ∃ fd, FnOk P w K mg base (L2.CX P w) k f fd ps sp ∧ Binds K fd ps [] ∧ PySem.W.keepIn K (.ref f) = true ∧ LkF K f fd
section
variable {K : PySem.W.Frag} {W : WX} {O : List OD} {ts : List T} {P : PT'} {X : XX} {te ta : TE} {tr : TA} {E : XK}
theorem repL_ints {F : Hp} : ∀ {ns : List Int}, RepL K F (nums ns) (ns.map V.int)
  | [] => rfl
  | n :: ns => ⟨_, _, rfl, rfl, repL_ints (ns := ns)⟩
theorem w_pen {n : Int} (h : WA K W tr O ts (fun xs O1 => ∃ cs, xs = [.v (.scr cs)] ∧ ∀ p, Pen 0 p → P (.own O1.length) (O1 ++ [.lst p])) X) : WE K W (tCall (penSp K n) [] E tr) O ts P X := fun b A σ H Q s rs kv kx =>
  h b A σ H _ s rs (fun xs vs A1 O1 H1 p1 s1 n1 r1 => by
    obtain ⟨cs, rfl, p⟩ := p1
    rw [List.append_nil]
    obtain ⟨v, _, rfl, ⟨_, e, a, rfl, h1⟩, rfl⟩ := r1
    cases e
    refine ⟨a, cs, rfl, hid_ex.l h1, fun s0 l q hs hl hq => ?_⟩
    obtain ⟨ds, ed⟩ := cut_ints (cs := cs) (n := n)
    rw [ed] at hl hq ⊢
    obtain ⟨s2, n2, _⟩ := s1.lay hs (.lst (List.map V.int ds))
    obtain ⟨s3, n3, f3⟩ := s2.lay hl (.lst (List.map V.int ds))
    obtain ⟨s4, n4⟩ := s3.own (u := .lst [.ref l, .int 0, .int 0]) (o := .lst [.lst (nums ds), .int 0, .int 0]) hq ⟨_, upd_same, _, _, rfl, ⟨l, _, rfl, f3, repL_ints⟩, _, _, rfl, rfl, _, _, rfl, rfl, rfl⟩
    refine kv _ _ _ _ _ (p _ ⟨ds, 0, 0, rfl, by omega, by omega, by omega⟩) s4 (((n1.trans n2).trans n3).trans n4) ⟨q, ?_, rfl⟩
    rw [← s3.len, List.getElem?_append_right (Nat.le_refl _), Nat.sub_self]
    exact rfl) kx
end
def sp_draw (K : PySem.W.Frag) : SpD := fun ts O P _ => ∃ (n : Nat) (p : List D) (m : Int), ts = [.own 0, .v (.int m)] ∧ O = [.lst p] ∧ Pen n p ∧ n < 1000000 ∧ 1 ≤ m ∧ m < 2 ^ 200 ∧ ∀ p' r, Pen (n + 1) p' → 0 ≤ r → r < m → P (.v (.int r)) [.lst p']
theorem sp_draw_len {K : PySem.W.Frag} {ts O P X} (h : sp_draw K ts O P X) : ts.length = 2 := by
  obtain ⟨n, p, m, rfl, _⟩ := h
  rfl
theorem u_draw {K : PySem.W.Frag} {P : PT'} {X : XX} {n : Nat} {p : List D} {m : Int} (hp : Pen n p) (hn : n < 1000000) (h1 : 1 ≤ m) (h2 : m < 2 ^ 200) (k : ∀ p' r, Pen (n + 1) p' → 0 ≤ r → r < m → P (.v (.int r)) [.lst p']) :
    sp_draw K [.own 0, .v (.int m)] [.lst p] P X := ⟨n, p, m, rfl, rfl, hp, hn, h1, h2, k⟩
/-- one of some values, by a draw; d: the i-th of them -/
def sp_pick (K : PySem.W.Frag) : SpD := fun ts O P _ => ∃ (n : Nat) (p : List D) (ds : List D), ts = [.own 0, .v (.lst ds)] ∧ O = [.lst p] ∧ Pen n p ∧ n < 1000000 ∧ 1 ≤ ds.length ∧ ds.length ≤ 1000000 ∧ ∀ p' (i : Nat) d, Pen (n + 1) p' → ds[i]? = some d → P (.v d) [.lst p']
theorem sp_pick_len {K : PySem.W.Frag} {ts O P X} (h : sp_pick K ts O P X) : ts.length = 2 := by
  obtain ⟨n, p, m, rfl, _⟩ := h
  rfl
theorem u_pick {K : PySem.W.Frag} {P : PT'} {X : XX} {n : Nat} {p : List D} {ds : List D} (hp : Pen n p) (hn : n < 1000000) (h1 : 1 ≤ ds.length) (h2 : ds.length ≤ 1000000) (k : ∀ p' (j : Nat) d, Pen (n + 1) p' → ds[j]? = some d → P (.v d) [.lst p']) :
    sp_pick K [.own 0, .v (.lst ds)] [.lst p] P X := ⟨n, p, ds, rfl, rfl, hp, hn, h1, h2, k⟩
theorem nno {d : D} : okR (T.v d) = true := rfl
end G

set_option Elab.async false
set_option linter.all false
set_option maxRecDepth 100000
set_option maxHeartbeats 4000000
namespace G
open PySem PySem.Spec PyProof.Rows L2
mutual
theorem pl_refl : ∀ (n : Nat) (d : D), pl n d = true → eqD d d = true
  | _, .non, _ => by unfold eqD; simp only [toP, PyData.eqv]
  | _, .bl b, _ => by unfold eqD; simp only [toP, PyData.eqv]; exact beq_self_eq_true b
  | _, .int b, _ => by unfold eqD; simp only [toP, PyData.eqv]; exact beq_self_eq_true b
  | _, .str b, h => by
    unfold eqD
    simp only [toP, PyData.eqv]
    first | exact beq_self_eq_true b | simp
  | n + 1, .lst ds, h => by
    unfold eqD
    simp only [toP, PyData.eqv]
    exact pls_refl n ds h
  | n + 1, .tup ds, h => by
    unfold eqD
    simp only [toP, PyData.eqv]
    exact pls_refl n ds h
  | 0, .lst ds, h => by cases h
  | 0, .tup ds, h => by cases h
  | 0, .ins _ _, h => by cases h
  | _ + 1, .ins _ _, h => by cases h
  | 0, .ref _, h => by cases h
  | _ + 1, .ref _, h => by cases h
  | 0, .ty _, h => by cases h
  | _ + 1, .ty _, h => by cases h
  | 0, .scr _, h => by cases h
  | _ + 1, .scr _, h => by cases h
  | 0, .exc _ _, h => by cases h
  | _ + 1, .exc _ _, h => by cases h
  | 0, .dic _, h => by cases h
  | _ + 1, .dic _, h => by cases h
theorem pls_refl : ∀ (n : Nat) (ds : List D), pls n ds = true → PyData.eqvAll (toPs ds) (toPs ds) = true
  | n, [], _ => by simp only [toPs, PyData.eqvAll]
  | n, d :: ds, h => by
    have h' : (pl n d && pls n ds) = true := h
    obtain ⟨h1, h2⟩ := Bool.and_eq_true_iff.mp h'
    have a := pl_refl n d h1
    unfold eqD at a
    simp only [toPs, PyData.eqvAll, a, pls_refl n ds h2, Bool.and_self]
end
theorem eqD_refl {d : D} (h : pl 60 d = true) : eqD d d = true := pl_refl 60 d h
section
variable {K : PySem.W.Frag} {W : WX} {O : List OD} {ts : List T} {P : PT'} {X : XX} {te : TE} {tr : TA}
theorem w_eqT {x y : T} {d : D} (hx : ValD x O d) (hy : ValD y O d) (h1 : pl 60 d = true) (k : P (.v (.bl true)) O) : WR K (rEqD K) x y O P := w_eqD hx hy h1 h1 (by rw [eqD_refl h1]; exact k)
end
theorem pls_map {α : Type} {n : Nat} {f : α → D} (h : ∀ x, pl n (f x) = true) : ∀ xs : List α, pls n (xs.map f) = true
  | [] => by cases n <;> rfl
  | x :: xs => by
    have e : pls n ((x :: xs).map f) = (pl n (f x) && pls n (xs.map f)) := by cases n <;> rfl
    rw [e, h x, pls_map h xs] <;> rfl
theorem pl_int {n : Nat} {i : Int} : pl n (.int i) = true := by cases n <;> rfl
theorem pls_nums {n : Nat} {ns : List Int} : pls n (nums ns) = true := pls_map (fun _ => pl_int) ns
theorem pl_numsL {n : Nat} {ns : List Int} : pl (n + 1) (.lst (nums ns)) = true := pls_nums
theorem pl_nilL {n : Nat} : pl (n + 1) (.lst []) = true := by cases n <;> rfl
/-- lists and tuples of integers -/
theorem toPs_nums : ∀ {ns ms : List Int}, PyData.eqvAll (toPs (nums ns)) (toPs (nums ms)) = decide (ns = ms)
  | [], [] => by simp [nums, toPs, PyData.eqvAll]
  | [], m :: ms => by simp [nums, toPs, PyData.eqvAll]
  | n :: ns, [] => by simp [nums, toPs, PyData.eqvAll]
  | n :: ns, m :: ms => by
    have ih := toPs_nums (ns := ns) (ms := ms)
    have e : PyData.eqvAll (toPs (nums (n :: ns))) (toPs (nums (m :: ms))) = (n == m && PyData.eqvAll (toPs (nums ns)) (toPs (nums ms))) := by
      simp only [nums, List.map_cons, toPs, toP, PyData.eqvAll, PyData.eqv]
    rw [e, ih]
    by_cases h1 : n = m
    · subst h1
      simp
    · simp [h1]
theorem eqD_numsL {ns ms : List Int} : eqD (.lst (nums ns)) (.lst (nums ms)) = decide (ns = ms) := by
  unfold eqD
  simp only [toP, PyData.eqv]
  exact toPs_nums
theorem eqD_nilL {ns : List Int} : eqD (.lst (nums ns)) (.lst []) = decide (ns = []) := eqD_numsL (ms := [])
theorem nums_len {ns : List Int} : (nums ns).length = ns.length := List.length_map _
theorem mulB {x y a b : Int} (h0 : 0 ≤ x) (h1 : x ≤ a) (h2 : 0 ≤ y) (h3 : y ≤ b) : 0 ≤ x * y ∧ x * y ≤ a * b :=
  ⟨Int.mul_nonneg h0 h2, Int.mul_le_mul h1 h3 h2 (Int.le_trans h0 h1)⟩
theorem atI_pos {α : Type} {xs : List α} {i : Int} (h0 : 0 ≤ i) (h1 : i < xs.length) : ∃ x, atI xs i = some x ∧ xs[i.toNat]? = some x := by
  obtain ⟨j, rfl⟩ := Int.eq_ofNat_of_zero_le h0
  have hj : j < xs.length := by omega
  exact ⟨xs[j], atI_nat (List.getElem?_eq_getElem hj), List.getElem?_eq_getElem hj⟩
theorem atI_nums {ns : List Int} {i : Int} (h0 : 0 ≤ i) (h1 : i < ns.length) : ∃ x, atI (nums ns) i = some (.int x) ∧ ns[i.toNat]? = some x := by
  obtain ⟨j, rfl⟩ := Int.eq_ofNat_of_zero_le h0
  have hj : j < ns.length := by omega
  refine ⟨ns[j], atI_nat ?_, List.getElem?_eq_getElem hj⟩
  show (ns.map D.int)[j]? = _
  rw [List.getElem?_map, List.getElem?_eq_getElem hj] <;> rfl
end G

set_option Elab.async false
set_option linter.all false
set_option maxRecDepth 100000
set_option maxHeartbeats 4000000
namespace G
open PySem PySem.Spec PyProof.Rows L2
def odD : OD → Option D
  | .lst ds => some (.lst ds)
  | .ins C fs => some (.ins C fs)
  | .dic kvs => some (.dic kvs)
  | .gone => none
def thaw (i : Nat) (d : D) : T → T
  | .own j => if j = i then .v d else .own j
  | t => t
section
variable {K : PySem.W.Frag} {W : WX} {b : Bs} {A : List Addr} {O : List OD} {H : Hp} {ts : List T} {t : TS} {te : TE} {E : DE} {P : PT'} {X : XX}
theorem live_sub {i : Nat} {a : Addr} (h : a ∈ live A (O.set i .gone)) : a ∈ live A O := by
  obtain ⟨j, o, h1, h2, h3⟩ := live_mem h
  rw [List.getElem?_set] at h2
  by_cases hij : i = j
  · rw [if_pos hij] at h2
    by_cases hl : i < O.length
    · rw [if_pos hl] at h2
      exact absurd (Option.some.inj h2).symm h3
    · rw [if_neg hl] at h2
      cases h2
  · rw [if_neg hij] at h2
    exact live_at h1 h2 h3
theorem StO.freeze (s : StO K b A O H) {i : Nat} {o : OD} {d : D} (ho : O[i]? = some o) (hd : odD o = some d) : StO K b A (O.set i .gone) H ∧ Nxt b A O H A (O.set i .gone) H ∧ ∃ a, A[i]? = some a ∧ Rep K (Fz b A (O.set i .gone) H) d (.ref a) := by
  have ng : o ≠ .gone := fun z => by
    subst z
    cases hd
  have hi : i < A.length := by
    rw [s.len]
    exact (List.getElem?_eq_some_iff.mp ho).1
  obtain ⟨a, ha⟩ : ∃ a, A[i]? = some a := ⟨A[i], List.getElem?_eq_getElem hi⟩
  have hl : a ∈ live A O := live_at ha ho ng
  have x3 : Ex (Fz b A O H) (Fz b A (O.set i .gone) H) := hid_mono (fun _ _ _ h => h) fun c o h1 h2 h3 => by
    rcases List.mem_append.mp h3 with h3 | h3
    · exact h1 (List.mem_append_left _ (live_sub h3))
    · exact h1 (List.mem_append_right _ h3)
  have fz : ∀ u, H a = some u → Fz b A (O.set i .gone) H a = some u := fun u hu => hid_some.mpr ⟨fun h3 => by
    rcases List.mem_append.mp h3 with h3 | h3
    · obtain ⟨j, o', h1, h2, h4⟩ := live_mem h3
      have e : i = j := nd_ix s.nd ha h1
      subst e
      rw [List.getElem?_set_self (List.getElem?_eq_some_iff.mp ho).1] at h2
      exact h4 (Option.some.inj h2).symm
    · exact (s.z_at h3).1 hl, hu⟩
  have c := s.cell i a o ha ho
  refine ⟨⟨by rw [List.length_set]; exact s.len, s.pre, s.ext.trans (hid_mono (fun _ _ _ h => h) fun c o h1 h2 h3 => h1 (live_sub h3)), s.zs, s.nd, s.inh, fun j c' u h1 h2 => ?_, s.tb⟩, ⟨⟨[], (List.append_nil A).symm⟩, x3⟩, a, ha, ?_⟩
  · rw [List.getElem?_set] at h2
    by_cases hij : i = j
    · rw [if_pos hij] at h2
      by_cases hl : i < O.length
      · rw [if_pos hl] at h2
        have e : OD.gone = u := Option.some.inj h2
        subst e
        trivial
      · rw [if_neg hl] at h2
        cases h2
    · rw [if_neg hij] at h2
      exact (s.cell j c' u h1 h2).ex x3 fun _ h => h
  · cases o with
    | gone => cases hd
    | lst ds =>
      have e := Option.some.inj hd
      subst e
      obtain ⟨vs, c1, c2⟩ := c
      exact ⟨a, vs, rfl, fz _ c1, c2.ex x3⟩
    | ins C fs =>
      have e := Option.some.inj hd
      subst e
      obtain ⟨dx, vs, c1, c2⟩ := c
      exact ⟨a, dx, vs, rfl, fz _ c1, c2.ex x3⟩
    | dic kvs =>
      have e := Option.some.inj hd
      subst e
      obtain ⟨vs, c1, c2⟩ := c
      exact ⟨a, vs, rfl, fz _ c1, c2.ex x3⟩
theorem RepT.thaw {F : Hp} {i : Nat} {d : D} {a : Addr} {x : T} {o : Option V} (h : RepT K F A x o) (ha : A[i]? = some a) (r : Rep K F d (.ref a)) : RepT K F A (thaw i d x) o := by
  cases x with
  | v d => exact h
  | no => trivial
  | clo R f => exact h
  | own j =>
    show RepT K F A (if j = i then .v d else .own j) o
    by_cases e : j = i
    · subst e
      rw [if_pos rfl]
      obtain ⟨c, h1, h2⟩ := h
      rw [ha] at h1
      have e2 := Option.some.inj h1
      subst e2
      exact ⟨_, h2, r⟩
    · rw [if_neg e]
      exact h
theorem RepS.thaw {F : Hp} {i : Nat} {d : D} {a : Addr} {σ : L2.St} (h : RepS K F A ts σ) (ha : A[i]? = some a) (r : Rep K F d (.ref a)) : RepS K F A (ts.map (G.thaw i d)) σ := by
  refine ⟨by rw [List.length_map]; exact h.1, fun j t e => ?_⟩
  rw [List.getElem?_map] at e
  cases q : ts[j]? with
  | none =>
    rw [q] at e
    cases e
  | some u =>
    rw [q] at e
    have e2 : G.thaw i d u = t := Option.some.inj e
    subst e2
    obtain ⟨o, h1, h2⟩ := h.2 j u q
    exact ⟨o, h1, h2.thaw ha r⟩
theorem s_frz (i : Nat) {o : OD} {d : D} (ho : O[i]? = some o) (hd : odD o = some d) (h : WS K W t (O.set i .gone) (ts.map (G.thaw i d)) E) : WS K W t O ts E := fun b A σ H D s rs ks => by
  obtain ⟨s2, n2, a, ha, r⟩ := s.freeze ho hd
  exact h b A σ H D s2 ((rs.nxt n2).thaw ha r) (ks.nxt n2)
end
end G

set_option Elab.async false
set_option linter.all false
set_option maxRecDepth 100000
set_option maxHeartbeats 4000000
namespace G
open PySem PySem.Spec PyProof.Rows L2
section
variable {K : PySem.W.Frag} {W : WX} {O : List OD} {ts : List T} {E : DE} {g : TG} {tb : TS}
def ForEx (K : PySem.W.Frag) (W : WX) (g : TG) (tb : TS) (E : DE) (ts : List T) (f : Nat → Option T) (O1 : List OD) : Prop :=
  ∃ (n : Nat) (I : Nat → List T → List OD → Prop), (∀ i, i < n → f i ≠ none) ∧ f n = none ∧ I 0 ts O1 ∧
      (∀ i t ts' O', i < n → f i = some t → I i ts' O' → WG K W g t O' ts' (fun ts2 O2 => WS K W tb O2 ts2 { E with nx := I (i + 1), ct := I (i + 1), bk := E.nx })) ∧ (∀ ts' O', I n ts' O' → E.nx ts' O')
theorem itD_ne {ds : List D} {i : Nat} (h : i < ds.length) : itD ds i ≠ none := fun z => by
  have := itD_none z
  omega
theorem for_D {ds : List D} (I : Nat → List T → List OD → Prop) (h0 : I 0 ts O)
    (hs : ∀ i d ts' O', i < ds.length → ds[i]? = some d → I i ts' O' → WG K W g (.v d) O' ts' (fun ts2 O2 => WS K W tb O2 ts2 { E with nx := I (i + 1), ct := I (i + 1), bk := E.nx }))
    (hd : ∀ ts' O', I ds.length ts' O' → E.nx ts' O') : ForEx K W g tb E ts (itD ds) O :=
  ⟨ds.length, I, fun i h => itD_ne h, by unfold itD; rw [List.getElem?_eq_none (Nat.le_refl _)]; rfl, h0, fun i t ts' O' hi ht hI => by
    obtain ⟨d, e, rfl⟩ := itD_some ht
    exact hs i d ts' O' hi e hI, hd⟩
theorem for_N {ns : List Int} (I : Nat → List T → List OD → Prop) (h0 : I 0 ts O)
    (hs : ∀ i r ts' O', i < ns.length → ns[i]? = some r → I i ts' O' → WG K W g (.v (.int r)) O' ts' (fun ts2 O2 => WS K W tb O2 ts2 { E with nx := I (i + 1), ct := I (i + 1), bk := E.nx }))
    (hd : ∀ ts' O', I ns.length ts' O' → E.nx ts' O') : ForEx K W g tb E ts (itD (nums ns)) O :=
  for_D I h0 (fun i d ts' O' hi e hI => by
    have e' : (ns.map D.int)[i]? = some d := e
    rw [List.getElem?_map] at e'
    cases q : ns[i]? with
    | none =>
      rw [q] at e'
      cases e'
    | some r =>
      rw [q] at e'
      have e2 : D.int r = d := Option.some.inj e'
      subst e2
      exact hs i r ts' O' (by rw [nums_len] at hi; exact hi) q hI) (by rw [nums_len]; exact hd)
theorem for_E {ds : List D} (I : Nat → List T → List OD → Prop) (h0 : I 0 ts O)
    (hs : ∀ i d ts' O', i < ds.length → ds[i]? = some d → I i ts' O' → WG K W g (.v (.tup [.int (i : Nat), d])) O' ts' (fun ts2 O2 => WS K W tb O2 ts2 { E with nx := I (i + 1), ct := I (i + 1), bk := E.nx }))
    (hd : ∀ ts' O', I ds.length ts' O' → E.nx ts' O') : ForEx K W g tb E ts (itE ds) O :=
  ⟨ds.length, I, fun i h z => by
    have := itE_none z
    omega, by unfold itE; rw [List.getElem?_eq_none (Nat.le_refl _)]; rfl, h0, fun i t ts' O' hi ht hI => by
    obtain ⟨d, e, rfl⟩ := itE_some ht
    exact hs i d ts' O' hi e hI, hd⟩
theorem for_R {lo c : Int} {n : Nat} (I : Nat → List T → List OD → Prop) (h0 : I 0 ts O)
    (hs : ∀ i ts' O', i < n → I i ts' O' → WG K W g (.v (.int (lo + (i : Int) * c))) O' ts' (fun ts2 O2 => WS K W tb O2 ts2 { E with nx := I (i + 1), ct := I (i + 1), bk := E.nx }))
    (hd : ∀ ts' O', I n ts' O' → E.nx ts' O') : ForEx K W g tb E ts (itR lo c n) O :=
  ⟨n, I, fun i h z => by
    have := itR_none z
    omega, by unfold itR; rw [if_neg (Nat.lt_irrefl n)], h0, fun i t ts' O' hi ht hI => by
    obtain ⟨_, rfl⟩ := itR_some ht
    exact hs i ts' O' hi hI, hd⟩
/-- range(n), range(lo, hi): the items as they are -/
theorem for_R1 {n : Nat} (I : Nat → List T → List OD → Prop) (h0 : I 0 ts O)
    (hs : ∀ i ts' O', i < n → I i ts' O' → WG K W g (.v (.int (i : Nat))) O' ts' (fun ts2 O2 => WS K W tb O2 ts2 { E with nx := I (i + 1), ct := I (i + 1), bk := E.nx }))
    (hd : ∀ ts' O', I n ts' O' → E.nx ts' O') : ForEx K W g tb E ts (itR 0 1 n) O :=
  for_R I h0 (fun i ts' O' hi hI => by
    rw [Int.zero_add, Int.mul_one]
    exact hs i ts' O' hi hI) hd
theorem s_forE {wi : TI} (h : WI K W wi O ts (fun f O1 => ForEx K W g tb E ts f O1) (fun C fs O' => E.xe C fs ts O')) : WS K W (tFor wi g tb) O ts E := s_for h
/-- a, b = a pair -/
theorem g_pair {n : Nat} {i j : Nat} {a b : D} {N : List T → List OD → Prop} (hn : n = 2) (k : N ((ts.set i (.v a)).set j (.v b)) O) : WG K W (gTup K n (gCons (gName i) (gCons (gName j) gNil))) (.v (.tup [a, b])) O ts N :=
  g_tup (by rw [hn] <;> rfl) (g_cons (g_name (g_cons (g_name (g_nil k)))))
theorem g_trip {n : Nat} {i j l : Nat} {a b c : D} {N : List T → List OD → Prop} (hn : n = 3) (k : N (((ts.set i (.v a)).set j (.v b)).set l (.v c)) O) : WG K W (gTup K n (gCons (gName i) (gCons (gName j) (gCons (gName l) gNil)))) (.v (.tup [a, b, c])) O ts N :=
  g_tup (by rw [hn] <;> rfl) (g_cons (g_name (g_cons (g_name (g_cons (g_name (g_nil k)))))))
theorem g_quad {n : Nat} {i j l m : Nat} {a b c d : D} {N : List T → List OD → Prop} (hn : n = 4) (k : N ((((ts.set i (.v a)).set j (.v b)).set l (.v c)).set m (.v d)) O) : WG K W (gTup K n (gCons (gName i) (gCons (gName j) (gCons (gName l) (gCons (gName m) gNil))))) (.v (.tup [a, b, c, d])) O ts N :=
  g_tup (by rw [hn] <;> rfl) (g_cons (g_name (g_cons (g_name (g_cons (g_name (g_cons (g_name (g_nil k)))))))))
variable {P : PT'} {X : XX} {te ta tv : TE} {DE' : DE} {C : Addr} {f : Str}
theorem w_fldN (n : NoAttr K C f) (c : Cls K C) (h : WE K W ta O ts (fun x O1 => ∃ fs d, InsD x O1 C fs ∧ fs.lookup f = some d ∧ P (.v d) O1) X) : WE K W (tFld K ta f) O ts P X := w_fld c n h
theorem s_fldN (n : NoAttr K C f) (c : Cls K C) (h : WE K W tv O ts (fun y O1 => WE K W ta O1 ts (fun x O2 => ∃ i fs d, x = .own i ∧ y = .v d ∧ O2[i]? = some (.ins C fs) ∧ fs.length < 1000 ∧ DE'.nx ts (O2.set i (.ins C (putD f d fs)))) (fun C fs O' => DE'.xe C fs ts O')) (fun C fs O' => DE'.xe C fs ts O')) :
    WS K W (sFld K ta tv f) O ts DE' := s_fld c n h
theorem drop_at {α : Type} {xs : List α} {i : Nat} {x : α} (h : xs[i]? = some x) : xs.drop i = x :: xs.drop (i + 1) := by
  obtain ⟨hi, e⟩ := List.getElem?_eq_some_iff.mp h
  rw [List.drop_eq_getElem_cons hi, e]
theorem unv_vs : ∀ {ds : List D} {ys : List T} {es : List D}, unv ys = some es → unv (ds.map T.v ++ ys) = some (ds ++ es)
  | [], _, _, h => h
  | d :: ds, _, _, h => by
    show (unv (ds.map T.v ++ _)).map (d :: ·) = _
    rw [unv_vs h] <;> rfl
theorem lt_sz {fs : List Int} (h : fs.length < 1000000) : (nums fs).length < sizeLine := Nat.lt_of_lt_of_le (by rw [nums_len]; exact h) (Nat.le_of_ble_eq_true rfl)
theorem nums_app {fs : List Int} {x : Int} : nums fs ++ [.int x] = nums (fs ++ [x]) := by
  unfold nums
  rw [List.map_append] <;> rfl
end
end G

set_option Elab.async false
set_option linter.all false
set_option maxRecDepth 100000
set_option maxHeartbeats 4000000
namespace G
open PySem PySem.Spec PyProof.Rows L2
section
variable {K : PySem.W.Frag} {W : WX} {O : List OD} {ts : List T} {g : TG} {te : TE} {vs : List Nat} {P : PT'}
def LcEx (K : PySem.W.Frag) (W : WX) (g : TG) (te : TE) (vs : List Nat) (P : PT') (ts : List T) (f : Nat → Option T) (O1 : List OD) : Prop :=
  ∃ (n : Nat) (I : Nat → List D → List OD → Prop), (∀ i, i < n → f i ≠ none) ∧ f n = none ∧ I 0 [] O1 ∧ (∀ i acc O', I i acc O' → O'.length = O1.length) ∧
      (∀ i t acc O', i < n → f i = some t → I i acc O' → WG K W g t (O' ++ [.lst acc]) (wipeT ts vs) (fun ts2 O2 => WT K W tYes O2 ts2 (fun c O3 =>
        (c = true → WE K W te O3 ts2 (fun y O4 => ∃ d O5, y = .v d ∧ O4 = O5 ++ [.lst acc] ∧ acc.length < sizeLine ∧ I (i + 1) (acc ++ [d]) O5) X0) ∧ (c = false → ∃ O5, O3 = O5 ++ [.lst acc] ∧ I (i + 1) acc O5)) X0)) ∧
      (∀ acc O', I n acc O' → P (.v (.lst acc)) O')
theorem WG.imp {t : T} {N N' : List T → List OD → Prop} (h : WG K W g t O ts N) (q : ∀ ts O, N ts O → N' ts O) : WG K W g t O ts N' := fun b A σ H Q v s rs r kn => h b A σ H Q v s rs r fun ts σ A' O' H' x s m r => kn ts σ A' O' H' (q ts O' x) s m r
/-- with effects -/
theorem lc_I {f : Nat → Option T} {n : Nat} {item : Nat → T} (hf : ∀ i, i < n → f i = some (item i)) (hn : f n = none) (hz : n ≤ 1000000) (I : Nat → List D → List OD → Prop) (h0 : I 0 [] O)
    (hlen : ∀ i acc O', I i acc O' → O'.length = O.length ∧ acc.length = i)
    (hs : ∀ i acc O', i < n → I i acc O' → WG K W g (item i) (O' ++ [.lst acc]) (wipeT ts vs) (fun ts2 O2 => WE K W te O2 ts2 (fun y O4 => ∃ d O5, y = .v d ∧ O4 = O5 ++ [.lst acc] ∧ I (i + 1) (acc ++ [d]) O5) X0))
    (hd : ∀ acc O', I n acc O' → P (.v (.lst acc)) O') : LcEx K W g te vs P ts f O := by
  refine ⟨n, I, fun i h z => ?_, hn, h0, fun i acc O' h => (hlen i acc O' h).1, fun i t acc O' hi ht hI => ?_, hd⟩
  · rw [hf i h] at z
    cases z
  · have e : item i = t := by
      rw [hf i hi] at ht
      exact Option.some.inj ht
    subst e
    refine (hs i acc O' hi hI).imp fun ts2 O2 q => w_yes ⟨fun _ => q.imp fun y O4 p => ?_, fun z => by cases z⟩
    obtain ⟨d, O5, e1, e2, p⟩ := p
    exact ⟨d, O5, e1, e2, Nat.lt_of_lt_of_le (show acc.length < 1000000 by rw [(hlen i acc O' hI).2]; omega) (Nat.le_of_ble_eq_true rfl), p⟩
theorem range_get {α : Type} {n : Nat} {r : Nat → α} {i : Nat} : ((List.range n).map r) ++ [r n] = (List.range (n + 1)).map r := by
  rw [List.range_succ, List.map_append] <;> rfl
/-- without -/
theorem lc_P {f : Nat → Option T} {n : Nat} {item : Nat → T} (r : Nat → D) (hf : ∀ i, i < n → f i = some (item i)) (hn : f n = none) (hz : n ≤ 1000000)
    (hs : ∀ i acc, i < n → WG K W g (item i) (O ++ [.lst acc]) (wipeT ts vs) (fun ts2 O2 => WE K W te O2 ts2 (fun y O4 => y = .v (r i) ∧ O4 = O ++ [.lst acc]) X0))
    (hd : P (.v (.lst ((List.range n).map r))) O) : LcEx K W g te vs P ts f O := by
  refine lc_I hf hn hz (fun i acc O' => O' = O ∧ acc = (List.range i).map r) ⟨rfl, rfl⟩ (fun i acc O' h => ?_) (fun i acc O' hi h => ?_) fun acc O' h => ?_
  · obtain ⟨rfl, rfl⟩ := h
    exact ⟨rfl, by rw [List.length_map, List.length_range]⟩
  · obtain ⟨rfl, rfl⟩ := h
    refine (hs i _ hi).imp fun ts2 O2 q => q.imp fun y O4 p => ?_
    obtain ⟨rfl, rfl⟩ := p
    exact ⟨_, _, rfl, rfl, rfl, range_get (i := i)⟩
  · obtain ⟨rfl, rfl⟩ := h
    exact hd
theorem lc_R {n : Nat} (r : Nat → D) (hz : n ≤ 1000000)
    (hs : ∀ i acc, i < n → WG K W g (.v (.int (i : Nat))) (O ++ [.lst acc]) (wipeT ts vs) (fun ts2 O2 => WE K W te O2 ts2 (fun y O4 => y = .v (r i) ∧ O4 = O ++ [.lst acc]) X0))
    (hd : P (.v (.lst ((List.range n).map r))) O) : LcEx K W g te vs P ts (itR 0 1 n) O :=
  lc_P (item := fun i => .v (.int (i : Nat))) r (fun i hi => by
    unfold itR
    rw [if_pos hi, Int.zero_add, Int.mul_one]) (by unfold itR; rw [if_neg (Nat.lt_irrefl n)]) hz hs hd
theorem lc_RI {n : Nat} (hz : n ≤ 1000000) (I : Nat → List D → List OD → Prop) (h0 : I 0 [] O)
    (hlen : ∀ i acc O', I i acc O' → O'.length = O.length ∧ acc.length = i)
    (hs : ∀ i acc O', i < n → I i acc O' → WG K W g (.v (.int (i : Nat))) (O' ++ [.lst acc]) (wipeT ts vs) (fun ts2 O2 => WE K W te O2 ts2 (fun y O4 => ∃ d O5, y = .v d ∧ O4 = O5 ++ [.lst acc] ∧ I (i + 1) (acc ++ [d]) O5) X0))
    (hd : ∀ acc O', I n acc O' → P (.v (.lst acc)) O') : LcEx K W g te vs P ts (itR 0 1 n) O :=
  lc_I (item := fun i => .v (.int (i : Nat))) (fun i hi => by
    unfold itR
    rw [if_pos hi, Int.zero_add, Int.mul_one]) (by unfold itR; rw [if_neg (Nat.lt_irrefl n)]) hz I h0 hlen hs hd
theorem map_range {α β : Type} {f : α → β} : ∀ {xs : List α} {r : Nat → β}, (∀ i x, xs[i]? = some x → r i = f x) → (List.range xs.length).map r = xs.map f := fun {xs r} h => by
  refine List.ext_getElem (by rw [List.length_map, List.length_range, List.length_map]) fun i h1 h2 => ?_
  rw [List.getElem_map, List.getElem_map, List.getElem_range]
  rw [List.length_map] at h2
  exact h i _ (List.getElem?_eq_getElem h2)
theorem lc_A {α : Type} (xs : List α) (e : α → D) (f : α → D) (hz : xs.length ≤ 1000000)
    (hs : ∀ x acc, x ∈ xs → WG K W g (.v (e x)) (O ++ [.lst acc]) (wipeT ts vs) (fun ts2 O2 => WE K W te O2 ts2 (fun y O4 => y = .v (f x) ∧ O4 = O ++ [.lst acc]) X0))
    (hd : P (.v (.lst (xs.map f))) O) : LcEx K W g te vs P ts (itD (xs.map e)) O := by
  refine lc_P (n := xs.length) (item := fun i => .v ((xs.map e).getD i .non)) (fun i => (xs.map f).getD i .non) (fun i hi => ?_) ?_ hz (fun i acc hi => ?_) ?_
  · unfold itD
    have h2 : i < (xs.map e).length := by rw [List.length_map]; exact hi
    rw [List.getElem?_eq_getElem h2, List.getD_eq_getElem?_getD, List.getElem?_eq_getElem h2] <;> rfl
  · unfold itD
    rw [List.getElem?_eq_none (by rw [List.length_map]; exact Nat.le_refl _)] <;> rfl
  · have h2 := hs xs[i] acc (List.getElem_mem hi)
    have e1 : (xs.map e).getD i .non = e xs[i] := by
      rw [List.getD_eq_getElem?_getD, List.getElem?_map, List.getElem?_eq_getElem hi] <;> rfl
    have e2 : (xs.map f).getD i .non = f xs[i] := by
      rw [List.getD_eq_getElem?_getD, List.getElem?_map, List.getElem?_eq_getElem hi] <;> rfl
    rw [e1, e2]
    exact h2
  · rw [map_range (f := f) (xs := xs) fun i x hx => by rw [List.getD_eq_getElem?_getD, List.getElem?_map, hx] <;> rfl]
    exact hd
/-- the target is one name -/
theorem w_lc1 {wi : TI} {i : Nat} {vs : List Nat} {X : XX} (h : WI K W wi O ts (fun f O1 => LcEx K W (gName i) te vs P ts f O1) X) (hm : i ∈ vs) : WE K W (tLc wi (gName i) tYes te vs) O ts P X := w_lc (tgt_name hm) h
theorem w_lcT {wi : TI} {vs : List Nat} {X : XX} (h : WI K W wi O ts (fun f O1 => LcEx K W g te vs P ts f O1) X) (hg : Tgt g vs) : WE K W (tLc wi g tYes te vs) O ts P X := w_lc hg h
end
theorem getD_some {α : Type} {xs : List α} {i : Nat} {d : α} (h : i < xs.length) : xs[i]? = some (xs.getD i d) := by
  rw [List.getD_eq_getElem?_getD, List.getElem?_eq_getElem h] <;> rfl
end G

set_option Elab.async false
set_option linter.all false
set_option maxRecDepth 100000
set_option maxHeartbeats 4000000
namespace G
open PySem PySem.Spec PyProof.Rows L2
section
variable {X : Cx}
theorem ix_listK (K : PySem.W.Frag) (h : X.K = K := by rfl) : IxR X (rIxL K) := h ▸ ix_list
theorem ix_tupK (K : PySem.W.Frag) (h : X.K = K := by rfl) : IxR X (rIxT K) := h ▸ ix_tup
theorem sl_listK (K : PySem.W.Frag) (h : X.K = K := by rfl) : SlR X (rSlL K) := h ▸ sl_list
theorem sl_tupAK (K : PySem.W.Frag) (h : X.K = K := by rfl) : SlR X (rSlA K) := h ▸ sl_tupA
theorem op_eqDK (K : PySem.W.Frag) (hu : X.A.units + 64 < cLine) (h : X.K = K := by rfl) : OpR X (compareOp .Eq) (rEqD K) := h ▸ op_eqD hu
theorem op_neDK (K : PySem.W.Frag) (hu : X.A.units + 64 < cLine) (h : X.K = K := by rfl) : OpR X (compareOp .NotEq) (rNeD K) := h ▸ op_neD hu
theorem op_catAK (K : PySem.W.Frag) (h : X.K = K := by rfl) : OpR X (binaryOp .Add) (rCatA K) := h ▸ op_catA
theorem call_isiK (K : PySem.W.Frag) (h : X.K = K := by rfl) : CallR X (.builtin "isinstance") (rIsi K) := h ▸ call_isi
theorem call_isiSK (K : PySem.W.Frag) (h : X.K = K := by rfl) : CallR X (.builtin "isinstance") (rIsiS K) := h ▸ call_isiS
theorem cr_lenK (K : PySem.W.Frag) (h : X.K = K := by rfl) : CallR X (.builtin "len") (rLen K) := h ▸ cr_len
theorem cr_listK (K : PySem.W.Frag) (h : X.K = K := by rfl) : CallR X (.type "list") (rListOf K) := h ▸ cr_list
theorem cr_tupK (K : PySem.W.Frag) (h : X.K = K := by rfl) : CallR X (.type "tuple") (rTupOf K) := h ▸ cr_tup
theorem cr_sumK (K : PySem.W.Frag) (hc : X.calm = true) (h : X.K = K := by rfl) : CallR X (.builtin "sum") (rSum K) := h ▸ cr_sum hc
theorem cr_allK (K : PySem.W.Frag) (hc : X.calm = true) (h : X.K = K := by rfl) : CallR X (.builtin "all") (rAll K) := h ▸ cr_all hc
theorem cr_anyK (K : PySem.W.Frag) (hc : X.calm = true) (h : X.K = K := by rfl) : CallR X (.builtin "any") (rAny K) := h ▸ cr_any hc
variable {e : Expr} {f : Str} {pos : Pos} {ta : TE}
theorem pe_fldK (K : PySem.W.Frag) (he : PE X e ta) (hb : attributeBase e f X.env (eval e X.env) = eval e X.env := by rfl) (h : X.K = K := by rfl) : PE X (.Attribute e f pos) (tFld K ta f) := h ▸ pe_fld he hb
theorem pg_tupK (K : PySem.W.Frag) {es : List Expr} {k : Nat} {t : TGs} {n : Nat} (hc : X.calm = true) (h : PGs X es t)
    (hn : (assignEach es X.env).length = n := by rfl) (hst : (assignEach es X.env).findIdx? (·.1) = none := by rfl) (hK : X.K = K := by rfl) : PG X (.Tuple es k pos) (gTup K n t) := hK ▸ pg_tup hc h hn hst
theorem pi_listK (K : PySem.W.Frag) {tg : Expr} (he : PE X e ta) (h : X.K = K := by rfl) : PI X tg e (iList K ta) := h ▸ pi_list he
theorem pi_tupK (K : PySem.W.Frag) {tg : Expr} (he : PE X e ta) (h : X.K = K := by rfl) : PI X tg e (iTup K ta) := h ▸ pi_tup he
end
end G

set_option Elab.async false
set_option linter.all false
set_option maxRecDepth 100000
set_option maxHeartbeats 4000000
namespace G
open PySem PySem.Spec PyProof.Rows L2
def CXa (P : Program) : CXT := fun outer H s E u s' => ∃ w, L2.CX P w outer H s E u s'
theorem cxa_nil {P : Program} {H : Hp} {s : Shared} {e : Value} {s' : Shared} (h : CXa P [] H s (fun _ _ _ => False) e s') : False := by
  obtain ⟨w, a, B, H', cls, d, _, _, _, _, _, _, _, z⟩ := h
  exact z
/-- the law's own call -/
def sp_law (_K : PySem.W.Frag) : SpD := fun ts O P _ => ∃ (cs : List Int), ts = [.v (.scr cs)] ∧ O = [] ∧ cs.length ≤ 1000000 ∧ P (.v (.bl true)) []
theorem sp_law_len {K : PySem.W.Frag} {ts O P X} (h : sp_law K ts O P X) : ts.length = 1 := by
  obtain ⟨cs, rfl, _⟩ := h
  rfl
theorem law_lift {K : PySem.W.Frag} {H : Hp} {a : Addr} {ns : List Int} (hz : ns.length ≤ 1000000) (h : SqL K H a (ns.map V.int)) (ht : TabsK K H) : lift K (sp_law K) [.ref a] H (fun v _ => v = .bl true) fun _ _ _ => False := by
  have eh : ∀ L : List Addr, L = [] → hid L H = H := fun L e => by
    subst e
    funext a
    unfold hid
    rw [if_neg (by simp)]
  refine ⟨[], [], [], [.v (.scr ns)], fun t O => t = .v (.bl true), fun _ _ _ => False, ⟨rfl, ⟨[], rfl⟩, Ex.refl _, fun z hz => (by cases hz), List.nodup_nil, fun a h => (by cases h), fun i a o h _ => (by simp at h), ht⟩, rfl, ?_, ⟨ns, rfl, rfl, hz, rfl⟩, fun t v O' H' q _ _ r => ?_, fun _ _ _ _ _ q => q.elim⟩
  · refine ⟨.ref a, [], rfl, ⟨_, rfl, a, rfl, ?_⟩, rfl⟩
    show SqL K (hid _ H) a _
    rw [eh _ rfl]
    exact h
  · subst q
    obtain ⟨_, e, rfl⟩ := r
    exact (Option.some.inj e)
end G

set_option Elab.async false
set_option linter.all false
set_option maxRecDepth 100000
set_option maxHeartbeats 4000000
namespace G
open PySem PySem.Spec PyProof.Rows L2
/-- a def with a star parameter, by its promise over data: behind n values the rest comes as a tuple -/
def liftS (K : PySem.W.Frag) (n : Nat) (sp : SpD) : Sp := fun vs H Q E => ∃ ws rest, vs = ws ++ rest ∧ ws.length = n ∧ rest.length ≤ sizeLine ∧ ∀ p, H p = none → lift K sp (ws ++ [V.ref p]) (upd H p (.tup rest)) Q E
section
variable {P : Program} {w : World} {K : PySem.W.Frag} {mg : Str → Option Value} {base : Heap} {k : Nat} {x qual : Str} {params : Arguments} {body : List Stmt} {scope : Scope} {f : Addr} {fd : FuncData} {N ps : List Str} {pv : Str} {sp : SpD}
end
section
variable {X : Cx} {CX : CXT} {k : Nat} {f : Addr} {sp : Sp} {E : XK} {x : Str} {e : Expr} {es : List Expr} {t : TA} {p pos : Pos}
def tCallR (sp : Sp) (E : XK) (t : TA) : TE := fun σ H Q => t σ H fun vs H1 => sp vs H1 Q E
end
section
variable {K : PySem.W.Frag} {W : WX} {O : List OD} {ts : List T} {P : PT'} {X : XX} {sp : SpD} {tr : TA} {E : XK}
theorem repL_split {F : Hp} {ds : List D} {vs : List V} (h : RepL K F ds vs) (n : Nat) : RepL K F (ds.take n) (vs.take n) ∧ RepL K F (ds.drop n) (vs.drop n) := ⟨h.take n, h.drop n⟩
theorem unv_app {ds : List D} {d : D} : unv (ds.map T.v ++ [.v d]) = some (ds ++ [d]) := unv_vs (ys := [.v d]) (es := [d]) rfl
theorem w_fnS0 {n : Nat} (h : WA K W tr O ts (fun xs O1 => ∃ ds, unv xs = some ds ∧ n ≤ ds.length ∧ ds.length ≤ 1000000 ∧ sp ((ds.take n).map T.v ++ [.v (.tup (ds.drop n))]) [] (fun t _ => (∃ d, t = .v d) ∧ P t O1) (fun _ _ _ => False)) X) :
    WE K W (tCallR (liftS K n sp) E0 tr) O ts P X := fun b A σ H Q s rs kv kx =>
  h b A σ H _ s rs (fun xs vs A1 O1 H1 p1 s1 n1 r1 => by
    obtain ⟨ds, e, hn, hz, q⟩ := p1
    have r2 := r1.plain e
    have hl : vs.length = ds.length := r2.length
    obtain ⟨ra, rb⟩ := repL_split r2 n
    refine ⟨vs.take n, vs.drop n, (List.take_append_drop n vs).symm, by rw [List.length_take]; omega, Nat.le_trans (show (vs.drop n).length ≤ 1000000 by rw [List.length_drop]; omega) (Nat.le_of_ble_eq_true rfl), fun p hp => ?_⟩
    obtain ⟨s2, n2, f2⟩ := s1.lay hp (.tup (vs.drop n))
    refine lift_p (W := fun _ _ _ _ => False) (X := fun _ _ _ => False) (σ := σ) s2 (repTs_app (ys := [.v (.tup (ds.drop n))]) ⟨.ref p, [], rfl, ⟨_, rfl, p, vs.drop n, rfl, SqT.of f2, rb.ex n2.ext⟩, rfl⟩ (ra.ex n2.ext)) unv_app (fun C d H z => z) q (kv.nxt (n1.trans n2)) (fun C fs A' O' H' d z => z.elim)) kx
end
end G

set_option Elab.async false
set_option linter.all false
set_option maxRecDepth 100000
set_option maxHeartbeats 4000000
namespace G
open PySem PySem.Spec PyProof.Rows L2
def TupC (K : PySem.W.Frag) (a : Addr) (ns : List Int) : Prop := ∃ (o : Obj) (its : Array Value) (n : Nat), K.lookup a = some o ∧ o.cls = .type "tuple" ∧ o.data = .seq its n ∧ its.size ≤ sizeLine ∧ Vals (ns.map V.int) its.toList
def tupB (K : PySem.W.Frag) (a : Addr) (ns : List Int) : Bool := match K.lookup a with
  | some ⟨.type "tuple", _, .seq its _, _⟩ => Nat.ble its.size 1000 && decide (its.toList.map (fun v => match v with | .int i _ => some i | _ => none) = ns.map some)
  | _ => false
theorem vals_of : ∀ {vs : List Value} {ns : List Int}, vs.map (fun v => match v with | .int i _ => some i | _ => none) = ns.map some → Vals (ns.map V.int) vs
  | [], [], _ => .nil
  | [], _ :: _, h => by cases h
  | _ :: _, [], h => by cases h
  | v :: vs, n :: ns, h => by
    rw [List.map_cons, List.map_cons] at h
    injection h with h1 h2
    refine .cons ?_ (vals_of h2)
    cases v <;> first | cases h1 | skip
    exact ⟨_, rfl⟩
theorem tupB_ok {K : PySem.W.Frag} {a : Addr} {ns : List Int} (h : tupB K a ns = true) : TupC K a ns := by
  unfold tupB at h
  split at h
  · rename_i e
    obtain ⟨h1, h2⟩ := Bool.and_eq_true_iff.mp h
    exact ⟨_, _, _, e, rfl, rfl, Nat.le_trans (Nat.le_of_ble_eq_true h1) (Nat.le_of_ble_eq_true rfl), vals_of (of_decide_eq_true h2)⟩
  · cases h
section
variable {K : PySem.W.Frag} {W : WX} {O : List OD} {ts : List T} {P : PT'} {X : XX} {g : TG} {te : TE} {vs : List Nat}
theorem w_ctup {a : Addr} {ns : List Int} (h : TupC K a ns) (k : P (.v (.tup (nums ns))) O) : WE K W (tC (.ref a)) O ts P X := by
  obtain ⟨o, its, n, h1, h2, h3, h4, h5⟩ := h
  exact w_c (d := .tup (nums ns)) (fun H => ⟨a, ns.map V.int, rfl, .inr ⟨o, its, n, h1, h2, h3, h4, h5⟩, repL_ints⟩) k
theorem for_A {α : Type} {E : DE} {tb : TS} {xs : List α} {e : α → D} (I : Nat → List T → List OD → Prop) (h0 : I 0 ts O)
    (hs : ∀ i x ts' O', i < xs.length → xs[i]? = some x → I i ts' O' → WG K W g (.v (e x)) O' ts' (fun ts2 O2 => WS K W tb O2 ts2 { E with nx := I (i + 1), ct := I (i + 1), bk := E.nx }))
    (hd : ∀ ts' O', I xs.length ts' O' → E.nx ts' O') : ForEx K W g tb E ts (itD (xs.map e)) O :=
  for_D I h0 (fun i d ts' O' hi eq hI => by
    rw [List.getElem?_map] at eq
    cases q : xs[i]? with
    | none =>
      rw [q] at eq
      cases eq
    | some r =>
      rw [q] at eq
      have e2 : e r = d := Option.some.inj eq
      subst e2
      exact hs i r ts' O' (by rw [List.length_map] at hi; exact hi) q hI) (by rw [List.length_map]; exact hd)
theorem for_AE {α : Type} {E : DE} {tb : TS} {xs : List α} {e : α → D} (I : Nat → List T → List OD → Prop) (h0 : I 0 ts O)
    (hs : ∀ i x ts' O', i < xs.length → xs[i]? = some x → I i ts' O' → WG K W g (.v (.tup [.int (i : Nat), e x])) O' ts' (fun ts2 O2 => WS K W tb O2 ts2 { E with nx := I (i + 1), ct := I (i + 1), bk := E.nx }))
    (hd : ∀ ts' O', I xs.length ts' O' → E.nx ts' O') : ForEx K W g tb E ts (itE (xs.map e)) O :=
  for_E I h0 (fun i d ts' O' hi eq hI => by
    rw [List.getElem?_map] at eq
    cases q : xs[i]? with
    | none =>
      rw [q] at eq
      cases eq
    | some r =>
      rw [q] at eq
      have e2 : e r = d := Option.some.inj eq
      subst e2
      exact hs i r ts' O' (by rw [List.length_map] at hi; exact hi) q hI) (by rw [List.length_map]; exact hd)
def LcExT (K : PySem.W.Frag) (W : WX) (g : TG) (tt : TT) (te : TE) (vs : List Nat) (P : PT') (ts : List T) (f : Nat → Option T) (O1 : List OD) : Prop :=
  ∃ (n : Nat) (I : Nat → List D → List OD → Prop), (∀ i, i < n → f i ≠ none) ∧ f n = none ∧ I 0 [] O1 ∧ (∀ i acc O', I i acc O' → O'.length = O1.length) ∧
      (∀ i t acc O', i < n → f i = some t → I i acc O' → WG K W g t (O' ++ [.lst acc]) (wipeT ts vs) (fun ts2 O2 => WT K W tt O2 ts2 (fun c O3 =>
        (c = true → WE K W te O3 ts2 (fun y O4 => ∃ d O5, y = .v d ∧ O4 = O5 ++ [.lst acc] ∧ acc.length < sizeLine ∧ I (i + 1) (acc ++ [d]) O5) X0) ∧ (c = false → ∃ O5, O3 = O5 ++ [.lst acc] ∧ I (i + 1) acc O5)) X0)) ∧
      (∀ acc O', I n acc O' → P (.v (.lst acc)) O')
theorem w_lcF1 {wi : TI} {tt : TT} {i : Nat} (h : WI K W wi O ts (fun f O1 => LcExT K W (gName i) tt te vs P ts f O1) X) (hm : i ∈ vs) : WE K W (tLc wi (gName i) tt te vs) O ts P X := w_lc (tgt_name hm) h
/-- [f x for x in xs if p x], without effects -/
theorem lcF_A {α : Type} {tt : TT} (xs : List α) (e : α → D) (p : α → Bool) (f : α → D) (hz : xs.length ≤ 1000000)
    (hs : ∀ x acc, x ∈ xs → WG K W g (.v (e x)) (O ++ [.lst acc]) (wipeT ts vs) (fun ts2 O2 => WT K W tt O2 ts2 (fun c O3 => c = p x ∧ O3 = O ++ [.lst acc] ∧ (p x = true → WE K W te (O ++ [.lst acc]) ts2 (fun y O4 => y = .v (f x) ∧ O4 = O ++ [.lst acc]) X0)) X0))
    (hd : P (.v (.lst ((xs.filter p).map f))) O) : LcExT K W g tt te vs P ts (itD (xs.map e)) O := by
  refine ⟨xs.length, fun i acc O' => O' = O ∧ acc = ((xs.take i).filter p).map f, fun i hi => itD_ne (by rw [List.length_map]; exact hi), ?_, ⟨rfl, rfl⟩, fun i acc O' h => by rw [h.1], fun i t acc O' hi ht h => ?_, fun acc O' h => ?_⟩
  · unfold itD
    rw [List.getElem?_eq_none (by rw [List.length_map]; exact Nat.le_refl _)] <;> rfl
  · obtain ⟨rfl, rfl⟩ := h
    obtain ⟨d, hd', rfl⟩ := itD_some ht
    rw [List.getElem?_map, List.getElem?_eq_getElem hi] at hd'
    have e2 : e xs[i] = d := Option.some.inj hd'
    subst e2
    have hl : (((xs.take i).filter p).map f).length < sizeLine := by
      rw [List.length_map]
      exact Nat.lt_of_le_of_lt (List.length_filter_le _ _) (Nat.lt_of_lt_of_le (show (xs.take i).length < 1000000 by rw [List.length_take]; omega) (Nat.le_of_ble_eq_true rfl))
    have et : xs.take (i + 1) = xs.take i ++ [xs[i]] := by rw [List.take_succ, List.getElem?_eq_getElem hi] <;> rfl
    refine (hs xs[i] _ (List.getElem_mem hi)).imp fun ts2 O2 q b A σ H Q s rs kb kx => q b A σ H Q s rs (fun c A' O' H' q2 => kb c A' O' H' ?_) kx
    obtain ⟨rfl, rfl, q3⟩ := q2
    refine ⟨fun hp => (q3 hp).imp fun y O4 q4 => ?_, fun hp => ⟨_, rfl, rfl, ?_⟩⟩
    · obtain ⟨rfl, rfl⟩ := q4
      refine ⟨_, _, rfl, rfl, hl, rfl, ?_⟩
      rw [et, List.filter_append, List.map_append, List.filter_cons_of_pos hp] <;> rfl
    · rw [et, List.filter_append, List.filter_cons_of_neg (by rw [hp]; exact Bool.false_ne_true)]
      simp
  · obtain ⟨rfl, rfl⟩ := h
    rw [List.take_length]
    exact hd
end
section
variable {K : PySem.W.Frag} {W : WX} {O : List OD} {ts : List T} {P : PT'} {X : XX} {te : TE}
theorem w_catL {x y : T} {ds es : List D} (hx : LstD x O ds) (hy : LstD y O es) (hz : ds.length + es.length ≤ 1000000) (k : P (.v (.lst (ds ++ es))) O) : WR K rCat x y O P := fun b A H Q v u s r1 r2 kv => by
  obtain ⟨a, vs, rfl, h1, h2⟩ := lstD_atH hx s r1
  obtain ⟨c, us, rfl, h3, h4⟩ := lstD_atH hy s r2
  refine ⟨a, c, vs, us, rfl, rfl, h1, h3, Nat.le_trans (by rw [h2.length, h4.length]; exact hz) (Nat.le_of_ble_eq_true rfl), fun p hp => ?_⟩
  obtain ⟨s2, n2, q⟩ := s.lay hp (.lst (vs ++ us))
  exact kv _ _ A O _ k s2 n2 ⟨_, rfl, p, _, rfl, q, (h2.append h4).ex n2.ext⟩
theorem RepL.reverse {F : Hp} : ∀ {ds : List D} {vs : List V}, RepL K F ds vs → RepL K F ds.reverse vs.reverse
  | [], _, h => by
    rw [show _ = [] from h]
    exact rfl
  | d :: ds, _, h => by
    obtain ⟨v, r, e1, h1, h2⟩ := h
    subst e1
    rw [List.reverse_cons, List.reverse_cons]
    exact (RepL.reverse h2).append ⟨v, [], rfl, h1, rfl⟩
theorem w_revL (h : WE K W te O ts (fun x O1 => ∃ ds, LstD x O1 ds ∧ P (.v (.lst ds.reverse)) O1) X) : WE K W (tRevL K te) O ts P X := fun b A σ H Q s rs kv kx =>
  h b A σ H _ s rs (fun x v A1 O1 H1 p1 s1 n1 r1 => by
    obtain ⟨ds, hx, k⟩ := p1
    obtain ⟨a, vs, rfl, h1, h2⟩ := lstD_atH hx s1 r1
    refine ⟨a, vs, rfl, SqL.of h1, fun p hp => ?_⟩
    obtain ⟨s2, n2, q⟩ := s1.lay hp (.lst vs.reverse)
    exact kv _ _ A1 O1 _ k s2 (n1.trans n2) ⟨_, rfl, p, _, rfl, q, h2.reverse.ex n2.ext⟩) kx
/-- [f a b for a, b in zip(xs, ys)] -/
theorem lc_Z {g : TG} {te : TE} {vs : List Nat} {α β : Type} (xs : List α) (ys : List β) (e1 : α → D) (e2 : β → D) (f : α → β → D) (hl : xs.length = ys.length) (hz : xs.length ≤ 1000000)
    (hs : ∀ x y acc, x ∈ xs → y ∈ ys → WG K W g (.v (.tup [e1 x, e2 y])) (O ++ [.lst acc]) (wipeT ts vs) (fun ts2 O2 => WE K W te O2 ts2 (fun y' O4 => y' = .v (f x y) ∧ O4 = O ++ [.lst acc]) X0))
    (hd : P (.v (.lst (List.zipWith f xs ys))) O) : LcEx K W g te vs P ts (itZ (xs.map e1) (ys.map e2)) O := by
  refine lc_P (n := xs.length) (item := fun i => match xs[i]?, ys[i]? with | some x, some y => .v (.tup [e1 x, e2 y]) | _, _ => .no) (fun i => match xs[i]?, ys[i]? with | some x, some y => f x y | _, _ => .non) (fun i hi => ?_) ?_ hz (fun i acc hi => ?_) ?_
  · unfold itZ
    rw [List.getElem?_map, List.getElem?_map, List.getElem?_eq_getElem hi, List.getElem?_eq_getElem (show i < ys.length by omega)] <;> rfl
  · unfold itZ
    rw [List.getElem?_eq_none (by rw [List.length_map]; exact Nat.le_refl _)] <;> rfl
  · have h2 : i < ys.length := by omega
    have h := hs xs[i] ys[i] acc (List.getElem_mem hi) (List.getElem_mem h2)
    rw [List.getElem?_eq_getElem hi, List.getElem?_eq_getElem h2]
    exact h
  · have e : (List.range xs.length).map (fun i => match xs[i]?, ys[i]? with | some x, some y => f x y | _, _ => D.non) = List.zipWith f xs ys := by
      refine List.ext_getElem (by rw [List.length_map, List.length_range, List.length_zipWith]; omega) fun i h1 h2 => ?_
      rw [List.length_map, List.length_range] at h1
      rw [List.getElem_map, List.getElem_range, List.getElem_zipWith, List.getElem?_eq_getElem h1, List.getElem?_eq_getElem (show i < ys.length by omega)]
    rw [e]
    exact hd
/-- two names for a pair -/
theorem tgt_pair {n i j : Nat} {vs : List Nat} (hi : i ∈ vs) (hj : j ∈ vs) : Tgt (gTup K n (gCons (gName i) (gCons (gName j) gNil))) vs := tgt_tup (tgt_cons1 hi (tgt_cons1 hj tgt_nil))
end
theorem mul_okP {i j : Int} {a b : Nat} (ha : i.natAbs < 2 ^ a) (hb : j.natAbs < 2 ^ b) (h : a + b ≤ 999000) : CMulW i j := by
  refine wide_mul (a := a + 1) (b := b + 1) ?_ ?_ (by omega) (by omega) (by omega)
  · rw [Nat.pow_succ]; omega
  · rw [Nat.pow_succ]; omega
end G

set_option Elab.async false
set_option linter.all false
set_option maxRecDepth 100000
set_option maxHeartbeats 4000000
namespace GX
open PySem PySem.Spec PyProof.Rows L2 NdefX
section
open PySem.W PySem.Calls
variable {prog : Program} {w : World} {A : Around} {E : Value → Shared → Prop} {h : Heap} {g : Array GenState} {d : Drawn} {t : Nat} {os : OsState}
variable {nm q : Str} {C N : Addr} {bs bm : List Value} {hdct : Bool} {sn : List Str} {sub : List Value} {ab : Bool} {col : Option Bool} {dd : Option Addr} {k0 k1 k2 k3 k5 : Option Value}
end
/-- the function at f, its words by F, its class at C; ar: its first parameter -/
structure InitC (K : PySem.W.Frag) (C f cc : Addr) (F : NF) (ar : Str) : Prop where
  exc : OexC K C
  fn : ∃ oc od doc pm ctv osl, K.lookup f = some ⟨oc, od, .func (F.fd doc pm ctv), osl⟩
  code : PySem.W.codeIn K (.ref F.c) F.qual = true
  cl : F.cl = [(("__class__" : Str), cc)]
  cell : ∃ oc od osl, K.lookup cc = some ⟨oc, od, .cell (some (.ref C)), osl⟩
  file : ∃ oc od vs osl fl tf, K.lookup F.c = some ⟨oc, od, .fields vs, osl⟩ ∧ vs[2]? = some (.str fl tf)
  kp : PySem.W.keepIn K (.ref f) = true
  st : PySem.W.nsIn K cStatics "thirdparty.any" = some none
  su : PySem.W.nsIn K mainGlobals "super" = some none
  al : PySem.W.ks_superIn K C C "__init__" = some (some (.builtin "ValueError.__init__"))
  ve : PySem.W.subIn K (.ref C) (.type "ValueError") = some true
  me : PySem.W.mroIn K C (.ref C) = some true
  hp : ∃ x, (F.params.posonlyargs ++ F.params.args).head? = some x ∧ x.arg = ar
section
variable {CX : CXT} {P : Program} {w : World} {K : PySem.W.Frag} {mg : Str → Option Value} {base : Heap} {N ps : List Str} {F : NF} {f C cc : Addr} {k : Nat} {sp : Sp} {ar : Str} {tail : List Stmt} {z : Str} {kd : Nat} {p0 p1 p2 p3 p4 p5 : Pos}
end
end GX

set_option Elab.async false
set_option linter.all false
set_option maxRecDepth 100000
set_option maxHeartbeats 4000000
namespace G
open PySem PySem.Spec PyProof.Rows L2
/-- an own exception's __init__ that keeps one field, two -/
def spX1 (C : Addr) (f : Str) : Sp := fun vs H Q _ => ∃ a v, vs = [.ref a, v] ∧ H a = some (exo a C none) ∧ ∀ dx, H dx = none → dx ≠ a → Q .non (upd (upd H dx (exd dx [(f, v)])) a (exo a C (some dx)))
def spX2 (C : Addr) (f g : Str) : Sp := fun vs H Q _ => ∃ a v w, vs = [.ref a, v, w] ∧ H a = some (exo a C none) ∧ ∀ dx, H dx = none → dx ≠ a → Q .non (upd (upd (upd H dx (exd dx [(f, v)])) a (exo a C (some dx))) dx (exd dx [(g, w), (f, v)]))
section
variable {K : PySem.W.Frag} {W : WX} {O : List OD} {ts : List T} {E : DE} {te te2 : TE} {C : Addr} {f g : Str}
theorem s_raise1 (h : WE K W te O ts (fun x O' => ∃ d, x = .v d ∧ E.xe (.ref C) (some [(f, d)]) ts O') (fun C fs O' => E.xe C fs ts O')) :
    WS K W (fun _ σ H => tMkO C (spX1 C f) [] (tCons te tNil) σ H fun cls d H' => W cls d σ H') O ts E := fun b A σ H D s rs ks =>
  h b A σ H _ s rs (fun t v A' O' H' p s' n' r' => by
    obtain ⟨d, rfl, q⟩ := p
    obtain ⟨_, e, rd⟩ := r'
    cases e
    refine ⟨(show 1 ≤ 1000 by decide), fun a ha => ⟨a, v, rfl, upd_same, fun dx hdx hne => ⟨rfl, dx, [(f, v)], upd_same, ?_, ?_, ?_⟩⟩⟩
    · rw [upd_ne hne, upd_same]
    · rw [upd_ne hne] at hdx
      exact hdx
    · rw [upd_ne hne] at hdx
      have e : upd (del (upd (upd (upd H' a (exo a C none)) dx (exd dx [(f, v)])) a (exo a C (some dx))) a) dx (.xd [(f, v)]) = upd H' dx (.xd [(f, v)]) := by
        funext y
        by_cases h1 : y = dx
        · rw [h1, upd_same, upd_same]
        · rw [upd_ne h1, upd_ne h1]
          by_cases h2 : y = a
          · rw [h2, del_same, ha]
          · rw [del_ne h2, upd_ne h2, upd_ne h1, upd_ne h2]
      rw [e]
      obtain ⟨s2, n2, q2⟩ := s'.lay hdx (.xd [(f, v)])
      exact ks.xe _ _ ts σ A' O' _ (some dx) q s2 (n'.trans n2) (rs.nxt (n'.trans n2)) ⟨dx, _, rfl, q2, v, [], rfl, rd.ex n2.ext, rfl⟩) (ks.kx rs)
theorem s_raise2 (h : WE K W te O ts (fun x O1 => WE K W te2 O1 ts (fun y O' => ∃ d e, x = .v d ∧ y = .v e ∧ E.xe (.ref C) (some [(g, e), (f, d)]) ts O') (fun C fs O' => E.xe C fs ts O')) (fun C fs O' => E.xe C fs ts O')) :
    WS K W (fun _ σ H => tMkO C (spX2 C f g) [] (tCons te (tCons te2 tNil)) σ H fun cls d H' => W cls d σ H') O ts E := fun b A σ H D s rs ks =>
  h b A σ H _ s rs (fun t v A1 O1 H1 p1 s1 n1 r1 => p1 b A1 σ H1 _ s1 (rs.nxt n1) (fun t2 w A' O' H' p s' n2' r2' => by
    obtain ⟨d, e0, rfl, rfl, q⟩ := p
    have n' := n1.trans n2'
    obtain ⟨_, e, rd⟩ := r1.nxt n2'
    cases e
    obtain ⟨_, e, rw2⟩ := r2'
    cases e
    refine ⟨(show 2 ≤ 1000 by decide), fun a ha => ⟨a, v, w, rfl, upd_same, fun dx hdx hne => ⟨rfl, dx, [(g, w), (f, v)], ?_, upd_same, ?_, ?_⟩⟩⟩
    · rw [upd_ne (Ne.symm hne), upd_same]
    · rw [upd_ne hne] at hdx
      exact hdx
    · rw [upd_ne hne] at hdx
      have e : upd (del (upd (upd (upd (upd H' a (exo a C none)) dx (exd dx [(f, v)])) a (exo a C (some dx))) dx (exd dx [(g, w), (f, v)])) a) dx (.xd [(g, w), (f, v)]) = upd H' dx (.xd [(g, w), (f, v)]) := by
        funext y
        by_cases h1 : y = dx
        · rw [h1, upd_same, upd_same]
        · rw [upd_ne h1, upd_ne h1]
          by_cases h2 : y = a
          · rw [h2, del_same, ha]
          · rw [del_ne h2, upd_ne h1, upd_ne h2, upd_ne h1, upd_ne h2]
      rw [e]
      obtain ⟨s2, n2, q2⟩ := s'.lay hdx (.xd [(g, w), (f, v)])
      exact ks.xe _ _ ts σ A' O' _ (some dx) q s2 (n'.trans n2) (rs.nxt (n'.trans n2)) ⟨dx, _, rfl, q2, w, [(f, v)], rfl, rw2.ex n2.ext, v, [], rfl, rd.ex n2.ext, rfl⟩) ((ks.nxt n1).kx (rs.nxt n1))) (ks.kx rs)
end
section
variable {K : PySem.W.Frag} {W : WX} {O : List OD} {ts : List T} {P : PT'} {X : XX} {sp : SpD} {tr : TA}
/-- a call that may raise -/
theorem w_fnX (h : WA K W tr O ts (fun xs O1 => ∃ ds, unv xs = some ds ∧ sp xs [] (fun t _ => (∃ d, t = .v d) ∧ P t O1) (fun C fs _ => X C fs O1)) X) : WE K W (tCallS (lift K sp) (L2.WE W) tr) O ts P X := fun b A σ H Q s rs kv kx =>
  h b A σ H _ s rs (fun xs vs A1 O1 H1 p1 s1 n1 r1 => by
    obtain ⟨ds, e, p⟩ := p1
    exact lift_p (W := W) (σ := σ) s1 r1 e (fun C d H q => q) p (kv.nxt n1) (kx.nxt n1)) kx
def tCallRS (sp : Sp) (E : L2.St → XK) (t : TA) : TE := fun σ H Q => t σ H fun vs H1 => sp vs H1 Q (E σ)
end
section
variable {X : Cx} {CX : CXT} {k : Nat} {f : Addr} {sp : Sp} {E : L2.St → XK} {x : Str} {e : Expr} {es : List Expr} {t : TA} {p pos : Pos}
end
section
variable {K : PySem.W.Frag} {W : WX} {O : List OD} {ts : List T} {P : PT'} {X : XX} {sp : SpD} {tr : TA}
theorem w_fnSX {n : Nat} (h : WA K W tr O ts (fun xs O1 => ∃ ds, unv xs = some ds ∧ n ≤ ds.length ∧ ds.length ≤ 1000000 ∧ sp ((ds.take n).map T.v ++ [.v (.tup (ds.drop n))]) [] (fun t _ => (∃ d, t = .v d) ∧ P t O1) (fun C fs _ => X C fs O1)) X) :
    WE K W (tCallRS (liftS K n sp) (L2.WE W) tr) O ts P X := fun b A σ H Q s rs kv kx =>
  h b A σ H _ s rs (fun xs vs A1 O1 H1 p1 s1 n1 r1 => by
    obtain ⟨ds, e, hn, hz, q⟩ := p1
    have r2 := r1.plain e
    have hl : vs.length = ds.length := r2.length
    obtain ⟨ra, rb⟩ := repL_split r2 n
    refine ⟨vs.take n, vs.drop n, (List.take_append_drop n vs).symm, by rw [List.length_take]; omega, Nat.le_trans (show (vs.drop n).length ≤ 1000000 by rw [List.length_drop]; omega) (Nat.le_of_ble_eq_true rfl), fun p hp => ?_⟩
    obtain ⟨s2, n2, f2⟩ := s1.lay hp (.tup (vs.drop n))
    exact lift_p (W := W) (σ := σ) s2 (repTs_app (ys := [.v (.tup (ds.drop n))]) ⟨.ref p, [], rfl, ⟨_, rfl, p, vs.drop n, rfl, SqT.of f2, rb.ex n2.ext⟩, rfl⟩ (ra.ex n2.ext)) unv_app (fun C d H q => q) q (kv.nxt (n1.trans n2)) (kx.nxt (n1.trans n2))) kx
end
section
variable {X : Cx} {pins : List (Addr × Obj)} {σ : L2.St} {H : Hp} {s : Shared}
end
section
variable {X : Cx} {x n : Str} {c : Value} {i : Nat} {body suite : List Stmt} {b₀ : Stmt} {np pos pos' : Pos} {tb : WX → TS} {ts : Addr → Value → Option Addr → TS} {Wout : WX}
end
end G

set_option Elab.async false
set_option linter.all false
set_option maxRecDepth 100000
set_option maxHeartbeats 4000000
namespace GX
open PySem PySem.Spec PySem.Calls PyProof.Rows PySem.W
section
variable {prog : Program} {w : World} {A : Around} {E : Value → Shared → Prop} {s : Shared} {K : Frag} {x D : Addr} {ox : Obj} {od : Option Obj}
end
end GX
namespace G
open PySem PySem.Spec PyProof.Rows L2
section
variable {X : Cx} {e : Expr} {te : TE} {pos : Pos} {f : Str}
end
section
variable {K : PySem.W.Frag} {W : WX} {O : List OD} {ts : List T} {P : PT'} {X : XX} {te : TE} {E : DE}
end
end G

set_option Elab.async false
set_option linter.all false
set_option maxRecDepth 100000
set_option maxHeartbeats 4000000
namespace G
open PySem PySem.Spec PyProof.Rows L2
/-- a def's promise where no repr is under way -/
def FnRG (P : Program) (w : World) (K : PySem.W.Frag) (mg : Str → Option Value) (base : Heap) (CX : CXT) (k : Nat) (f : Addr) (sp : Sp) : Prop :=
  ∀ (A : Around) (outer : List Env) (s : Shared) (H : Hp) (us : List Value) (vs : List V) (Q : VK) (E : XK), A.guards = some [] → Room k A → Env0 P w K mg base A outer s H → Vals vs us → sp vs H Q E →
    codeAny (model P w) A (.call (.ref f) ⟨us, []⟩) (CR CX outer P w H s Q E) s
def FnG (P : Program) (w : World) (K : PySem.W.Frag) (mg : Str → Option Value) (base : Heap) (k : Nat) (f : Addr) (n : Nat) (sp : SpD) : Prop :=
  FnRG P w K mg base (L2.CX P w) k f (lift K sp) ∧ PySem.W.keepIn K (.ref f) = true
section
variable {P : Program} {w : World} {K : PySem.W.Frag} {mg : Str → Option Value} {base : Heap} {k : Nat} {x qual : Str} {params : Arguments} {body : List Stmt} {scope : Scope} {f : Addr} {fd : FuncData} {N ps : List Str} {sp : SpD}
theorem fnG (F : FunD K x qual params body scope [] [] f fd) (S : FnScope N ps scope) (len : ∀ vs H Q E, lift K sp vs H Q E → vs.length = ps.length) (hb : Binds K fd ps [])
    (h : ∀ (cdv : Value) (A : Around) (outer : List Env) (s : Shared) (H : Hp) (vs : List V) (Q : VK) (E : XK), A.guards = some [] → Room k (A.deeper (envOfC qual scope s.heap.objs.size f cdv)) → lift K sp vs H Q E →
      ∃ t, PSs (cxOf (L2.CX P w) P w K mg base N qual scope f cdv A outer s H E) body t ∧ t { nx := fun _ H' => Q .non H', rt := Q } (L2.start N vs) H) :
    FnG P w K mg base (k + 1) f ps.length sp := by
  obtain ⟨⟨oc, od, dV, kV, doc, pm, an, cdv, ct, osl, rfl, lk, hcd, hD, _⟩, kp⟩ := F
  refine ⟨fun A outer s H us vs Q E hgd hr e0 r hs => ?_, kp⟩
  have hl := len _ _ _ _ hs
  have hb' := hb s us (e0.mod.kin.keeps fun b o e => (e0.bs b o e).1) (by rw [List.append_nil, ← r.length]; exact hl)
  rw [List.append_nil] at hb'
  exact LamX.run_ofS lk hcd S hr e0 hb' r hl fun hr' => h cdv A outer s H vs Q E hgd hr' hs
end
section
variable {X : Cx} {CX : CXT} {k : Nat} {f : Addr} {sp : Sp} {E : L2.St → XK} {x : Str} {e : Expr} {es : List Expr} {t : TA} {p pos : Pos}
theorem run_fnG {pins : List (Addr × Obj)} {σ : L2.St} {H : Hp} {s : Shared} {Q : VK} {us : List Value} {vs : List V} (F : FnRG X.prog X.w X.K X.mg X.base CX k f sp) (hgd : X.A.guards = some []) (hr : Room k X.A) (hx : PassesAt CX X σ (E σ))
    (I : Inv X pins σ H s) (r : Vals vs us) (h : sp vs H Q (E σ)) : wpAny (model X.prog X.w) X.A (call (.ref f) us) (EP X pins σ Q) X.xe s := by
  have F2 : FnRG X.prog X.w X.K X.mg X.base CX k f (fun vs H Q E' => sp vs H Q E') := F
  refine wpAny_call (codeAny_mono (F2 X.A X.stack s H us vs Q (E σ) hgd hr I.env0 r h) fun r' s' hq => ?_)
  cases r' with
  | error e => exact hx pins H s e s' I hq
  | ok fl =>
    cases fl with
    | ret u => exact I.after hq
    | next => exact False.elim hq
    | brk => exact False.elim hq
    | cont => exact False.elim hq
end
section
variable {X : Cx} {CX : CXT} {k : Nat} {f : Addr} {sp : Sp} {E : XK} {x : Str} {e : Expr} {es : List Expr} {t : TA} {p pos : Pos}
/-- f(e, ..) where f does not raise -/
theorem pe_callG (F : FnRG X.prog X.w X.K X.mg X.base CX k f sp) (hgd : X.A.guards = some []) (hr : Room k X.A) (hg : Gl X x)
    (hm : X.mg x = some (.ref f)) (hk : PySem.W.keepIn X.K (.ref f) = true) (hx : Passes CX X E) (ha : PA X (e :: es) t)
    (hdb : (x == ("__debug__" : Str)) = false := by decide) (he : starEach (e :: es) X.env = (false, eval e X.env) :: starEach es X.env := by rfl)
    (hpl : (backTo pos (starEach es X.env)).any (·.1) = false := by rfl) : PE X (.Call (.Name x p) (e :: es) [] pos) (tCall sp [] E t) := by
  refine ⟨fun pins s σ H Q I h => ?_⟩
  refine wpAny_Call_Name_kw (ld_glob I hg hm ?_ hdb)
  exact PySem.W.callWith_K (h₀ := X.base) I.ok.mod.kin hk (thn (ha.run pos pins s σ H _ I h) fun us s1 ⟨vs, H1, I1, r, q⟩ => ⟨I1.kIn, run_fnG (E := fun _ => E) F hgd hr (fun pins H s e s' I c => hx pins σ H s e s' I c) I1 r (by
    have q' : sp (vs ++ []) H1 Q E := q
    rw [List.append_nil] at q'
    exact q')⟩) he hpl
end
/-- the script's list as it is first tracked, the tables empty -/
def hp0 (K : PySem.W.Frag) (a : Addr) (oa : Obj) (xs : List V) (Ts : List Addr) : Hp := fun b =>
  if b = a then (if K.lookup a = none then some (.frz oa (.lst xs)) else none) else if b ∈ Ts then some (.tbl #[]) else none
theorem law_callG {P : Program} {w : World} {K : PySem.W.Frag} {mg mb : Str → Option Value} {CX : CXT} {fa a : Addr} {cs : List (Addr × Addr)} {s₁ : Shared} {vs : List Value} {ns : List Int}
    (KX : K.In s₁.heap) (hns : s₁.heap.Ns mainGlobals mg) (hb : s₁.heap.Ns builtinsNs mb) (hbb : ∀ x : Str, x ≠ "__name__" → mb x = bootBuiltins x) (hlim : s₁.heap.NoLimit) (hg : s₁.gens = #[])
    (hT : ∀ p ∈ cs, s₁.heap.get? p.2 = some { cls := .none, data := .fields #[] }) (nT : ∀ p ∈ cs, K.lookup p.2 = none) (C : ∀ p ∈ cs, PySem.W.CodeHd s₁.heap p.1 p.2)
    (hbm : ∃ (bm : Addr) (ob : Obj), mg "__builtins__" = some (.ref bm) ∧ bm ≠ builtinsNs ∧ s₁.heap.get? bm = some ob ∧ ob.cls = .type "module" ∧ ob.dict = some builtinsNs ∧ ob.data = .plain)
    (ha : s₁.heap.get? a = some { cls := .type "list", data := .seq vs.toArray }) (hi : IntsAre vs ns) (hl : ns.length ≤ sizeLine)
    (F : ∀ (base : Heap) (H : Hp), Env0 P w K mg base callerA [] s₁ H → (∀ p ∈ cs, LamX.TabB base mg p.1 p.2) → (∀ p ∈ cs, H p.2 = some (.tbl #[])) → SqL K H a (ns.map V.int) →
      codeAny (model P w) callerA (.call (.ref fa) ⟨[.ref a], []⟩) (CR CX [] P w H s₁ (fun v _ => v = .bl true) fun _ _ _ => False) s₁)
    (hCX : ∀ H e s', CX [] H s₁ (fun _ _ _ => False) e s' → False) :
    codeAny (model P w) callerA (.call (.ref fa) ⟨[.ref a], []⟩) (fun r s' => r = .ok (.ret (.bool true)) ∧ OldK s₁.heap s'.heap ∧ s'.os = s₁.os ∧ AllBare s'.gens) s₁ := by
  have rv := vals_ints hi
  have zl : (ns.map V.int).length ≤ sizeLine := by rw [List.length_map]; exact hl
  generalize eo : ({ cls := .type "list", data := .seq vs.toArray } : Obj) = oa at ha
  have eoD : oa.data = .seq vs.toArray := by rw [← eo]
  generalize eT : cs.map (·.2) = Ts
  have inT : ∀ p ∈ cs, p.2 ∈ Ts := fun p hp => by rw [← eT]; exact List.mem_map.mpr ⟨p, hp, rfl⟩
  have ofT : ∀ b, b ∈ Ts → ∃ p ∈ cs, p.2 = b := fun b hb => by rw [← eT] at hb; exact List.mem_map.mp hb
  have isT : ∀ b, b ∈ Ts → s₁.heap.get? b = some { cls := .none, data := .fields #[] } := fun b hb => by
    obtain ⟨p, hp, e⟩ := ofT b hb
    rw [← e]
    exact hT p hp
  have aT : a ∉ Ts := fun z => by
    have q := isT a z
    rw [ha] at q
    have q2 : oa.data = Data.fields #[] := by rw [Option.some.inj q]
    rw [eoD] at q2
    cases q2
  generalize eH : hp0 K a oa (ns.map V.int) Ts = H
  have HT : ∀ b, b ∈ Ts → H b = some (.tbl #[]) := fun b hb => by
    rw [← eH]
    unfold hp0
    rw [if_neg (fun z => aT (by rw [← z]; exact hb)), if_pos hb]
  have HA : K.lookup a = none → H a = some (.frz oa (.lst (ns.map V.int))) := fun hk => by
    rw [← eH]
    unfold hp0
    rw [if_pos rfl, if_pos hk]
  have of : ∀ b u, H b = some u → (b = a ∧ K.lookup a = none ∧ u = .frz oa (.lst (ns.map V.int))) ∨ (b ∈ Ts ∧ u = .tbl #[]) := fun b u e => by
    rw [← eH] at e
    unfold hp0 at e
    by_cases h1 : b = a
    · rw [if_pos h1] at e
      by_cases h2 : K.lookup a = none
      · rw [if_pos h2] at e
        exact .inl ⟨h1, h2, (Option.some.inj e).symm⟩
      · rw [if_neg h2] at e
        cases e
    · rw [if_neg h1] at e
      by_cases h2 : b ∈ Ts
      · rw [if_pos h2] at e
        exact .inr ⟨h2, (Option.some.inj e).symm⟩
      · rw [if_neg h2] at e
        cases e
  -- an object that is neither a list nor a table is not tracked
  have off : ∀ {b : Addr} {o : Obj}, s₁.heap.get? b = some o → (∀ vs n, o.data ≠ .seq vs n) → o.data ≠ .fields #[] → H b = none := fun {b o} e h1 h2 => by
    cases q : H b with
    | none => rfl
    | some u =>
      rcases of b u q with ⟨e', _, _⟩ | ⟨e', _⟩
      · rw [e', ha] at e
        rw [← Option.some.inj e, eoD] at h1
        exact (h1 _ _ rfl).elim
      · rw [isT b e'] at e
        rw [← Option.some.inj e] at h2
        exact (h2 rfl).elim
  have kp : ∀ {b : Addr} {o : Obj}, s₁.heap.get? b = some o → (∀ vs n, o.data ≠ .seq vs n) → o.data ≠ .fields #[] → (hidT s₁.heap H).get? b = some o := fun e h1 h2 => hidT_get e (off e h1 h2)
  have nsK : ∀ {b : Addr} {m : Str → Option Value}, s₁.heap.Ns b m → (hidT s₁.heap H).Ns b m := fun {b m} ⟨o, es, ep, e, d, r⟩ =>
    ⟨o, es, ep, kp e (fun vs n z => by rw [d] at z; cases z) (fun z => by rw [d] at z; cases z), d, r⟩
  have hKb : K.In (hidT s₁.heap H) := fun b o e => hidT_get (KX b o e) (by
    cases q : H b with
    | none => rfl
    | some u =>
      rcases of b u q with ⟨e', hk, _⟩ | ⟨e', _⟩
      · rw [e', hk] at e
        cases e
      · obtain ⟨p, hp, ep⟩ := ofT b e'
        rw [← ep, nT p hp] at e
        cases e)
  have hM : L2.Mod K mg (hidT s₁.heap H) := ⟨hKb, nsK hns, ⟨mb, nsK hb, hbb⟩, let ⟨mc, h1, h2⟩ := hlim; ⟨mc, nsK h1, h2⟩⟩
  have TB : ∀ p ∈ cs, LamX.TabB (hidT s₁.heap H) mg p.1 p.2 := fun p hp => by
    have hTp := hT p hp
    refine ⟨?_, ?_, fun z => ?_⟩
    · obtain ⟨o, us, file, tf, flags, tg, inF, text, tt, e1, r1, r2, r⟩ := C p hp
      refine ⟨o, us, file, tf, flags, tg, inF, text, tt, kp e1 (fun vs n z => by rw [r2] at z; cases z) (fun z => ?_), r1, r2, r⟩
      rw [r2] at z
      have z' : us = #[] := by injection z
      rw [z'] at r
      exact absurd r.1 (by simp)
    · obtain ⟨bm, ob, b1, b2, b3, b4, b5, b6⟩ := hbm
      refine ⟨bm, ob, b1, b2, fun q => ?_, fun q => ?_, kp b3 (fun vs n z => by rw [b6] at z; cases z) (fun z => by rw [b6] at z; cases z), b4, b5, b6⟩
      · obtain ⟨o, es, ep, e, hd, _⟩ := hns
        rw [q, e] at b3
        rw [Option.some.inj b3, b6] at hd
        cases hd
      · rw [q, hTp] at b3
        rw [← Option.some.inj b3] at b6
        cases b6
    · obtain ⟨o, es, ep, e, hd, _⟩ := hns
      rw [z, hTp] at e
      rw [← Option.some.inj e] at hd
      cases hd
  have hok : HOk P w H s₁.heap := fun b u e => by
    rcases of b u e with ⟨rfl, _, rfl⟩ | ⟨hb', rfl⟩
    · exact ⟨ha, zl, vs, 0, rv, by rw [eo]; exact ha⟩
    · exact isT b hb'
  have hS : SqL K H a (ns.map V.int) := by
    cases hk : K.lookup a with
    | none => exact .inl (.inr ⟨oa, HA hk⟩)
    | some o =>
      have e := KX a o hk
      rw [ha] at e
      have e := Option.some.inj e
      rw [← e, ← eo] at hk
      exact .inr ⟨_, vs.toArray, 0, hk, rfl, rfl, rfl, by rw [List.size_toArray, hi.length]; exact hl, by simpa using rv⟩
  have e0 : Env0 P w K mg (hidT s₁.heap H) callerA [] s₁ H := ⟨rfl, hM, fun b o e => of_hidT e, Nat.le_of_eq (hidT_size _ _), trivial, fun b hb => absurd (show b ∈ ([] : List Addr) from hb) (by simp), hok, .of_eq hg⟩
  refine codeAny_mono (F _ H e0 TB (fun p hp => HT _ (inT p hp)) hS) fun r s' h => ?_
  cases r with
  | error e => exact (hCX H e s' h).elim
  | ok fl =>
    cases fl with
    | next => exact False.elim h
    | brk => exact False.elim h
    | cont => exact False.elim h
    | ret u =>
      obtain ⟨v, H', os, bare, un, hok', r', q⟩ := h
      have q' : v = .bl true := q
      subst q'
      obtain rfl : u = Value.bool true := r'
      have key : ∀ b o, b ∉ Ts → s₁.heap.get? b = some o → s'.heap.get? b = some o := fun b o nb e => by
        cases q : H b with
        | none => exact un.keep b o e q (by intro z; exact absurd (show b ∈ ([] : List Addr) from z) (by simp)) (by simp)
        | some u =>
          rcases of b u q with ⟨_, _, e2⟩ | ⟨hb', _⟩
          · rw [e2] at q
            have e3 := (hok b _ q).1
            rw [e] at e3
            have e4 := (hok' b _ (un.frzs b oa _ q)).1
            rw [Option.some.inj e3]
            exact e4
          · exact absurd hb' nb
      have grown : ∀ b, b ∈ Ts → ∃ more : Array Value, s'.heap.get? b = some { cls := .none, data := .fields more } := fun b hb' => by
        obtain ⟨more, z⟩ := un.tbls b #[] (HT b hb')
        exact ⟨_, hok' b _ z⟩
      refine ⟨rfl, ⟨fun b o e => ?_, fun b o e => ?_⟩, os, bare⟩
      · by_cases hb' : b ∈ Ts
        · obtain ⟨more, hm⟩ := grown b hb'
          obtain ⟨p, hp, ep⟩ := ofT b hb'
          rw [← ep] at e hm ⊢
          rw [hT p hp] at e
          have e := Option.some.inj e
          rw [← e]
          exact .inr (.inl ⟨((C p hp).tab (hT p hp)).isCodeTable, rfl, #[], more, rfl, by rw [Array.empty_append]; exact hm⟩)
        · exact .inl (key b o hb' e)
      · by_cases hb' : b ∈ Ts
        · obtain ⟨more, hm⟩ := grown b hb'
          exact ⟨_, hm⟩
        · exact ⟨o, key b o hb' e⟩
/-- what is known of the tables at the head's heap -/
structure TabH (K : PySem.W.Frag) (h : Heap) : Prop where
  emp : ∀ p ∈ csT K, h.get? p.1.2 = some { cls := .none, data := .fields #[] }
  out : ∀ p ∈ csT K, K.lookup p.1.2 = none
  hd : ∀ p ∈ csT K, PySem.W.CodeHd h p.1.1 p.1.2
def TabsB (K : PySem.W.Frag) (mg : Str → Option Value) (base : Heap) : Prop := ∀ p ∈ csT K, LamX.TabB base mg p.1.1 p.1.2
theorem walk_ofG {l : PySem.W.OpenLaw} {n k : Nat} {q : Program} {loose : List Str} {XP : (Str → Option Value) → Heap → Prop} {YP : World → Heap → Prop} {d : DefRec} {CX : CXT}
    (hn : l.most = some n) (hn2 : n ≤ 1000000) (hdf : d.params.defaults = []) (hr : Room k callerA)
    (F : ∀ (w : World) (mg : Str → Option Value) (fa : Addr) (h : Heap), YP w h → h.Ns mainGlobals mg → mg d.name = some (.ref fa) →
      ∃ K : PySem.W.Frag, K.In h ∧ TabH K h ∧ ∀ base : Heap, K.In base → base.Ns mainGlobals mg → TabsB K mg base → FnRG l.prog w K mg base CX k fa (lift K (sp_law K)))
    (hCX : ∀ (H : Hp) (s : Shared) (e : Value) (s' : Shared), CX [] H s (fun _ _ _ => False) e s' → False) :
    PySem.W.WalkO q loose XP YP l.row.toRowW d [] (fun f vs => PySem.call f vs) := by
  refine Att.attach_call hn hdf fun w s₀ s₁ mg mb fa o pm cd doc a vs ns G Y ho hd hcd hmg hobj hints hlen hg => ?_
  obtain ⟨K, KX, TH, hF⟩ := F w mg fa _ Y G.T.g hmg
  have hl : ns.length ≤ 1000000 := Nat.le_trans hlen hn2
  have of : ∀ p ∈ (csT K).map (·.1), ∃ q ∈ csT K, q.1 = p := fun p hp => List.mem_map.mp hp
  refine law_callG (cs := (csT K).map (·.1)) KX G.T.g G.T.b G.T.builtins G.T.nolimit hg (fun p hp => ?_) (fun p hp => ?_) (fun p hp => ?_) G.T.bmain hobj hints (Nat.le_trans hl (by decide)) (fun base H e0 TB hH hS => ?_) fun H e s' => hCX H s₁ e s'
  · obtain ⟨q, hq, rfl⟩ := of p hp
    exact TH.emp q hq
  · obtain ⟨q, hq, rfl⟩ := of p hp
    exact TH.out q hq
  · obtain ⟨q, hq, rfl⟩ := of p hp
    exact TH.hd q hq
  · refine hF base e0.mod.kin e0.mod.glob (fun q hq => TB q.1 (List.mem_map.mpr ⟨q, hq, rfl⟩)) callerA [] s₁ H [.ref a] [.ref a] _ _ rfl hr e0 (.cons rfl .nil) (law_lift hl hS fun p hp => ?_)
    obtain ⟨q, hq, rfl⟩ := List.mem_map.mp hp
    exact LamX.TabS.nil (hH q.1 (List.mem_map.mpr ⟨q, hq, rfl⟩))
/-- a plain promise is one where the guards are known, too -/
theorem fn_endG {P : Program} {w : World} {K : PySem.W.Frag} {mg : Str → Option Value} {base : Heap} {k l n : Nat} {f : Addr} {sp : SpD} (h : FnG P w K mg base k f n sp) (hk : k ≤ l) : FnRG P w K mg base (CXa P) l f (lift K sp) := fun A outer s H us vs Q E hgd hr e0 r hs =>
  codeAny_mono (h.1 A outer s H us vs Q E hgd (hr.mono hk) e0 r hs) fun r s' c => by
    cases r with
    | ok x => cases x <;> exact c
    | error e => exact ⟨w, c⟩
/-- what repr is asked of: data, or an empty dict -/
def RpV (K : PySem.W.Frag) (H : Hp) (v : V) (d : PyData) : Prop := Dp K H v d ∨ (d = .dict [] ∧ ∃ a, v = .ref a ∧ H a = some (.dK []))
def rRepr (K : PySem.W.Frag) : List V → Hp → VK → Prop := fun xs H Q => ∃ v d, xs = [v] ∧ RpV K H v d ∧ d.showable = true ∧ d.depth ≤ 100 ∧ d.shown.length ≤ sizeLine ∧ Q (.str d.shown) H
mutual
theorem dp_noDict {K : PySem.W.Frag} {H : Hp} : ∀ (d : PyData) {v : V}, Dp K H v d → d.hasDict = false
  | .none, _, _ => by simp [PyData.hasDict]
  | .bool _, _, _ => by simp [PyData.hasDict]
  | .int _, _, _ => by simp [PyData.hasDict]
  | .str _, _, _ => by simp [PyData.hasDict]
  | .list ds, _, h => by
    cases h with
    | lst _ h2 => simpa [PyData.hasDict] using dpAll_noDict ds h2
  | .tuple ds, _, h => by
    cases h with
    | tup _ h2 => simpa [PyData.hasDict] using dpAll_noDict ds h2
  | .dict _, _, h => by cases h
theorem dpAll_noDict {K : PySem.W.Frag} {H : Hp} : ∀ (ds : List PyData) {vs : List V}, DpAll K H vs ds → PyData.hasDictAll ds = false
  | [], _, _ => by simp [PyData.hasDictAll]
  | d :: ds, _, h => by
    cases h with
    | cons h1 h2 => simp [PyData.hasDictAll, dp_noDict d h1, dpAll_noDict ds h2]
end
section
variable {X : Cx} {k : Nat}
theorem call_reprG (hgd : X.A.guards = some []) (hr : Room k X.A) (K : PySem.W.Frag) (hK : X.K = K := by rfl) : CallR X (.builtin "repr") (rRepr K) := by
  subst hK
  intro pins s σ H xs us Q I r h
  obtain ⟨v, d, rfl, hd, hs, hdp, hz, q⟩ := h
  obtain ⟨u, rfl, ru⟩ := vals1 r
  have hu : X.A.units + (d.depth + 1) < cLine := by
    have := hr.un
    omega
  have fin : ∀ (a : Addr) (as : List Addr), Reads s.heap (.ref a) d as → (d.hasDict = true → sysModules ∉ as) → wpAny (model X.prog X.w) X.A (call (.builtin "repr") [.ref a]) (EP X pins σ Q) X.xe s := fun a as rd hd' =>
    repr_of_reads' rd hs hd' hgd hu (fun _ _ e => e) (fun h' t tk kp => ⟨.str d.shown, H, (I.kept kp), ⟨t, rfl⟩, q⟩) hz
  rcases hd with hd | ⟨rfl, a, rfl, ha⟩
  · cases hd with
    | non =>
      cases ru
      exact PySem.P.repr_of_none ⟨.str _, H, I.tok _, ⟨_, rfl⟩, q⟩
    | bl b =>
      cases ru
      exact PySem.P.repr_of_bool ⟨.str _, H, I.tok _, ⟨_, rfl⟩, q⟩
    | int i =>
      obtain ⟨t, rfl⟩ := ru
      exact PySem.P.repr_of_int (by simpa [PyData.showable] using hs) ⟨.str _, H, I.tok _, ⟨_, rfl⟩, q⟩
    | str x =>
      obtain ⟨t, rfl⟩ := ru
      exact PySem.P.repr_of_str ⟨.str _, H, I.tok _, ⟨_, rfl⟩, q⟩ hz
    | lst h1 h2 =>
      have hd := Dp.lst h1 h2
      obtain ⟨as, rd⟩ := Dp.reads I _ _ _ hd ru
      cases ru
      exact fin _ as rd fun z => by
        rw [dp_noDict _ hd] at z
        cases z
    | tup h1 h2 =>
      have hd := Dp.tup h1 h2
      obtain ⟨as, rd⟩ := Dp.reads I _ _ _ hd ru
      cases ru
      exact fin _ as rd fun z => by
        rw [dp_noDict _ hd] at z
        cases z
  · cases ru
    obtain ⟨_, hne, vs, kv, o, es, ep, ho, hE, hdd, _, hes, _⟩ := I.hok a _ ha
    cases kv
    have e0 : es.toList = [] := by
      cases q : es.toList with
      | nil => rfl
      | cons e r =>
        rw [q] at hes
        cases hes
    refine fin a _ (Reads.dict (kvs := []) ho hE.1 hdd (by rw [e0]; exact ReadsAll.nil) (by rw [e0]; exact ReadsAll.nil)) fun _ z => ?_
    rcases List.mem_append.mp z with z | z
    · rcases List.mem_cons.mp z with z | z
      · rw [← z] at hne
        simp at hne
      · cases z
    · cases z
end
mutual
/-- what a reader sees of it -/
def pyD : D → Option PyData
  | .non => some .none
  | .bl b => some (.bool b)
  | .int i => some (.int i)
  | .str x => some (.str x)
  | .lst ds => (pyL ds).map .list
  | .tup ds => (pyL ds).map .tuple
  | _ => none
def pyL : List D → Option (List PyData)
  | [] => some []
  | d :: ds => match pyD d, pyL ds with
    | some x, some xs => some (x :: xs)
    | _, _ => none
end
def pyT : D → Option PyData
  | .dic [] => some (.dict [])
  | d => pyD d
mutual
theorem pyD_dp {K : PySem.W.Frag} {H : Hp} : ∀ (d : D) {p : PyData} {v : V}, pyD d = some p → Rep K H d v → Dp K H v p
  | .non, _, _, e, r => by cases e; cases r; exact .non
  | .bl b, _, _, e, r => by cases e; cases r; exact .bl b
  | .int b, _, _, e, r => by cases e; cases r; exact .int b
  | .str b, _, _, e, r => by cases e; cases r; exact .str b
  | .lst ds, _, _, e, r => by
    obtain ⟨a, vs, rfl, h1, h2⟩ := r
    have e' : (pyL ds).map PyData.list = some _ := e
    cases q : pyL ds with
    | none => rw [q] at e'; cases e'
    | some xs =>
      rw [q] at e'
      cases e'
      exact .lst (SqL.of h1) (pyL_dp ds q h2)
  | .tup ds, _, _, e, r => by
    obtain ⟨a, vs, rfl, h1, h2⟩ := r
    have e' : (pyL ds).map PyData.tuple = some _ := e
    cases q : pyL ds with
    | none => rw [q] at e'; cases e'
    | some xs =>
      rw [q] at e'
      cases e'
      exact .tup h1 (pyL_dp ds q h2)
  | .ty _, _, _, e, _ => nomatch e
  | .ref _, _, _, e, _ => nomatch e
  | .ins _ _, _, _, e, _ => nomatch e
  | .dic _, _, _, e, _ => nomatch e
  | .scr _, _, _, e, _ => nomatch e
  | .ext _, _, _, e, _ => nomatch e
  | .exc _ _, _, _, e, _ => nomatch e
theorem pyL_dp {K : PySem.W.Frag} {H : Hp} : ∀ (ds : List D) {ps : List PyData} {vs : List V}, pyL ds = some ps → RepL K H ds vs → DpAll K H vs ps
  | [], _, _, e, r => by cases e; cases r; exact .nil
  | d :: ds, _, _, e, r => by
    obtain ⟨v, w, rfl, h1, h2⟩ := r
    unfold pyL at e
    cases q1 : pyD d with
    | none => rw [q1] at e; cases e
    | some x =>
      cases q2 : pyL ds with
      | none => rw [q1, q2] at e; cases e
      | some xs =>
        rw [q1, q2] at e
        cases e
        exact .cons (pyD_dp d q1 h1) (pyL_dp ds q2 h2)
end
theorem pyT_rp {K : PySem.W.Frag} {H : Hp} {d : D} {p : PyData} {v : V} (e : pyT d = some p) (r : Rep K H d v) : RpV K H v p := by
  unfold pyT at e
  split at e
  · cases e
    obtain ⟨a, ws, rfl, h1, h2⟩ := r
    have h3 : ws = [] := h2
    subst h3
    exact .inr ⟨rfl, a, rfl, h1⟩
  · exact .inl (pyD_dp d e r)
/-- d may be shown -/
structure Shows (d : D) (p : PyData) : Prop where
  py : pyT d = some p
  ok : p.showable = true
  dp : p.depth ≤ 100
  len : p.shown.length ≤ sizeLine
theorem c_repr {K : PySem.W.Frag} {O : List OD} {P : PT'} {d : D} {p : PyData} (h : Shows d p) (k : P (.v (.str p.shown)) O) : WC K (rRepr K) [.v d] O P := fun b' A H Q vs s r kv => by
  obtain ⟨v, _, rfl, ⟨_, e1, r1⟩, rfl⟩ := r
  cases e1
  exact ⟨v, p, rfl, pyT_rp h.py (Rep.ex hid_ex _ r1), h.ok, h.dp, h.len, kv _ _ A O H k s Nxt.refl ⟨_, rfl, rfl⟩⟩
end G

set_option Elab.async false
set_option linter.all false
set_option maxRecDepth 100000
set_option maxHeartbeats 4000000
namespace G
open PySem PySem.Spec PyProof.Rows L2 NdefX
/-- the only closure cell, the code object of the function at f -/
def closAt (K : PySem.W.Frag) (f : Addr) : Addr := match K.lookup f with
  | some ⟨_, _, .func fd, _⟩ => (match fd.closure with
    | [(_, c)] => c
    | _ => 0)
  | _ => 0
def codeAt (K : PySem.W.Frag) (f : Addr) : Addr := match K.lookup f with
  | some ⟨_, _, .func fd, _⟩ => (match fd.code with
    | .ref c => c
    | _ => 0)
  | _ => 0
structure ExD where
  cls : Str
  qual : Str
  params : Arguments
  body : List Stmt
  scope : Scope
  file : Str
  fs : List Str
def ExD.f (K : PySem.W.Frag) (d : ExD) : Addr := He.ma K (He.ga K d.cls) "__init__"
abbrev FnE : Type := Option (Str × Str × Arguments × FuncBody × Scope × Addr × List Str × Addr)
def fnE (K : PySem.W.Frag) (f : Addr) : FnE := match K.lookup f with
  | some ⟨_, _, .func fd, _⟩ => some (fd.name, fd.qualname, fd.params, fd.body, fd.scope, fd.globals, fd.closure.map (·.1), fd.builtins)
  | _ => none
def ExD.val (d : ExD) : FnE := some ("__init__", d.qual, d.params, .stmts d.body, d.scope, mainGlobals, ["__class__"], builtinsNs)
def ExD.nf (K : PySem.W.Frag) (d : ExD) : NF := ⟨"__init__", d.qual, d.params, d.body, d.scope, [("__class__", closAt K (d.f K))], codeAt K (d.f K)⟩
def noneB : Value → Bool
  | .none => true
  | _ => false
theorem noneB_ok {v : Value} (h : noneB v = true) : v = .none := by
  cases v with
  | none => rfl
  | _ => cases h
def refB : Value → Bool
  | .ref _ => true
  | _ => false
def funB (K : PySem.W.Frag) (f : Addr) : Bool := match K.lookup f with
  | some ⟨_, _, .func fd, _⟩ => noneB fd.defaults && (noneB fd.kwdefaults && (decide (fd.annotations = none) && refB fd.code))
  | _ => false
theorem fun_of {K : PySem.W.Frag} {d : ExD} (e : fnE K (d.f K) = d.val) (c : funB K (d.f K) = true) : ∃ oc od doc pm ctv osl, K.lookup (d.f K) = some ⟨oc, od, .func ((d.nf K).fd doc pm ctv), osl⟩ := by
  unfold fnE at e
  unfold funB at c
  unfold ExD.nf closAt codeAt
  cases q : K.lookup (d.f K) with
  | none =>
    rw [q] at c
    cases c
  | some o =>
    obtain ⟨oc, od, dt, osl⟩ := o
    rw [q] at c e
    cases dt with
    | func fd =>
      obtain ⟨n1, n2, n3, n4, n5, n6, n7, n8, n9, n10, n11, n12, n13, n14, n15⟩ := fd
      have e2 : (some (n1, n2, n3, n4, n5, n6, n7.map (·.1), n15) : FnE) = (some (("__init__" : Str), d.qual, d.params, FuncBody.stmts d.body, d.scope, mainGlobals, [("__class__" : Str)], builtinsNs) : FnE) := e
      simp only [Option.some.injEq, Prod.mk.injEq] at e2
      obtain ⟨h1, h2, h3, h4, h5, h6, h7, h8⟩ := e2
      have c2 : (noneB n8 && (noneB n9 && (decide (n12 = none) && refB n13))) = true := c
      obtain ⟨k1, c2⟩ := He.ba c2
      obtain ⟨k2, c2⟩ := He.ba c2
      obtain ⟨k3, k4⟩ := He.ba c2
      have k1 := noneB_ok k1
      have k2 := noneB_ok k2
      have k3 := of_decide_eq_true k3
      obtain ⟨c0, k4⟩ : ∃ c0, n13 = .ref c0 := by
        cases n13 with
        | ref c0 => exact ⟨c0, rfl⟩
        | _ => cases k4
      obtain ⟨cc, k5⟩ : ∃ cc, n7 = [(("__class__" : Str), cc)] := by
        cases n7 with
        | nil => cases h7
        | cons p r =>
          cases r with
          | nil =>
            obtain ⟨p1, p2⟩ := p
            have z : p1 = ("__class__" : Str) := by simpa using h7
            exact ⟨p2, by rw [z]⟩
          | cons _ _ => simp at h7
      subst h1 h2 h3 h4 h5 h6 h8 k1 k2 k3 k4 k5
      exact ⟨oc, od, n10, n11, n14, osl, rfl⟩
    | _ => cases c
def oexB (K : PySem.W.Frag) (C : Addr) : Bool := match K.lookup C with
  | some ⟨.type "type", _, .cls cd, sl⟩ => (match cd.mro, sl.toList with
    | .ref C' :: bm, [_, _, _, _, some (.builtin n), _] => C' == C && n == "ValueError.__new__" && !cd.hasDel && cd.hasDict && PySem.HandSPX.refsVE bm
    | _, _ => false)
  | _ => false
theorem oex_of {K : PySem.W.Frag} {C : Addr} (q : oexB K C = true) : ∃ nm qn N bs bm sn sub ab col dd k0 k1 k2 k3 k5, K.lookup C = some (excClassObj nm qn C N bs bm true sn sub ab col dd k0 k1 k2 k3 k5 "ValueError.__new__") ∧ PySem.HandSPX.refsVE bm = true := by
  unfold oexB at q
  split at q
  · rename_i dd cd sl ho
    split at q
    · rename_i C' bm k0 k1 k2 k3 n k5 hm hs
      simp only [Bool.and_eq_true, beq_iff_eq, Bool.not_eq_true'] at q
      obtain ⟨⟨⟨⟨rfl, rfl⟩, hdel⟩, hd0⟩, ht⟩ := q
      obtain ⟨nm, bs, mro, ns, qn, hd, sn, sub, ab, col, del⟩ := cd
      dsimp only at hm hdel hd0
      subst hm hdel hd0
      have hsl : sl = #[k0, k1, k2, k3, some (.builtin "ValueError.__new__"), k5] := by
        obtain ⟨l⟩ := sl
        simp only at hs
        rw [hs]
      subst hsl
      exact ⟨nm, qn, ns, bs, bm, sn, sub, ab, col, dd, k0, k1, k2, k3, k5, ho, ht⟩
    · cases q
  · cases q
/-- the class of an own exception -/
structure ExK (K : PySem.W.Frag) (C : Addr) : Prop where
  oex : OexC K C
  exc : ExcC K C
  xf : XfC K C
def exkB (K : PySem.W.Frag) (C : Addr) : List Bool := [oexB K C, decide (PySem.W.findIn K (.ref C) "__setattr__" = some (some (.builtin "object.__setattr__"))), decide (PySem.W.subIn K (.ref C) (.type "BaseException") = some true), decide (PySem.W.typeIn K (.ref C) = some (.type "type")), PySem.W.keepIn K (.ref C),
  decide (PySem.W.findIn K (.ref C) "__getattribute__" = some (some (.builtin "BaseException.__getattribute__"))), decide (PySem.W.findIn K (.ref C) "__getattr__" = some none), PySem.W.hasDictIn K C, decide (PySem.W.findIn K (.ref C) "__class__" = some (some (.builtin "object.__class__"))),
  decide (PySem.W.specialIn K (.builtin "object.__class__") "__get__" = some (some (.builtin "getset_descriptor.__get__"))), decide (PySem.W.takesIn K (.builtin "object.__class__") = some true), decide (PySem.W.mroIn K C (.type "object") = some true)]
theorem exk_ok {K : PySem.W.Frag} {C : Addr} (h : (exkB K C).all id = true) : ExK K C := by
  have g : ∀ i b, (exkB K C)[i]? = some b → b = true := fun i b hb => List.all_eq_true.mp h b (List.mem_of_getElem? hb)
  exact ⟨⟨oex_of (g 0 _ rfl), of_decide_eq_true (g 1 _ rfl), of_decide_eq_true (g 2 _ rfl), of_decide_eq_true (g 3 _ rfl), g 4 _ rfl⟩,
    ⟨of_decide_eq_true (g 5 _ rfl), of_decide_eq_true (g 6 _ rfl), of_decide_eq_true (g 2 _ rfl), g 7 _ rfl, of_decide_eq_true (g 8 _ rfl), of_decide_eq_true (g 9 _ rfl), of_decide_eq_true (g 10 _ rfl), of_decide_eq_true (g 11 _ rfl)⟩,
    ⟨of_decide_eq_true (g 5 _ rfl), of_decide_eq_true (g 6 _ rfl), of_decide_eq_true (g 2 _ rfl), g 7 _ rfl⟩⟩
def cellB (K : PySem.W.Frag) (cc C : Addr) : Bool := match K.lookup cc with
  | some ⟨_, _, .cell (some (.ref a)), _⟩ => decide (a = C)
  | _ => false
theorem cell_of {K : PySem.W.Frag} {cc C : Addr} (h : cellB K cc C = true) : ∃ oc od osl, K.lookup cc = some ⟨oc, od, .cell (some (.ref C)), osl⟩ := by
  unfold cellB at h
  split at h
  · rename_i oc od a osl q
    exact ⟨oc, od, osl, by rw [← of_decide_eq_true h]; exact q⟩
  · cases h
def fileB (K : PySem.W.Frag) (c : Addr) (file : Str) : Bool := match K.lookup c with
  | some ⟨_, _, .fields vs, _⟩ => (match (vs[2]? : Option Value) with
    | some (.str fl _) => decide (fl = file)
    | _ => false)
  | _ => false
theorem file_of {K : PySem.W.Frag} {c : Addr} {file : Str} (h : fileB K c file = true) : ∃ oc od vs osl tf, K.lookup c = some ⟨oc, od, .fields vs, osl⟩ ∧ vs[2]? = some (.str file tf) := by
  unfold fileB at h
  split at h
  · rename_i oc od vs osl q
    split at h
    · rename_i fl tf hv
      exact ⟨oc, od, vs, osl, tf, q, by rw [← of_decide_eq_true h]; exact hv⟩
    · cases h
  · cases h
/-- all that is asked of an own exception with an __init__ of its own -/
def ExD.oks (K : PySem.W.Frag) (d : ExD) : List Bool := [(exkB K (He.ga K d.cls)).all id, funB K (d.f K), PySem.W.codeIn K (.ref (codeAt K (d.f K))) d.qual, cellB K (closAt K (d.f K)) (He.ga K d.cls), fileB K (codeAt K (d.f K)) d.file, PySem.W.keepIn K (.ref (d.f K)),
  decide (PySem.W.nsIn K cStatics "thirdparty.any" = some none), decide (PySem.W.nsIn K mainGlobals "super" = some none), decide (PySem.W.ks_superIn K (He.ga K d.cls) (He.ga K d.cls) "__init__" = some (some (.builtin "ValueError.__init__"))), decide (PySem.W.subIn K (.ref (He.ga K d.cls)) (.type "ValueError") = some true),
  decide (PySem.W.mroIn K (He.ga K d.cls) (.ref (He.ga K d.cls)) = some true), decide (PySem.W.findIn K (.ref (He.ga K d.cls)) "__init__" = some (some (.ref (d.f K)))), decide (PySem.W.typeIn K (.ref (d.f K)) = some (.type "function")), d.fs.all fun f => decide (PySem.W.findIn K (.ref (He.ga K d.cls)) f = some none)]
structure ExOk (K : PySem.W.Frag) (d : ExD) (ar : Str) : Prop where
  k : ExK K (He.ga K d.cls)
  init : GX.InitC K (He.ga K d.cls) (d.f K) (closAt K (d.f K)) (d.nf K) ar
  file : ∃ oc od vs osl tf, K.lookup (d.nf K).c = some ⟨oc, od, .fields vs, osl⟩ ∧ vs[2]? = some (.str d.file tf)
  iC : PySem.W.findIn K (.ref (He.ga K d.cls)) "__init__" = some (some (.ref (d.f K)))
  tI : PySem.W.typeIn K (.ref (d.f K)) = some (.type "function")
  no : ∀ f ∈ d.fs, PySem.W.findIn K (.ref (He.ga K d.cls)) f = some none
theorem ExOk.of {K : PySem.W.Frag} {d : ExD} {ar : Str} (h : (d.oks K).all id = true) (e : fnE K (d.f K) = d.val) (hp : ∃ x, (d.params.posonlyargs ++ d.params.args).head? = some x ∧ x.arg = ar) : ExOk K d ar := by
  have g : ∀ i b, (d.oks K)[i]? = some b → b = true := fun i b hb => List.all_eq_true.mp h b (List.mem_of_getElem? hb)
  have k := exk_ok (g 0 _ rfl)
  have hf := file_of (g 4 _ rfl)
  refine ⟨k, ⟨k.oex, fun_of e (g 1 _ rfl), g 2 _ rfl, rfl, cell_of (g 3 _ rfl), ?_, g 5 _ rfl, of_decide_eq_true (g 6 _ rfl), of_decide_eq_true (g 7 _ rfl), of_decide_eq_true (g 8 _ rfl), of_decide_eq_true (g 9 _ rfl), of_decide_eq_true (g 10 _ rfl), hp⟩, hf, of_decide_eq_true (g 11 _ rfl), of_decide_eq_true (g 12 _ rfl), fun f hm => ?_⟩
  · obtain ⟨oc, od, vs, osl, tf, h1, h2⟩ := hf
    exact ⟨oc, od, vs, osl, d.file, tf, h1, h2⟩
  · have z := List.all_eq_true.mp (g 13 _ rfl) f hm
    exact of_decide_eq_true z
/-- what is asked of the program itself -/
structure POk (P : Program) (file : Str) : Prop where
  file : P.main.file = file
  sup : (P.main.scope.names.lookup ("super" : Str)).isSome = false
/-- {} -/
theorem w_dic0 {K : PySem.W.Frag} {W : WX} {O : List OD} {ts : List T} {P : PT'} {X : XX} (k : P (.v (.dic [])) O) : WE K W tDNewK O ts P X := fun b A σ H Q s rs kv kx => fun a ha => by
  obtain ⟨s2, n2, q2⟩ := s.lay ha (.dK [])
  exact kv _ _ A O _ k s2 n2 ⟨_, rfl, a, [], rfl, q2, rfl⟩
section
variable {X : Cx}
def KwB (K : PySem.W.Frag) (fd : FuncData) (ps : List Str) : Prop := ∀ (s : Shared) (ws : List Value), K.In s.heap → ws.length = ps.length → BindsTo s fd ⟨[], ps.zip ws⟩ (ps.zip ws)
theorem kwB {K : PySem.W.Frag} {x qual : Str} {params : Arguments} {body : List Stmt} {scope : Scope} {f : Addr} {fd fd2 : FuncData} {ps : List Str} (F : FunD K x qual params body scope [] [] f fd) (lk : LkF K f fd2)
    (h : ∀ (kV doc pm : Value) (an : Option Addr) (cdv ct : Value) (ws : List Value), ws.length = ps.length → bindArgs (PySem.W.fnOf x qual params body scope .none kV doc pm an cdv ct) ⟨[], ps.zip ws⟩ = pure (ps.zip ws)) : KwB K fd2 ps := by
  obtain ⟨oc2, od2, osl2, e2⟩ := lk
  obtain ⟨oc, od, dV, kV, doc, pm, an, cdv, ct, osl, rfl, lk, hcd, hD, hK⟩ := F.ex
  rw [lk] at e2
  injection e2 with e2
  injection e2 with _ _ e2
  injection e2 with e2
  subst e2
  rcases hD with ⟨_, rfl⟩ | ⟨z, _⟩
  · exact fun s ws _ hl => BindsTo.of_eq (h kV doc pm an cdv ct ws hl)
  · exact absurd rfl z
variable {CX : CXT} {k : Nat} {f : Addr} {fd : FuncData} {ps : List Str} {sp : Sp} {E : XK} {x : Str} {kws : List Keyword} {tk : TA} {p pos : Pos}
end
end G

set_option Elab.async false
set_option linter.all false
set_option maxRecDepth 100000
set_option maxHeartbeats 4000000
namespace G
open PySem PySem.Spec PyProof.Rows L2 LamX
section
variable {X : Cx} {pins : List (Addr × Obj)} {σ : L2.St} {H HZ : Hp} {s s1 : Shared}
end
/-- the def that got the lambda: its body's reading, whatever the lambda's is -/
def GivesS (X : Cx) (Ng : List Str) (x : Str) (sg : Scope) (g : Addr) (cdg : Value) (bg : List Stmt) (a : Str) (th : (WX → TE) → TS) : Prop :=
  ∀ (s : Shared) (H : Hp) (ta : WX → TE),
    (∀ (W : WX) (pn : List (Addr × Obj)) (xe : Value → Shared → Prop) (p1 p2 : Pos), Takes ((cxOf C8.CX0 X.prog X.w X.K X.mg X.base Ng x sg g cdg X.A X.stack s H C8.E0).tr pn xe) W →
      PE ((cxOf C8.CX0 X.prog X.w X.K X.mg X.base Ng x sg g cdg X.A X.stack s H C8.E0).tr pn xe) (.Call (.Name a p1) [] [] p2) (ta W)) →
    PSs (cxOf C8.CX0 X.prog X.w X.K X.mg X.base Ng x sg g cdg X.A X.stack s H C8.E0).nox bg (th ta)
section
variable {X : Cx}
end
section
variable {K : PySem.W.Frag} {W : WX} {O : List OD} {ts ts0 : List T} {P : PT'} {X : XX} {t : XK → TE} {σ0 : L2.St} {f c' : Addr} {q : Str} {i : Nat}
end
/-- f's code object, its table, the name of its lambdas -/
structure LamF (K : PySem.W.Frag) (f : Addr) (q : Str) (P : Addr) : Prop where
  cs : ((codeAt K f, P), q) ∈ csT K
  un : ∀ p ∈ tabT K, p.1 = P → p.2 = q
theorem LamF.tab {K : PySem.W.Frag} {f : Addr} {q : Str} {P : Addr} (h : LamF K f q P) : (P, q) ∈ tabT K := List.mem_map.mpr ⟨_, h.cs, rfl⟩
/-- the tables at the head: in the part's words -/
def codeHdB (K : PySem.W.Frag) (c P : Addr) : Bool := match K.lookup c with
  | some ⟨cl, _, .fields vs, _⟩ => decide (cl = .type "code") && (decide ((vs[11]? : Option Value) = some (.ref P)) && ((match vs.getD 18 .none with
    | .str _ _ => true
    | _ => false) && ((match vs.getD 7 .none with
    | .int _ _ => true
    | _ => false) && ((match vs.getD 9 .none with
    | .bool _ => true
    | _ => false) && ((match vs.getD 10 .none with
    | .int _ _ => true
    | _ => false) && !decide (c = P))))))
  | _ => false
theorem codeHdB_ok {K : PySem.W.Frag} {h : Heap} {c P : Addr} (X : K.In h) (e : codeHdB K c P = true) : PySem.W.CodeHd h c P := by
  unfold codeHdB at e
  split at e
  · rename_i cl od vs osl ho
    obtain ⟨h1, e⟩ := He.ba e
    obtain ⟨h2, e⟩ := He.ba e
    obtain ⟨h3, e⟩ := He.ba e
    obtain ⟨h4, e⟩ := He.ba e
    obtain ⟨h5, e⟩ := He.ba e
    obtain ⟨h6, h7⟩ := He.ba e
    have h1 := of_decide_eq_true h1
    have h2 := of_decide_eq_true h2
    have g11 : vs.getD 11 .none = .ref P := by
      rw [Array.getD_eq_getD_getElem?, h2] <;> rfl
    obtain ⟨file, tf, h3⟩ : ∃ file tf, vs.getD 18 .none = .str file tf := by
      cases q : vs.getD 18 .none with
      | str a b => exact ⟨a, b, rfl⟩
      | _ => rw [q] at h3; cases h3
    obtain ⟨flags, tg, h4⟩ : ∃ file tf, vs.getD 7 .none = .int file tf := by
      cases q : vs.getD 7 .none with
      | int a b => exact ⟨a, b, rfl⟩
      | _ => rw [q] at h4; cases h4
    obtain ⟨inF, h5⟩ : ∃ inF, vs.getD 9 .none = .bool inF := by
      cases q : vs.getD 9 .none with
      | bool a => exact ⟨a, rfl⟩
      | _ => rw [q] at h5; cases h5
    obtain ⟨text, tt, h6⟩ : ∃ file tf, vs.getD 10 .none = .int file tf := by
      cases q : vs.getD 10 .none with
      | int a b => exact ⟨a, b, rfl⟩
      | _ => rw [q] at h6; cases h6
    refine ⟨_, vs, file, tf, flags, tg, inF, text, tt, X _ _ ho, h1, rfl, h2, g11, h3, h4, h5, h6, fun z => ?_⟩
    rw [decide_eq_true z] at h7
    cases h7
  · cases e
/-- looked at where the heap's objects are at hand -/
def tabsB (g : Addr → Option Obj) (K : PySem.W.Frag) : Bool := (csT K).all fun p => codeHdB K p.1.1 p.1.2 && ((K.lookup p.1.2).isNone && (match g p.1.2 with
  | some o => He.emptyTab o
  | none => false))
theorem tabsB_ok {K : PySem.W.Frag} {h : Heap} (X : K.In h) (e : tabsB h.get? K = true) : TabH K h := by
  have key : ∀ p ∈ csT K, codeHdB K p.1.1 p.1.2 = true ∧ K.lookup p.1.2 = none ∧ h.get? p.1.2 = some { cls := .none, data := .fields #[] } := fun p hp => by
    obtain ⟨h1, h2⟩ := He.ba (List.all_eq_true.mp e p hp)
    obtain ⟨h3, h4⟩ := He.ba h2
    refine ⟨h1, by simpa using h3, ?_⟩
    cases q : h.get? p.1.2 with
    | none => rw [q] at h4; cases h4
    | some o =>
      rw [q] at h4
      rw [He.emptyTab_eq h4]
  exact ⟨fun p hp => (key p hp).2.2, fun p hp => (key p hp).2.1, fun p hp => codeHdB_ok X (key p hp).1⟩
theorem TabH.keeps {K : PySem.W.Frag} {h h' : Heap} (t : TabH K h) (k : ∀ b o, h.get? b = some o → h'.get? b = some o) : TabH K h' := ⟨fun p hp => k _ _ (t.emp p hp), t.out, fun p hp => (t.hd p hp).keeps k⟩
def KwR (K : PySem.W.Frag) (fd : FuncData) (ps : List Str) : Prop := ∀ (s : Shared) (ws : List Value), K.In s.heap → ws.length = ps.length → BindsTo s fd ⟨[], ps.reverse.zip ws⟩ (ps.zip ws.reverse)
theorem kwR {K : PySem.W.Frag} {x qual : Str} {params : Arguments} {body : List Stmt} {scope : Scope} {f : Addr} {fd fd2 : FuncData} {ps : List Str} (F : FunD K x qual params body scope [] [] f fd) (lk : LkF K f fd2)
    (h : ∀ (kV doc pm : Value) (an : Option Addr) (cdv ct : Value) (ws : List Value), ws.length = ps.length → bindArgs (PySem.W.fnOf x qual params body scope .none kV doc pm an cdv ct) ⟨[], ps.reverse.zip ws⟩ = pure (ps.zip ws.reverse)) : KwR K fd2 ps := by
  obtain ⟨oc2, od2, osl2, e2⟩ := lk
  obtain ⟨oc, od, dV, kV, doc, pm, an, cdv, ct, osl, rfl, lk, hcd, hD, hK⟩ := F.ex
  rw [lk] at e2
  injection e2 with e2
  injection e2 with _ _ e2
  injection e2 with e2
  subst e2
  rcases hD with ⟨_, rfl⟩ | ⟨z, _⟩
  · exact fun s ws _ hl => BindsTo.of_eq (h kV doc pm an cdv ct ws hl)
  · exact absurd rfl z
def tCallV (sp : Sp) (E : XK) (t : TA) : TE := fun σ H Q => t σ H fun zs H1 => ∃ v u, zs = [v, u] ∧ sp [u, v] H1 Q E
section
variable {X : Cx} {CX : CXT} {k : Nat} {f : Addr} {fd : FuncData} {ps : List Str} {sp : Sp} {E : XK} {x : Str} {kws : List Keyword} {tk : TA} {p pos : Pos}
end
section
variable {K : PySem.W.Frag} {W : WX} {O : List OD} {ts : List T} {P : PT'} {X : XX} {sp : SpD} {tr : TA}
theorem w_fnV (h : WA K W tr O ts (fun xs O1 => ∃ d e, xs = [.v d, .v e] ∧ sp [.v e, .v d] [] (fun t _ => (∃ d, t = .v d) ∧ P t O1) (fun _ _ _ => False)) X) : WE K W (tCallV (lift K sp) E0 tr) O ts P X := fun b A σ H Q s rs kv kx =>
  h b A σ H _ s rs (fun xs vs A1 O1 H1 p1 s1 n1 r1 => by
    obtain ⟨d, e, rfl, p⟩ := p1
    obtain ⟨v, _, rfl, r2, u, _, rfl, r3, rfl⟩ := r1
    exact ⟨v, u, rfl, lift_p (W := fun _ _ _ _ => False) (X := fun _ _ _ => False) (σ := σ) s1 (xs := [.v e, .v d]) ⟨u, _, rfl, r3, v, _, rfl, r2, rfl⟩ rfl (fun C d H z => z) p (kv.nxt n1) (fun C fs A' O' H' d z => z.elim)⟩) kx
end
end G

set_option Elab.async false
set_option linter.all false
set_option maxRecDepth 100000
set_option maxHeartbeats 4000000
namespace G
open PySem PySem.Spec PyProof.Rows L2
end G

set_option Elab.async false
set_option linter.all false
set_option maxRecDepth 100000
set_option maxHeartbeats 4000000
namespace G
open PySem PySem.Spec PyProof.Rows L2
section
variable {K : PySem.W.Frag} {W : WX} {O : List OD} {ts : List T} {P : PT'} {X : XX} {g : TG} {te : TE} {vs : List Nat}
end
theorem cutD_drop {xs : List D} {n : Nat} (h : n ≤ xs.length) : cutD xs (some (n : Int)) none = xs.drop n := by
  unfold cutD
  rw [HT.sIx_none, HT.sIx_nat, Nat.min_eq_left h, List.take_of_length_le (by rw [List.length_drop]; exact Nat.le_refl _)]
end G

set_option Elab.async false
set_option linter.all false
set_option maxRecDepth 100000
set_option maxHeartbeats 4000000
namespace G
open PySem PySem.Spec PyProof.Rows L2
section
variable {K : PySem.W.Frag} {W : WX} {O : List OD} {ts : List T} {P : PT'} {X : XX} {sp : SpD} {tr : TA} {E : XK}
end
end G
namespace My2
open PySem PySem.W PyProof.Rows
section
variable {pr : Program} {wo : World} {B : Around} {Er : Value → Shared → Prop} {st : Shared} {K : Frag} {a cl lo me : Addr} {base : Heap} {nsm : Str → Option Value} {oa : Obj} {da : Option Obj}
end
end My2

set_option Elab.async false
set_option linter.all false
set_option maxRecDepth 100000
set_option maxHeartbeats 4000000
namespace My2
open PySem PySem.W PyProof.Rows Builtin
section
variable {pr : Program} {wo : World} {B : Around} {Er : Value → Shared → Prop} {st : Shared} {K : Frag} {a cl lo me : Addr} {base : Heap} {nsm : Str → Option Value} {oa : Obj} {da : Option Obj}
end
end My2

set_option Elab.async false
set_option linter.all false
set_option maxRecDepth 100000
set_option maxHeartbeats 4000000
namespace G
open PySem PySem.Spec PyProof.Rows L2
def tCallI (C : Addr) (sp : Sp) (E : XK) (tf : TE) (t : TA) : TE := fun σ H Q => tf σ H fun y H1 => ∃ a, y = V.ref a ∧ t σ H1 fun vs H2 => (∃ dx fs, H2 a = some (.ins C dx fs)) ∧ sp (V.ref a :: vs) H2 Q E
section
variable {X : Cx} {CX : CXT} {k : Nat} {C g : Addr} {sp : Sp} {E : XK} {m : Str}
end
section
variable {K : PySem.W.Frag} {W : WX} {O : List OD} {ts : List T} {P : PT'} {X : XX} {sp : SpD} {tr : TA} {ta : TE} {C : Addr} {fs : List (Str × D)}
theorem rep_ins {b : Bs} {A : List Addr} {H : Hp} {v : V} (s : StO K b A O H) (r : RepT K (Fz b A O H) A (.v (.ins C fs)) (some v)) : ∃ a dx vs, v = .ref a ∧ H a = some (.ins C dx vs) := by
  obtain ⟨a, dx, vs, e, h, _⟩ := insD_at insD_v s r
  exact ⟨a, dx, vs, e, h⟩
theorem one_rep {F : Hp} {A : List Addr} {d : D} {v : V} (r1 : RepT K F A (.v d) (some v)) : RepTs K F A [.v d] [v] := ⟨v, [], rfl, r1, rfl⟩
/-- f(..), f an instance -/
theorem w_callI (h : WE K W ta O ts (fun x O1 => ∃ fs, x = .v (.ins C fs) ∧ WA K W tr O1 ts (fun xs O2 => ∃ ds, unv xs = some ds ∧ sp (.v (.ins C fs) :: xs) [] (fun t _ => (∃ d, t = .v d) ∧ P t O2) (fun _ _ _ => False)) X) X) :
    WE K W (tCallI C (lift K sp) E0 ta tr) O ts P X := fun b A σ H Q s rs kv kx =>
  h b A σ H _ s rs (fun x v A1 O1 H1 p1 s1 n1 r1 => by
    obtain ⟨fs, rfl, p⟩ := p1
    obtain ⟨a, dx, vs, rfl, h1⟩ := rep_ins s1 r1
    refine ⟨a, rfl, p b A1 σ H1 _ s1 (rs.nxt n1) (fun xs us A2 O2 H2 p2 s2 n2 r2 => ?_) (kx.nxt n1)⟩
    obtain ⟨ds, e, q⟩ := p2
    obtain ⟨a', dx', vs', e', h2⟩ := rep_ins s2 (r1.nxt n2)
    cases e'
    exact ⟨⟨dx', vs', h2⟩, lift_p (W := fun _ _ _ _ => False) (X := fun _ _ _ => False) (σ := σ) s2 (xs := .v (.ins C fs) :: xs) (ds := .ins C fs :: ds) ⟨.ref a, us, rfl, r1.nxt n2, r2⟩ (by show (unv xs).map _ = _; rw [e] <;> rfl) (fun _ _ _ z => z) q (kv.nxt (n1.trans n2)) fun _ _ _ _ _ _ z => z.elim⟩) kx
/-- e.f, a property -/
theorem w_prop (h : WE K W ta O ts (fun x O1 => ∃ fs, x = .v (.ins C fs) ∧ sp [.v (.ins C fs)] [] (fun t _ => (∃ d, t = .v d) ∧ P t O1) (fun _ _ _ => False)) X) :
    WE K W (tProp C (lift K sp) [] E0 ta) O ts P X := fun b A σ H Q s rs kv kx =>
  h b A σ H _ s rs (fun x v A1 O1 H1 p1 s1 n1 r1 => by
    obtain ⟨fs, rfl, p⟩ := p1
    obtain ⟨a, dx, vs, rfl, h1⟩ := rep_ins s1 r1
    exact ⟨a, dx, vs, rfl, h1, lift_p (W := fun _ _ _ _ => False) (X := fun _ _ _ => False) (σ := σ) s1 (one_rep r1) rfl (fun _ _ _ z => z) p (kv.nxt n1) fun _ _ _ _ _ _ z => z.elim⟩) kx
end
end G

set_option Elab.async false
set_option linter.all false
set_option maxRecDepth 100000
set_option maxHeartbeats 4000000
namespace G
open PySem PySem.Spec PyProof.Rows L2
structure PrD where
  cls : Str
  name : Str
  kind : String
  qual : Str
  params : Arguments
  body : List Stmt
  scope : Scope
/-- the property, the staticmethod -/
def PrD.p (K : PySem.W.Frag) (d : PrD) : Addr := He.ma K (He.ga K d.cls) d.name
/-- the def behind it -/
def PrD.g (K : PySem.W.Frag) (d : PrD) : Addr := match PySem.W.recIn K (d.p K) d.kind with
  | some (.ref g :: _) => g
  | _ => 0
def PrD.val (d : PrD) : FnE := some (d.name, d.qual, d.params, .stmts d.body, d.scope, mainGlobals, [], builtinsNs)
def prB (K : PySem.W.Frag) (d : PrD) : Bool := match K.lookup (d.g K) with
  | some ⟨_, _, .func fd, _⟩ => PySem.W.codeIn K fd.code d.qual && (noneB fd.defaults && noneB fd.kwdefaults)
  | _ => false
def recB (K : PySem.W.Frag) (d : PrD) : Bool := match PySem.W.recIn K (d.p K) d.kind with
  | some (.ref _ :: _) => true
  | _ => false
def PrD.oks (K : PySem.W.Frag) (d : PrD) : Bool := PySem.W.keepIn K (.ref (d.g K)) && (prB K d && (recB K d && He.eqO (PySem.W.findIn K (.ref (He.ga K d.cls)) d.name) (some (some (.ref (d.p K))))))
theorem PrD.at_ {K : PySem.W.Frag} {d : PrD} (h : d.oks K = true) : PySem.W.findIn K (.ref (He.ga K d.cls)) d.name = some (some (.ref (d.p K))) := by
  obtain ⟨_, h⟩ := He.ba h
  obtain ⟨_, h⟩ := He.ba h
  obtain ⟨_, h⟩ := He.ba h
  exact He.eqO_ok h
end G

set_option Elab.async false
set_option linter.all false
set_option maxRecDepth 100000
set_option maxHeartbeats 4000000
namespace G
open PySem PySem.Spec PyProof.Rows L2
def tOr (t u : TE) : TE := fun σ H Q => t σ H Q ∨ u σ H Q
section
variable {X : Cx} {e tg : Expr} {t u : TE} {i j : TI}
end
section
variable {K : PySem.W.Frag} {W : WX} {O : List OD} {ts : List T} {P : PT'} {X : XX} {t u : TE} {i j : TI} {S : (Nat → Option T) → List OD → Prop}
end
def tMethX (C : Addr) (m : Str) (sp : Sp) (E : L2.St → XK) (ta : TE) (t : TA) : TE := fun σ H Q => ta σ H fun x H1 => ∃ a dx fs, x = .ref a ∧ H1 a = some (.ins C dx fs) ∧ fs.lookup m = none ∧ t σ H1 fun vs H2 => sp (x :: vs) H2 Q (E σ)
def tCallX (C : Addr) (sp : Sp) (E : L2.St → XK) (tf : TE) (t : TA) : TE := fun σ H Q => tf σ H fun y H1 => ∃ a, y = V.ref a ∧ t σ H1 fun vs H2 => (∃ dx fs, H2 a = some (.ins C dx fs)) ∧ sp (V.ref a :: vs) H2 Q (E σ)
section
variable {X : Cx} {CX : CXT} {k : Nat} {C g : Addr} {sp : Sp} {m : Str} {E : L2.St → XK} {E1 : XK} {o e fe : Expr} {es : List Expr} {ta tf : TE} {t : TA} {pos apos : Pos} {pl : Sem Bool}
end
section
variable {K : PySem.W.Frag} {W : WX} {O : List OD} {ts : List T} {P : PT'} {X : XX} {sp : SpD} {tr : TA} {ta : TE} {C : Addr} {m : Str}
theorem w_methX (h : WE K W ta O ts (fun x O1 => ∃ fs, x = .v (.ins C fs) ∧ fs.lookup m = none ∧ WA K W tr O1 ts (fun xs O2 => ∃ ds, unv xs = some ds ∧ sp (.v (.ins C fs) :: xs) [] (fun t _ => (∃ d, t = .v d) ∧ P t O2) (fun C fs _ => X C fs O2)) X) X) :
    WE K W (tMethX C m (lift K sp) (L2.WE W) ta tr) O ts P X := fun b A σ H Q s rs kv kx =>
  h b A σ H _ s rs (fun x v A1 O1 H1 p1 s1 n1 r1 => by
    obtain ⟨fs, rfl, hm, p⟩ := p1
    obtain ⟨a, dx, vs, rfl, h1, h2⟩ := insD_at insD_v s1 r1
    refine ⟨a, dx, vs, rfl, h1, h2.none hm, p b A1 σ H1 _ s1 (rs.nxt n1) (fun xs us A2 O2 H2 p2 s2 n2 r2 => ?_) (kx.nxt n1)⟩
    obtain ⟨ds, e, q⟩ := p2
    exact lift_p (W := W) (σ := σ) s2 (xs := .v (.ins C fs) :: xs) (ds := .ins C fs :: ds) ⟨.ref a, us, rfl, r1.nxt n2, r2⟩ (by show (unv xs).map _ = _; rw [e] <;> rfl) (fun _ _ _ z => z) q (kv.nxt (n1.trans n2)) (kx.nxt (n1.trans n2))) kx
theorem w_callX (h : WE K W ta O ts (fun x O1 => ∃ fs, x = .v (.ins C fs) ∧ WA K W tr O1 ts (fun xs O2 => ∃ ds, unv xs = some ds ∧ sp (.v (.ins C fs) :: xs) [] (fun t _ => (∃ d, t = .v d) ∧ P t O2) (fun C fs _ => X C fs O2)) X) X) :
    WE K W (tCallX C (lift K sp) (L2.WE W) ta tr) O ts P X := fun b A σ H Q s rs kv kx =>
  h b A σ H _ s rs (fun x v A1 O1 H1 p1 s1 n1 r1 => by
    obtain ⟨fs, rfl, p⟩ := p1
    obtain ⟨a, dx, vs, rfl, h1⟩ := rep_ins s1 r1
    refine ⟨a, rfl, p b A1 σ H1 _ s1 (rs.nxt n1) (fun xs us A2 O2 H2 p2 s2 n2 r2 => ?_) (kx.nxt n1)⟩
    obtain ⟨ds, e, q⟩ := p2
    obtain ⟨a', dx', vs', e', h2⟩ := rep_ins s2 (r1.nxt n2)
    cases e'
    exact ⟨⟨dx', vs', h2⟩, lift_p (W := W) (σ := σ) s2 (xs := .v (.ins C fs) :: xs) (ds := .ins C fs :: ds) ⟨.ref a, us, rfl, r1.nxt n2, r2⟩ (by show (unv xs).map _ = _; rw [e] <;> rfl) (fun _ _ _ z => z) q (kv.nxt (n1.trans n2)) (kx.nxt (n1.trans n2))⟩) kx
end
def turnL {α : Type} (tw : Bool) (l : List α) : List α := if tw then l.reverse else l
theorem turn_vals {tw : Bool} {vs : List V} {us : List Value} (r : Vals vs us) : Vals (turnL tw vs) (turnL tw us) := by
  cases tw
  · exact r
  · show Vals vs.reverse us.reverse
    induction r with
    | nil => exact .nil
    | cons h _ ih =>
      rw [List.reverse_cons, List.reverse_cons]
      exact ih.append (.cons h .nil)
def tMethK (C : Addr) (m : Str) (tw : Bool) (sp : Sp) (E : XK) (ta : TE) (tk : TA) : TE := fun σ H Q => ta σ H fun x H1 => ∃ a dx fs, x = .ref a ∧ H1 a = some (.ins C dx fs) ∧ fs.lookup m = none ∧ tk σ H1 fun zs H2 => sp (x :: turnL tw zs) H2 Q E
def tCallK2 (C : Addr) (tw : Bool) (sp : Sp) (E : XK) (tf : TE) (tk : TA) : TE := fun σ H Q => tf σ H fun y H1 => ∃ a, y = V.ref a ∧ tk σ H1 fun zs H2 => (∃ dx fs, H2 a = some (.ins C dx fs)) ∧ sp (V.ref a :: turnL tw zs) H2 Q E
section
variable {X : Cx} {CX : CXT} {k : Nat} {C g : Addr} {sp : Sp} {m : Str} {E : XK} {o fe : Expr} {kws : List Keyword} {ta tf : TE} {tk : TA} {pos apos : Pos} {pl : Sem Bool} {fd : FuncData} {ps ks : List Str} {tw : Bool}
end
section
variable {K : PySem.W.Frag} {W : WX} {O : List OD} {ts : List T} {P : PT'} {X : XX} {sp : SpD} {tk : TA} {ta : TE} {C : Addr} {m : Str} {tw : Bool}
theorem turn_rep {F : Hp} {A : List Addr} {xs : List T} {us : List V} {ds : List D} (r : RepTs K F A xs us) (e : unv xs = some ds) : RepTs K F A ((turnL tw ds).map T.v) (turnL tw us) := by
  have p := r.plain e
  cases tw
  · exact repTs_v p
  · exact repTs_v (p.reverse)
theorem unv_map : ∀ {ds : List D}, unv (ds.map T.v) = some ds
  | [] => rfl
  | d :: ds => by
    show (unv (ds.map T.v)).map _ = _
    rw [unv_map] <;> rfl
theorem w_methK (h : WE K W ta O ts (fun x O1 => ∃ fs, x = .v (.ins C fs) ∧ fs.lookup m = none ∧ WA K W tk O1 ts (fun xs O2 => ∃ ds, unv xs = some ds ∧ sp (.v (.ins C fs) :: (turnL tw ds).map T.v) [] (fun t _ => (∃ d, t = .v d) ∧ P t O2) (fun _ _ _ => False)) X) X) :
    WE K W (tMethK C m tw (lift K sp) E0 ta tk) O ts P X := fun b A σ H Q s rs kv kx =>
  h b A σ H _ s rs (fun x v A1 O1 H1 p1 s1 n1 r1 => by
    obtain ⟨fs, rfl, hm, p⟩ := p1
    obtain ⟨a, dx, vs, rfl, h1, h2⟩ := insD_at insD_v s1 r1
    refine ⟨a, dx, vs, rfl, h1, h2.none hm, p b A1 σ H1 _ s1 (rs.nxt n1) (fun xs us A2 O2 H2 p2 s2 n2 r2 => ?_) (kx.nxt n1)⟩
    obtain ⟨ds, e, q⟩ := p2
    exact lift_p (W := fun _ _ _ _ => False) (X := fun _ _ _ => False) (σ := σ) s2 (xs := .v (.ins C fs) :: (turnL tw ds).map T.v) (ds := .ins C fs :: turnL tw ds) ⟨.ref a, _, rfl, r1.nxt n2, turn_rep r2 e⟩ (by show (unv ((turnL tw ds).map T.v)).map _ = _; rw [unv_map] <;> rfl) (fun _ _ _ z => z) q (kv.nxt (n1.trans n2)) fun _ _ _ _ _ _ z => z.elim) kx
theorem w_callK2 (h : WE K W ta O ts (fun x O1 => ∃ fs, x = .v (.ins C fs) ∧ WA K W tk O1 ts (fun xs O2 => ∃ ds, unv xs = some ds ∧ sp (.v (.ins C fs) :: (turnL tw ds).map T.v) [] (fun t _ => (∃ d, t = .v d) ∧ P t O2) (fun _ _ _ => False)) X) X) :
    WE K W (tCallK2 C tw (lift K sp) E0 ta tk) O ts P X := fun b A σ H Q s rs kv kx =>
  h b A σ H _ s rs (fun x v A1 O1 H1 p1 s1 n1 r1 => by
    obtain ⟨fs, rfl, p⟩ := p1
    obtain ⟨a, dx, vs, rfl, h1⟩ := rep_ins s1 r1
    refine ⟨a, rfl, p b A1 σ H1 _ s1 (rs.nxt n1) (fun xs us A2 O2 H2 p2 s2 n2 r2 => ?_) (kx.nxt n1)⟩
    obtain ⟨ds, e, q⟩ := p2
    obtain ⟨a', dx', vs', e', h2⟩ := rep_ins s2 (r1.nxt n2)
    cases e'
    exact ⟨⟨dx', vs', h2⟩, lift_p (W := fun _ _ _ _ => False) (X := fun _ _ _ => False) (σ := σ) s2 (xs := .v (.ins C fs) :: (turnL tw ds).map T.v) (ds := .ins C fs :: turnL tw ds) ⟨.ref a, _, rfl, r1.nxt n2, turn_rep r2 e⟩ (by show (unv ((turnL tw ds).map T.v)).map _ = _; rw [unv_map] <;> rfl) (fun _ _ _ z => z) q (kv.nxt (n1.trans n2)) fun _ _ _ _ _ _ z => z.elim⟩) kx
end
end G

set_option Elab.async false
set_option linter.all false
set_option maxRecDepth 100000
set_option maxHeartbeats 4000000
namespace G
open PySem PySem.Spec PyProof.Rows L2
section
variable {X : Cx}
end
section
variable {K : PySem.W.Frag} {O : List OD} {P : PT'}
end
section
variable {X : Cx} {T' name : Str} {id : String} {r : V → List V → Hp → VK → Prop} {o e : Expr} {es : List Expr} {to : TE} {t : TA} {cpos apos : Pos}
end
end G

set_option Elab.async false
set_option linter.all false
set_option maxRecDepth 100000
set_option maxHeartbeats 4000000
namespace G
open PySem PySem.Spec PyProof.Rows L2
def Sm (n : Int) : Prop := n.natAbs < 2 ^ 200
theorem sm_log {n : Int} (h : Sm n) : n.natAbs.log2 < 200 := by
  by_cases z : n.natAbs = 0
  · rw [z]
    decide
  · exact (Nat.log2_lt z).mpr h
theorem strOk_of (s : String) : PyData.strOk (Str.ofString s) = true := by
  unfold PyData.strOk
  rw [Str.ofString_eq_toList, List.all_toArray, List.all_eq_true]
  intro c hc
  obtain ⟨ch, _, rfl⟩ := List.mem_map.mp hc
  have h := ch.valid
  have e : ch.toNat = ch.val.toNat := rfl
  unfold UInt32.isValidChar Nat.isValidChar at h
  rw [e]
  exact decide_eq_true (by omega)
theorem pl_int_shown (k : Nat) (n : Int) : pl k (.str (PyData.int n).shown) = true := by
  have e : (PyData.int n).shown = Str.ofString (toString n) := rfl
  rw [e]
  cases k <;> (simp only [pl, PyData.canLay0]; exact strOk_of _)
theorem shows_int {n : Int} (h : Sm n) : Shows (.int n) (.int n) := by
  have h2 : n.natAbs.log2 < 1920 := Nat.lt_trans (sm_log h) (by decide)
  exact ⟨rfl, decide_eq_true h2, Nat.le_of_ble_eq_true rfl, int_text_fits h2⟩
end G

set_option Elab.async false
set_option linter.all false
set_option maxRecDepth 100000
set_option maxHeartbeats 4000000
namespace G
open PySem PySem.Spec PyProof.Rows L2
section
variable {K : PySem.W.Frag} {W : WX} {O : List OD} {ts : List T} {P : PT'} {X : XX} {ta : TE} {C : Addr} {f : Str}
end
end G

set_option Elab.async false
set_option linter.all false
set_option maxRecDepth 100000
namespace G
def InR (m : Int) (rs : List Int) : Prop := ∀ r ∈ rs, 0 ≤ r ∧ r < m
theorem InR.tail {m r : Int} {rs : List Int} (h : InR m (r :: rs)) : InR m rs := fun x hx => h x (List.mem_cons_of_mem _ hx)
theorem InR.head {m r : Int} {rs : List Int} (h : InR m (r :: rs)) : 0 ≤ r ∧ r < m := h r List.mem_cons_self
theorem InR.take {m : Int} {rs : List Int} (h : InR m rs) (n : Nat) : InR m (rs.take n) := fun x hx => h x (List.mem_of_mem_take hx)
theorem InR.at {m : Int} {rs : List Int} (h : InR m rs) {i : Nat} {r : Int} (e : rs[i]? = some r) : 0 ≤ r ∧ r < m := h r (List.mem_of_getElem? e)
theorem InR.mul {m k : Int} {rs : List Int} (h : InR m rs) (hk : 0 < k) : InR (m * k) (rs.map (· * k)) := fun x hx => by
  obtain ⟨r, hr, rfl⟩ := List.mem_map.mp hx
  obtain ⟨h1, h2⟩ := h r hr
  exact ⟨Int.mul_nonneg h1 (Int.le_of_lt hk), Int.mul_lt_mul_of_pos_right h2 hk⟩
theorem InR.nil {m : Int} : InR m [] := fun x hx => by cases hx
theorem InR.snoc {m x : Int} {rs : List Int} (h : InR m rs) (h0 : 0 ≤ x) (h1 : x < m) : InR m (rs ++ [x]) := fun y hy => by
  rcases List.mem_append.mp hy with hy | hy
  · exact h y hy
  · rw [List.mem_singleton.mp hy]
    exact ⟨h0, h1⟩
end G

set_option linter.all false
set_option maxRecDepth 100000
namespace My
def vlf (p : Nat) : Nat → Nat → Nat
  | 0, _ => 0
  | f + 1, n => if n % p = 0 then vlf p f (n / p) + 1 else 0
def vl (p n : Nat) : Nat := vlf p n n
theorem vlf_spec {p : Nat} (hp : 2 ≤ p) : ∀ (f n : Nat), 1 ≤ n → n ≤ f → ∃ q, n = p ^ vlf p f n * q ∧ q % p ≠ 0
  | 0, n, h1, h2 => by omega
  | f + 1, n, h1, h2 => by
    unfold vlf
    by_cases h : n % p = 0
    · rw [if_pos h]
      obtain ⟨k, rfl⟩ := Nat.dvd_of_mod_eq_zero h
      have hk : 1 ≤ k := by
        rcases Nat.eq_zero_or_pos k with rfl | hk
        · rw [Nat.mul_zero] at h1; omega
        · exact hk
      rw [Nat.mul_div_cancel_left k (by omega)]
      have : k < p * k := by
        have := Nat.mul_le_mul_right k hp
        omega
      obtain ⟨q, e, hq⟩ := vlf_spec hp f k hk (by omega)
      refine ⟨q, ?_, hq⟩
      rw [Nat.pow_succ, Nat.mul_comm _ p, Nat.mul_assoc, ← e]
    · rw [if_neg h]
      exact ⟨n, by rw [Nat.pow_zero, Nat.one_mul], h⟩
theorem vl_spec {p n : Nat} (hp : 2 ≤ p) (hn : 1 ≤ n) : ∃ q, n = p ^ vl p n * q ∧ q % p ≠ 0 := vlf_spec hp n n hn (Nat.le_refl n)
theorem vl_uniq {p : Nat} (hp : 2 ≤ p) : ∀ {s t q r : Nat}, p ^ s * q = p ^ t * r → q % p ≠ 0 → r % p ≠ 0 → s = t ∧ q = r
  | 0, 0, q, r, h, _, _ => by
    rw [Nat.pow_zero, Nat.one_mul, Nat.one_mul] at h
    exact ⟨rfl, h⟩
  | 0, t + 1, q, r, h, hq, _ => by
    rw [Nat.pow_zero, Nat.one_mul, Nat.pow_succ, Nat.mul_comm _ p, Nat.mul_assoc] at h
    rw [h, Nat.mul_mod_right] at hq
    exact absurd rfl hq
  | s + 1, 0, q, r, h, _, hr => by
    rw [Nat.pow_zero, Nat.one_mul, Nat.pow_succ, Nat.mul_comm _ p, Nat.mul_assoc] at h
    rw [← h, Nat.mul_mod_right] at hr
    exact absurd rfl hr
  | s + 1, t + 1, q, r, h, hq, hr => by
    rw [Nat.pow_succ, Nat.mul_comm _ p, Nat.mul_assoc, Nat.pow_succ, Nat.mul_comm _ p, Nat.mul_assoc] at h
    obtain ⟨a, b⟩ := vl_uniq hp (Nat.eq_of_mul_eq_mul_left (by omega) h) hq hr
    exact ⟨by rw [a], b⟩
theorem vl_eq {p n t q : Nat} (hp : 2 ≤ p) (hn : 1 ≤ n) (h : n = p ^ t * q) (hq : q % p ≠ 0) : vl p n = t := by
  obtain ⟨r, e, hr⟩ := vl_spec hp hn
  exact (vl_uniq hp (e.symm.trans h) hr hq).1
def PR : List Nat := [2, 3, 5, 7, 11]
def small (n most : Nat) : List (Nat × Nat) := (PR.filter fun p => decide (p ≤ most) && decide (n % p = 0)).map fun p => (p, vl p n)
def cutP (n : Nat) (x : Nat × Nat) : Nat := n / x.1 ^ x.2
def great (n most : Nat) : Nat := (small n most).foldl cutP n
theorem foldl_mul (l : List Nat) : ∀ a, l.foldl (· * ·) a = a * l.foldl (· * ·) 1 := by
  induction l with
  | nil => intro a; simp
  | cons x l ih =>
    intro a
    rw [List.foldl_cons, List.foldl_cons, ih, ih (1 * x), Nat.one_mul, Nat.mul_assoc]
def prodN (l : List Nat) : Nat := l.foldl (· * ·) 1
theorem prodN_cons (x : Nat) (l : List Nat) : prodN (x :: l) = x * prodN l := by
  unfold prodN
  rw [List.foldl_cons, foldl_mul, Nat.one_mul]
theorem prodN_nil : prodN [] = 1 := rfl
theorem prodN_app (l m : List Nat) : prodN (l ++ m) = prodN l * prodN m := by
  unfold prodN
  rw [List.foldl_append, foldl_mul]
/-- each one has no common divisor with the ones behind it -/
def Cop : List Nat → Prop
  | [] => True
  | x :: l => (∀ y ∈ l, Nat.Coprime x y) ∧ Cop l
theorem cop_prod {x : Nat} : ∀ {l : List Nat}, (∀ y ∈ l, Nat.Coprime x y) → Nat.Coprime x (prodN l)
  | [], _ => by rw [prodN_nil]; exact Nat.coprime_one_right x
  | y :: l, h => by
    rw [prodN_cons]
    exact Nat.Coprime.mul_right (h y List.mem_cons_self) (cop_prod fun z hz => h z (List.mem_cons_of_mem _ hz))
theorem foldl_cut : ∀ (l : List (Nat × Nat)) (n : Nat), Cop (l.map fun x => x.1 ^ x.2) → (∀ x ∈ l, 1 ≤ x.1 ^ x.2 ∧ x.1 ^ x.2 ∣ n) → n = l.foldl cutP n * prodN (l.map fun x => x.1 ^ x.2)
  | [], n, _, _ => by simp [prodN_nil]
  | x :: l, n, hc, hd => by
    obtain ⟨h1, h2⟩ := hd x List.mem_cons_self
    obtain ⟨k, hk⟩ := h2
    have hcut : cutP n x = k := by
      unfold cutP
      rw [hk, Nat.mul_div_cancel_left k h1]
    rw [List.foldl_cons, hcut, List.map_cons, prodN_cons]
    have ih := foldl_cut l k hc.2 fun y hy => by
      obtain ⟨a, b⟩ := hd y (List.mem_cons_of_mem _ hy)
      refine ⟨a, ?_⟩
      rw [hk] at b
      exact Nat.Coprime.dvd_of_dvd_mul_left (Nat.Coprime.symm (hc.1 _ (List.mem_map.mpr ⟨y, hy, rfl⟩))) b
    rw [hk, Nat.mul_left_comm, ← ih]
theorem pr_cop {p q : Nat} (hp : p ∈ PR) (hq : q ∈ PR) (h : p ≠ q) : Nat.Coprime p q := by
  simp only [PR, List.mem_cons, List.not_mem_nil, or_false] at hp hq
  rcases hp with rfl | rfl | rfl | rfl | rfl <;> rcases hq with rfl | rfl | rfl | rfl | rfl <;> first | exact absurd rfl h | (unfold Nat.Coprime; decide)
theorem pr_two {p : Nat} (hp : p ∈ PR) : 2 ≤ p ∧ p ≤ 11 := by
  simp only [PR, List.mem_cons, List.not_mem_nil, or_false] at hp
  omega
theorem pr_prime {p d : Nat} (hp : p ∈ PR) (h : d ∣ p) : d = 1 ∨ d = p := by
  have hl : d ≤ 11 := Nat.le_trans (Nat.le_of_dvd (by have := pr_two hp; omega) h) (pr_two hp).2
  simp only [PR, List.mem_cons, List.not_mem_nil, or_false] at hp
  have key : ∀ d : Nat, d ≤ 11 → ∀ p ∈ [2, 3, 5, 7, 11], d ∣ p → d = 1 ∨ d = p := by decide
  exact key d hl p (by simp only [List.mem_cons, List.not_mem_nil, or_false]; exact hp) h
theorem pr_no {p n : Nat} (hp : p ∈ PR) (h : n % p ≠ 0) : Nat.Coprime n p := by
  rcases pr_prime hp (Nat.gcd_dvd_right n p) with e | e
  · exact e
  · have hd := Nat.gcd_dvd_left n p
    rw [e] at hd
    exact absurd (Nat.mod_eq_zero_of_dvd hd) h
theorem cop_small (n : Nat) (most : Nat) : ∀ l : List Nat, l.Nodup → (∀ p ∈ l, p ∈ PR) → Cop ((l.map fun p => (p, vl p n)).map fun x => x.1 ^ x.2)
  | [], _, _ => trivial
  | p :: l, hn, hm => by
    refine ⟨fun y hy => ?_, cop_small n most l (List.nodup_cons.mp hn).2 fun q hq => hm q (List.mem_cons_of_mem _ hq)⟩
    obtain ⟨x, hx, rfl⟩ := List.mem_map.mp hy
    obtain ⟨q, hq, rfl⟩ := List.mem_map.mp hx
    exact Nat.Coprime.pow _ _ (pr_cop (hm p List.mem_cons_self) (hm q (List.mem_cons_of_mem _ hq)) fun z => (List.nodup_cons.mp hn).1 (by rw [show p = q from z]; exact hq))
theorem pr_nodup : PR.Nodup := by decide
theorem small_cop (n most : Nat) : Cop ((small n most).map fun x => x.1 ^ x.2) :=
  cop_small n most _ (List.Sublist.nodup List.filter_sublist pr_nodup) fun p hp => (List.mem_filter.mp hp).1
theorem small_mem {n most : Nat} {x : Nat × Nat} (h : x ∈ small n most) : x.1 ∈ PR ∧ x.1 ≤ most ∧ n % x.1 = 0 ∧ x.2 = vl x.1 n := by
  unfold small at h
  obtain ⟨p, hp, rfl⟩ := List.mem_map.mp h
  obtain ⟨h1, h2⟩ := List.mem_filter.mp hp
  obtain ⟨h3, h4⟩ := Bool.and_eq_true_iff.mp h2
  exact ⟨h1, of_decide_eq_true h3, of_decide_eq_true h4, rfl⟩
theorem small_dvd {n most : Nat} (hn : 1 ≤ n) {x : Nat × Nat} (h : x ∈ small n most) : 1 ≤ x.1 ^ x.2 ∧ x.1 ^ x.2 ∣ n := by
  obtain ⟨h1, _, _, h4⟩ := small_mem h
  have h2 := (pr_two h1).1
  obtain ⟨q, e, _⟩ := vl_spec (p := x.1) h2 hn
  refine ⟨Nat.pow_pos (by omega), ?_⟩
  rw [h4]
  exact ⟨q, e⟩
theorem great_mul {n : Nat} (most : Nat) (hn : 1 ≤ n) : n = great n most * prodN ((small n most).map fun x => x.1 ^ x.2) := foldl_cut _ n (small_cop n most) fun _ h => small_dvd hn h
theorem great_pos {n : Nat} (most : Nat) (hn : 1 ≤ n) : 1 ≤ great n most := by
  have e := great_mul most hn
  rcases Nat.eq_zero_or_pos (great n most) with h | h
  · rw [h, Nat.zero_mul] at e; omega
  · exact h
theorem prod_dvd {x : Nat} : ∀ {l : List Nat}, x ∈ l → x ∣ prodN l
  | [], h => by cases h
  | y :: l, h => by
    rw [prodN_cons]
    rcases List.mem_cons.mp h with rfl | h
    · exact Nat.dvd_mul_right _ _
    · exact Nat.dvd_trans (prod_dvd h) (Nat.dvd_mul_left _ _)
theorem great_no {n most : Nat} (hn : 1 ≤ n) {x : Nat × Nat} (h : x ∈ small n most) : great n most % x.1 ≠ 0 := fun z => by
  obtain ⟨h1, _, _, h4⟩ := small_mem h
  have h2 := (pr_two h1).1
  obtain ⟨q, e, hq⟩ := vl_spec (p := x.1) h2 hn
  obtain ⟨a, ha⟩ := Nat.dvd_of_mod_eq_zero z
  obtain ⟨c, hc⟩ := prod_dvd (x := x.1 ^ x.2) (l := (small n most).map fun x => x.1 ^ x.2) (List.mem_map.mpr ⟨x, h, rfl⟩)
  have em := great_mul most hn
  rw [hc, ha, h4] at em
  have : x.1 ^ vl x.1 n * q = x.1 ^ vl x.1 n * (x.1 * (a * c)) := by
    rw [← e]
    refine em.trans ?_
    ac_rfl
  have hp : 0 < x.1 ^ vl x.1 n := Nat.pow_pos (by omega)
  have := Nat.eq_of_mul_eq_mul_left hp this
  rw [this, Nat.mul_mod_right] at hq
  exact hq rfl
/-- the pieces of a number -/
def pieces (n most : Nat) : List Nat := great n most :: (small n most).map fun x => x.1 ^ x.2
theorem pieces_cop {n : Nat} (most : Nat) (hn : 1 ≤ n) : Cop (pieces n most) := by
  refine ⟨fun y hy => ?_, small_cop n most⟩
  obtain ⟨x, hx, rfl⟩ := List.mem_map.mp hy
  exact Nat.Coprime.pow_right _ (pr_no (small_mem hx).1 (great_no hn hx))
theorem pieces_prod {n : Nat} (most : Nat) (hn : 1 ≤ n) : prodN (pieces n most) = n := by
  unfold pieces
  rw [prodN_cons]
  exact (great_mul most hn).symm
theorem pieces_pos {n most : Nat} (hn : 1 ≤ n) {x : Nat} (h : x ∈ pieces n most) : 1 ≤ x ∧ x ≤ n := by
  have hd : x ∣ n := by
    have := prod_dvd h
    rw [pieces_prod most hn] at this
    exact this
  exact ⟨Nat.pos_of_dvd_of_pos hd hn, Nat.le_of_dvd hn hd⟩
theorem small_len (n most : Nat) : (small n most).length ≤ 5 := by
  unfold small
  rw [List.length_map]
  exact Nat.le_trans (List.length_filter_le _ _) (Nat.le_refl 5)

def gcdL (m : Nat) (ns : List Int) : Nat := ns.foldl (fun d n => Nat.gcd d n.natAbs) m
theorem gcdL_nil (m : Nat) : gcdL m [] = m := rfl
theorem gcdL_cons (m : Nat) (n : Int) (ns : List Int) : gcdL m (n :: ns) = gcdL (Nat.gcd m n.natAbs) ns := rfl
theorem gcdL_app (m : Nat) (ns ks : List Int) : gcdL m (ns ++ ks) = gcdL (gcdL m ns) ks := List.foldl_append
theorem gcdL_dvd : ∀ (ns : List Int) (m : Nat), gcdL m ns ∣ m
  | [], m => Nat.dvd_refl m
  | n :: ns, m => Nat.dvd_trans (gcdL_dvd ns _) (Nat.gcd_dvd_left m n.natAbs)
theorem gcdL_pos {m : Nat} (h : 1 ≤ m) (ns : List Int) : 1 ≤ gcdL m ns := Nat.pos_of_dvd_of_pos (gcdL_dvd ns m) h
theorem gcdL_le {m : Nat} (h : 1 ≤ m) (ns : List Int) : gcdL m ns ≤ m := Nat.le_of_dvd h (gcdL_dvd ns m)
structure Bz (a0 b0 a b : Nat) (s t u v : Int) : Prop where
  e1 : (a : Int) = s * a0 + t * b0
  e2 : (b : Int) = u * a0 + v * b0
  g : Nat.gcd a b = Nat.gcd a0 b0
  k1 : s.natAbs * b + u.natAbs * a = b0
  k2 : t.natAbs * b + v.natAbs * a = a0
  s1 : 0 ≤ s ∧ u ≤ 0 ∧ t ≤ 0 ∧ 0 ≤ v ∨ s ≤ 0 ∧ 0 ≤ u ∧ 0 ≤ t ∧ v ≤ 0
  m1 : s.natAbs ≤ b0 + 1 ∧ t.natAbs ≤ a0 + 1 ∧ u.natAbs ≤ b0 + 1 ∧ v.natAbs ≤ a0 + 1
theorem Bz.start (a0 b0 : Nat) : Bz a0 b0 a0 b0 1 0 0 1 :=
  ⟨by omega, by omega, rfl, by simp, by simp, .inl ⟨by omega, by omega, by omega, by omega⟩, ⟨by simp, by simp, by simp, by simp⟩⟩
theorem mul_le_of {x b n : Nat} (h : x * b ≤ n) (hb : 1 ≤ b) : x ≤ n := Nat.le_trans (Nat.le_mul_of_pos_right x hb) h
theorem Bz.step {a0 b0 a b : Nat} {s t u v : Int} (z : Bz a0 b0 a b s t u v) (hb : 1 ≤ b) : Bz a0 b0 b (a % b) u v (s - (a / b : Nat) * u) (t - (a / b : Nat) * v) := by
  obtain ⟨e1, e2, g, k1, k2, s1, m1⟩ := z
  have hd := Nat.div_add_mod a b
  have hdI : (b : Int) * (a / b : Nat) + (a % b : Nat) = a := by
    rw [← hd]
    simp [hd]
    exact_mod_cast hd
  have neg : ∀ {x y : Int} {q : Nat}, (0 ≤ x ∧ y ≤ 0 ∨ x ≤ 0 ∧ 0 ≤ y) → (x - q * y).natAbs = x.natAbs + q * y.natAbs := fun {x y q} h => by
    rcases h with ⟨h1, h2⟩ | ⟨h1, h2⟩
    · have : (q : Int) * y ≤ 0 := Int.mul_nonpos_of_nonneg_of_nonpos (by omega) h2
      have e : ((q * y.natAbs : Nat) : Int) = -(q * y) := by
        rw [Int.natCast_mul, show ((y.natAbs : Nat) : Int) = -y by omega, Int.mul_neg]
      omega
    · have : 0 ≤ (q : Int) * y := Int.mul_nonneg (by omega) h2
      have e : ((q * y.natAbs : Nat) : Int) = q * y := by
        rw [Int.natCast_mul, show ((y.natAbs : Nat) : Int) = y by omega]
      omega
  have n1 : (s - (a / b : Nat) * u).natAbs = s.natAbs + (a / b) * u.natAbs := neg (s1.imp (fun h => ⟨h.1, h.2.1⟩) (fun h => ⟨h.1, h.2.1⟩))
  have n2 : (t - (a / b : Nat) * v).natAbs = t.natAbs + (a / b) * v.natAbs := neg (s1.symm.imp (fun h => ⟨h.2.2.1, h.2.2.2⟩) (fun h => ⟨h.2.2.1, h.2.2.2⟩))
  have kk : ∀ x y c : Nat, x * b + y * a = c → y * (a % b) + (x + a / b * y) * b = c := fun x y c h => by
    rw [← h, Nat.add_mul]
    have : y * a = y * (b * (a / b) + a % b) := by rw [hd]
    rw [this, Nat.mul_add]
    have : a / b * y * b = y * (b * (a / b)) := by ac_rfl
    omega
  have l1 := kk _ _ _ k1
  have l2 := kk _ _ _ k2
  refine ⟨e2, ?_, ?_, ?_, ?_, ?_, ⟨m1.2.2.1, m1.2.2.2, ?_, ?_⟩⟩
  · have : ((a % b : Nat) : Int) = a - b * (a / b : Nat) := by omega
    rw [this, e1, e2]
    simp only [Int.sub_mul, Int.add_mul]
    have x1 : (a / b : Nat) * u * (a0 : Int) = u * a0 * (a / b : Nat) := by ac_rfl
    have x2 : (a / b : Nat) * v * (b0 : Int) = v * b0 * (a / b : Nat) := by ac_rfl
    rw [x1, x2]
    omega
  · rw [← g, Nat.gcd_comm b, ← Nat.gcd_rec, Nat.gcd_comm]
  · rw [n1]; exact l1
  · rw [n2]; exact l2
  · have q0 : (0 : Int) ≤ (a / b : Nat) := Int.natCast_nonneg _
    rcases s1 with ⟨h1, h2, h3, h4⟩ | ⟨h1, h2, h3, h4⟩
    · have : ((a / b : Nat) : Int) * u ≤ 0 := Int.mul_nonpos_of_nonneg_of_nonpos q0 h2
      have : 0 ≤ ((a / b : Nat) : Int) * v := Int.mul_nonneg q0 h4
      exact .inr ⟨h2, by omega, h4, by omega⟩
    · have : 0 ≤ ((a / b : Nat) : Int) * u := Int.mul_nonneg q0 h2
      have : ((a / b : Nat) : Int) * v ≤ 0 := Int.mul_nonpos_of_nonneg_of_nonpos q0 h4
      exact .inl ⟨h2, by omega, h4, by omega⟩
  · rw [n1]
    have := mul_le_of (x := s.natAbs + a / b * u.natAbs) (b := b) (n := b0) (by omega) hb
    omega
  · rw [n2]
    have := mul_le_of (x := t.natAbs + a / b * v.natAbs) (b := b) (n := a0) (by omega) hb
    omega
theorem Bz.end_ {a0 b0 a b : Nat} {s t u v : Int} (z : Bz a0 b0 a b s t u v) (hb : b = 0) : a = Nat.gcd a0 b0 := by
  rw [← z.g, hb, Nat.gcd_zero_right]

/-- x leaves the remainders r by the divisors d -/
def Lvs (x : Int) (ps : List (Int × Nat)) : Prop := ∀ p ∈ ps, ((p.2 : Nat) : Int) ∣ x - p.1
theorem dvd_prod {y : Int} : ∀ {l : List Nat}, Cop l → (∀ d ∈ l, ((d : Nat) : Int) ∣ y) → ((prodN l : Nat) : Int) ∣ y
  | [], _, _ => by rw [prodN_nil]; exact Int.one_dvd y
  | d :: l, h, q => by
    rw [prodN_cons]
    have h1 := Int.natAbs_dvd_natAbs.mpr (q d List.mem_cons_self)
    have h2 := Int.natAbs_dvd_natAbs.mpr (dvd_prod h.2 fun z hz => q z (List.mem_cons_of_mem _ hz))
    rw [Int.natAbs_natCast] at h1 h2
    refine Int.natAbs_dvd_natAbs.mp ?_
    rw [Int.natAbs_natCast]
    exact Nat.Coprime.mul_dvd_of_dvd_of_dvd (cop_prod h.1) h1 h2
/-- the only one below the product -/
theorem lvs_uniq {x y : Int} {ps : List (Int × Nat)} (hc : Cop (ps.map (·.2))) (hx : Lvs x ps) (hy : Lvs y ps) (x0 : 0 ≤ x) (x1 : x < (prodN (ps.map (·.2)) : Nat)) (y0 : 0 ≤ y) (y1 : y < (prodN (ps.map (·.2)) : Nat)) : x = y := by
  have h : ((prodN (ps.map (·.2)) : Nat) : Int) ∣ x - y := dvd_prod hc fun d hd => by
    obtain ⟨p, hp, rfl⟩ := List.mem_map.mp hd
    have := Int.dvd_sub (hx p hp) (hy p hp)
    rwa [show x - p.1 - (y - p.1) = x - y by omega] at this
  obtain ⟨k, hk⟩ := h
  have hP : (0 : Int) < (prodN (ps.map (·.2)) : Nat) := by omega
  rcases Int.lt_trichotomy k 0 with h | h | h
  · have : ((prodN (ps.map (·.2)) : Nat) : Int) * k ≤ ((prodN (ps.map (·.2)) : Nat) : Int) * (-1) := Int.mul_le_mul_of_nonneg_left (by omega) (by omega)
    omega
  · subst h
    omega
  · have : ((prodN (ps.map (·.2)) : Nat) : Int) * 1 ≤ ((prodN (ps.map (·.2)) : Nat) : Int) * k := Int.mul_le_mul_of_nonneg_left (by omega) (by omega)
    omega
/-- one step -/
theorem put_step {x : Int} {w : Nat} {ps : List (Int × Nat)} {r : Int} {d : Nat} {i : Int} (hw : w = prodN (ps.map (·.2))) (hx : Lvs x ps) (x0 : 0 ≤ x) (x1 : x < (w : Nat)) (hd : 1 ≤ d) (hi : (d : Int) ∣ i * w - 1) :
    Lvs (x + w * ((r - x) * i % d)) (ps ++ [(r, d)]) ∧ 0 ≤ x + w * ((r - x) * i % d) ∧ x + w * ((r - x) * i % d) < ((w * d : Nat) : Int) := by
  have hdI : (0 : Int) < d := by omega
  have m0 := Int.emod_nonneg ((r - x) * i) (show (d : Int) ≠ 0 by omega)
  have m1 := Int.emod_lt_of_pos ((r - x) * i) hdI
  have p0 : 0 ≤ (w : Int) * ((r - x) * i % d) := Int.mul_nonneg (by omega) m0
  have p1 : (w : Int) * ((r - x) * i % d) ≤ (w : Int) * (d - 1) := Int.mul_le_mul_of_nonneg_left (by omega) (by omega)
  refine ⟨fun p hp => ?_, by omega, ?_⟩
  · rcases List.mem_append.mp hp with hp | hp
    · have h1 := hx p hp
      have h2 : ((p.2 : Nat) : Int) ∣ (w : Int) := by
        rw [hw]
        exact Int.natCast_dvd_natCast.mpr (prod_dvd (List.mem_map.mpr ⟨p, hp, rfl⟩))
      have h3 := Int.dvd_add h1 (Int.dvd_mul_of_dvd_left (c := (r - x) * i % d) h2)
      rwa [show x - p.1 + (w : Int) * ((r - x) * i % d) = x + w * ((r - x) * i % d) - p.1 by omega] at h3
    · obtain rfl := List.mem_singleton.mp hp
      show (d : Int) ∣ x + w * ((r - x) * i % d) - r
      have e : (r - x) * i % d = (r - x) * i - d * ((r - x) * i / d) := Int.emod_def _ _
      rw [e]
      obtain ⟨k, hk⟩ := hi
      refine ⟨(r - x) * k - w * ((r - x) * i / d), ?_⟩
      have e2 : (w : Int) * ((r - x) * i - d * ((r - x) * i / d)) = (r - x) * (i * w) - d * (w * ((r - x) * i / d)) := by
        rw [Int.mul_sub]
        congr 1 <;> ac_rfl
      have e3 : i * (w : Int) = 1 + d * k := by omega
      rw [e2, e3, Int.mul_add, Int.mul_one, Int.mul_sub]
      have e4 : (r - x) * (d * k) = d * ((r - x) * k) := by ac_rfl
      rw [e4]
      omega
  · rw [Int.natCast_mul]
    have e5 : (w : Int) * (d - 1) = w * d - w := by rw [Int.mul_sub, Int.mul_one]
    omega

def bin (n : Int) : Nat → Int
  | 0 => 1
  | k + 1 => bin n k * (n - k) / (k + 1)
theorem ediv_natAbs_le (x : Int) {c : Int} (hc : 1 ≤ c) : (x / c).natAbs ≤ x.natAbs := by
  have h := Int.emod_add_mul_ediv x c
  have h0 := Int.emod_nonneg x (show c ≠ 0 by omega)
  have h1 := Int.emod_lt_of_pos x (show 0 < c by omega)
  rcases Int.lt_or_le (x / c) 0 with hq | hq
  · have : c * (x / c) ≤ c * (-1) := Int.mul_le_mul_of_nonneg_left (by omega) (by omega)
    have h2 : 1 * -(x / c + 1) ≤ c * -(x / c + 1) := Int.mul_le_mul_of_nonneg_right hc (by omega)
    have h3 : c * -(x / c + 1) = -(c * (x / c)) - c := by rw [Int.mul_neg, Int.mul_add, Int.mul_one]; omega
    omega
  · have : 1 * (x / c) ≤ c * (x / c) := Int.mul_le_mul_of_nonneg_right hc hq
    omega
theorem bin_bd {n : Int} {a : Nat} (h : n.natAbs + 12 < 2 ^ a) : ∀ k : Nat, k ≤ 12 → (bin n k).natAbs < 2 ^ (a * k + 1)
  | 0, _ => by
    show (1 : Int).natAbs < _
    rw [Nat.mul_zero, Nat.zero_add]
    decide
  | k + 1, hk => by
    have ih := bin_bd h k (by omega)
    show (bin n k * (n - k) / (k + 1)).natAbs < _
    refine Nat.lt_of_le_of_lt (ediv_natAbs_le _ (by omega)) ?_
    rw [Int.natAbs_mul, show a * (k + 1) + 1 = (a * k + 1) + a by rw [Nat.mul_add, Nat.mul_one]; omega, Nat.pow_add]
    exact Nat.mul_lt_mul'' ih (by omega)

end My
namespace My
theorem pow_lt2 {b a : Nat} (h : b < 2 ^ a) (i : Nat) : b ^ i < 2 ^ (a * i + 1) := by
  have h1 : b ^ i ≤ (2 ^ a) ^ i := Nat.pow_le_pow_left (by omega) i
  rw [← Nat.pow_mul] at h1
  rw [Nat.pow_succ]
  have : 0 < 2 ^ (a * i) := Nat.pow_pos (by omega)
  omega
theorem gcd_mod {g m k : Nat} {r : Int} (h : g ∣ m) (hk : r % (m : Int) = k) : Nat.gcd g k = Nat.gcd g r.natAbs := by
  have e : (k : Int) = r - m * (r / m) := by rw [← hk, Int.emod_def]
  have h1 : (g : Int) ∣ (m : Int) * (r / m) := Int.dvd_mul_of_dvd_left (Int.natCast_dvd_natCast.mpr h)
  refine Nat.dvd_antisymm ?_ ?_
  · refine Nat.dvd_gcd (Nat.gcd_dvd_left g k) ?_
    have a1 : ((Nat.gcd g k : Nat) : Int) ∣ (k : Int) := Int.natCast_dvd_natCast.mpr (Nat.gcd_dvd_right g k)
    have a2 : ((Nat.gcd g k : Nat) : Int) ∣ (m : Int) * (r / m) := Int.dvd_trans (Int.natCast_dvd_natCast.mpr (Nat.gcd_dvd_left g k)) h1
    have a3 := Int.dvd_add a1 a2
    rw [e, Int.sub_add_cancel] at a3
    have a4 := Int.natAbs_dvd_natAbs.mpr a3
    rwa [Int.natAbs_natCast] at a4
  · refine Nat.dvd_gcd (Nat.gcd_dvd_left g _) ?_
    have a1 : ((Nat.gcd g r.natAbs : Nat) : Int) ∣ r := by
      refine Int.natAbs_dvd_natAbs.mp ?_
      rw [Int.natAbs_natCast]
      exact Nat.gcd_dvd_right g _
    have a2 : ((Nat.gcd g r.natAbs : Nat) : Int) ∣ (m : Int) * (r / m) := Int.dvd_trans (Int.natCast_dvd_natCast.mpr (Nat.gcd_dvd_left g _)) h1
    have a3 := Int.dvd_sub a1 a2
    rw [← e] at a3
    exact Int.natCast_dvd_natCast.mp a3
theorem cop_app {d : Nat} : ∀ {l m : List Nat}, Cop (l ++ d :: m) → Nat.Coprime (prodN l) d
  | [], _, _ => by rw [prodN_nil]; exact Nat.coprime_one_left d
  | x :: l, m, h => by
    rw [prodN_cons]
    exact Nat.Coprime.mul_left (h.1 d (List.mem_append_right _ List.mem_cons_self)) (cop_app h.2)
theorem cop_at {ps : List (Int × Nat)} {i : Nat} {x : Int × Nat} (h : Cop (ps.map (·.2))) (hx : ps[i]? = some x) : Nat.gcd (prodN ((ps.map (·.2)).take i)) x.2 = 1 := by
  obtain ⟨hi, e⟩ := List.getElem?_eq_some_iff.mp hx
  have e2 : ps = ps.take i ++ x :: ps.drop (i + 1) := by
    rw [← e, List.getElem_cons_drop, List.take_append_drop]
  rw [e2, List.map_append, List.map_cons] at h
  rw [← List.map_take]
  exact cop_app h
theorem prod_bd {B : Nat} : ∀ {ps : List (Int × Nat)}, (∀ x ∈ ps, x.2 ≤ B) → prodN (ps.map (·.2)) ≤ B ^ ps.length
  | [], _ => by rw [List.map_nil, prodN_nil, List.length_nil, Nat.pow_zero]; exact Nat.le_refl 1
  | x :: ps, h => by
    rw [List.map_cons, prodN_cons, List.length_cons, Nat.pow_succ, Nat.mul_comm]
    exact Nat.mul_le_mul (prod_bd fun y hy => h y (List.mem_cons_of_mem _ hy)) (h x List.mem_cons_self)
theorem pw_lt {n : Nat} (h : n ≤ 19) : (1000000000000000000000000000000 : Nat) ^ n < 2 ^ 2000 :=
  Nat.lt_of_le_of_lt (Nat.pow_le_pow_left (show 1000000000000000000000000000000 ≤ 2 ^ 100 by decide) n) (by rw [← Nat.pow_mul]; exact Nat.pow_lt_pow_right (by decide) (by omega))
theorem inv_ok {d w : Nat} {s t : Int} (h : ((Nat.gcd d (w % d) : Nat) : Int) = s * d + t * (w % d : Nat)) (hc : Nat.gcd d (w % d) = 1) : (d : Int) ∣ t * w - 1 := by
  rw [hc] at h
  have e : (w : Int) = d * (w / d : Nat) + (w % d : Nat) := by
    have := Nat.div_add_mod w d
    exact_mod_cast this.symm
  refine ⟨t * (w / d : Nat) - s, ?_⟩
  rw [e, Int.mul_add, Int.mul_sub]
  have e2 : t * ((d : Int) * (w / d : Nat)) = d * (t * (w / d : Nat)) := by ac_rfl
  have e3 : s * (d : Int) = d * s := Int.mul_comm _ _
  rw [e2]
  omega
end My

namespace My
open G (InR)
/-- multipliers for some numbers, below m -/
def sumM (ms ns : List Int) : Int := (List.zipWith (· * ·) ms ns).sum
def MulOk (m : Nat) (ns ms : List Int) (g : Nat) : Prop := ms.length = ns.length ∧ InR m ms ∧ (m : Int) ∣ sumM ms ns - g
theorem sumM_app : ∀ {ms ns : List Int} {a b : Int}, ms.length = ns.length → sumM (ms ++ [a]) (ns ++ [b]) = sumM ms ns + a * b
  | [], [], a, b, _ => by simp [sumM]
  | [], _ :: _, _, _, h => by simp at h
  | _ :: _, [], _, _, h => by simp at h
  | x :: ms, y :: ns, a, b, h => by
    have ih := sumM_app (ms := ms) (ns := ns) (a := a) (b := b) (by simpa using h)
    unfold sumM at ih ⊢
    rw [List.cons_append, List.cons_append, List.zipWith_cons_cons, List.zipWith_cons_cons, List.sum_cons, List.sum_cons, ih]
    omega
theorem sumM_mul {m : Nat} {s : Int} : ∀ {ms ns : List Int}, (m : Int) ∣ sumM (ms.map fun x => x * s % m) ns - s * sumM ms ns
  | [], _ => by simp [sumM]
  | _ :: _, [] => by simp [sumM]
  | x :: ms, y :: ns => by
    have ih := sumM_mul (m := m) (s := s) (ms := ms) (ns := ns)
    unfold sumM at ih ⊢
    rw [List.map_cons, List.zipWith_cons_cons, List.zipWith_cons_cons, List.sum_cons, List.sum_cons]
    have e : x * s % (m : Int) = x * s - m * (x * s / m) := Int.emod_def _ _
    have h1 : (m : Int) ∣ (x * s % m) * y - s * (x * y) := by
      refine ⟨-(x * s / m * y), ?_⟩
      rw [e, Int.sub_mul]
      have e1 : x * s * y = s * (x * y) := by ac_rfl
      have e2 : (m : Int) * (x * s / m) * y = m * (x * s / m * y) := by ac_rfl
      rw [e1, e2, Int.mul_neg]
      omega
    have h2 := Int.dvd_add h1 ih
    rw [Int.mul_add]
    refine (show ∀ a b : Int, a = b → (m : Int) ∣ a → (m : Int) ∣ b from fun a b e h => e ▸ h) _ _ ?_ h2
    omega
theorem mulOk_step {m : Nat} {ns ms : List Int} {g k : Nat} {r s t : Int} (hm : 1 ≤ m) (h1 : ms.length = ns.length) (h2 : InR m ms) (h3 : (m : Int) ∣ sumM ms ns - g) (hst : ((Nat.gcd g k : Nat) : Int) = s * g + t * k) (hk : r % (m : Int) = k) :
    MulOk m (ns ++ [r]) (ms.map (fun x => x * s % m) ++ [t % m]) (Nat.gcd g k) := by
  have hm0 : (m : Int) ≠ 0 := by omega
  have hm1 : (0 : Int) < m := by omega
  refine ⟨by rw [List.length_append, List.length_append, List.length_map, h1] <;> rfl, fun x hx => ?_, ?_⟩
  · rcases List.mem_append.mp hx with hx | hx
    · obtain ⟨y, _, rfl⟩ := List.mem_map.mp hx
      exact ⟨Int.emod_nonneg _ hm0, Int.emod_lt_of_pos _ hm1⟩
    · rw [List.mem_singleton.mp hx]
      exact ⟨Int.emod_nonneg _ hm0, Int.emod_lt_of_pos _ hm1⟩
  · rw [sumM_app (by rw [List.length_map]; exact h1)]
    have a1 := sumM_mul (m := m) (s := s) (ms := ms) (ns := ns)
    have a2 : (m : Int) ∣ s * (sumM ms ns - g) := Int.dvd_mul_of_dvd_right h3
    have a3 : (m : Int) ∣ t % m * r - t * k := by
      have e1 : t % (m : Int) = t - m * (t / m) := Int.emod_def _ _
      have e2 : (k : Int) = r - m * (r / m) := by rw [← hk, Int.emod_def]
      refine ⟨t * (r / m) - t / m * r, ?_⟩
      rw [e1, e2, Int.sub_mul, Int.mul_sub, Int.mul_sub]
      have x1 : (m : Int) * (t / m) * r = m * (t / m * r) := by ac_rfl
      have x2 : t * ((m : Int) * (r / m)) = m * (t * (r / m)) := by ac_rfl
      rw [x1, x2]
      omega
    have a4 := Int.dvd_add (Int.dvd_add a1 a2) a3
    refine (show ∀ a b : Int, a = b → (m : Int) ∣ a → (m : Int) ∣ b from fun a b e h => e ▸ h) _ _ ?_ a4
    rw [hst, Int.mul_sub]
    omega
end My

namespace My
end My

set_option Elab.async false
set_option linter.all false
set_option maxRecDepth 100000
set_option maxHeartbeats 4000000
namespace My
open G (InR)
/-- what holds at one integer and from each to its neighbours holds at all -/
theorem int_ind {P : Int → Prop} (k : Int) (h0 : P k) (up : ∀ n, P n → P (n + 1)) (dn : ∀ n, P (n + 1) → P n) (n : Int) : P n := by
  have a : ∀ d : Nat, P (k + d) := fun d => by
    induction d with
    | zero => rw [Int.natCast_zero, Int.add_zero]; exact h0
    | succ d ih => rw [show k + ((d + 1 : Nat) : Int) = k + d + 1 by omega]; exact up _ ih
  have b : ∀ d : Nat, P (k - d) := fun d => by
    induction d with
    | zero => rw [Int.natCast_zero, Int.sub_zero]; exact h0
    | succ d ih => exact dn _ (by rw [show k - ((d + 1 : Nat) : Int) + 1 = k - d by omega]; exact ih)
  rcases Int.le_total k n with h | h
  · have := a (n - k).toNat
    rwa [show k + ((n - k).toNat : Int) = n by omega] at this
  · have := b (k - n).toNat
    rwa [show k - ((k - n).toNat : Int) = n by omega] at this
theorem bin_both : ∀ k : Nat, (∀ n : Int, ((k : Int) + 1) * bin n (k + 1) = bin n k * (n - k)) ∧ ∀ n : Int, bin (n + 1) (k + 1) = bin n (k + 1) + bin n k
  | 0 => by
    have e : ∀ n : Int, bin n 1 = n := fun n => by
      show 1 * (n - ((0 : Nat) : Int)) / (((0 : Nat) : Int) + 1) = n
      rw [Int.natCast_zero, Int.sub_zero, Int.one_mul, Int.zero_add, Int.ediv_one]
    refine ⟨fun n => ?_, fun n => ?_⟩
    · rw [e]
      show (((0 : Nat) : Int) + 1) * n = 1 * (n - ((0 : Nat) : Int))
      omega
    · rw [e, e]
      rfl
  | k + 1 => by
    obtain ⟨ex, pa⟩ := bin_both k
    have st : ∀ n : Int, bin (n + 1) (k + 1) * ((n + 1) - ((k + 1 : Nat) : Int)) = bin n (k + 1) * (n - ((k + 1 : Nat) : Int)) + (((k + 1 : Nat) : Int) + 1) * bin n (k + 1) := fun n => by
      have h1 := ex n
      rw [pa n, Int.natCast_add]
      grind
    have dv : ∀ n : Int, (((k + 1 : Nat) : Int) + 1) ∣ bin n (k + 1) * (n - ((k + 1 : Nat) : Int)) := by
      refine int_ind ((k + 1 : Nat) : Int) ?_ (fun n h => ?_) fun n h => ?_
      · rw [Int.sub_self, Int.mul_zero]
        exact Int.dvd_zero _
      · rw [st n]
        exact Int.dvd_add h (Int.dvd_mul_right _ _)
      · rw [st n] at h
        exact (Int.dvd_iff_dvd_of_dvd_add h).mpr (Int.dvd_mul_right _ _)
    have e2 : ∀ n : Int, (((k + 1 : Nat) : Int) + 1) * bin n (k + 1 + 1) = bin n (k + 1) * (n - ((k + 1 : Nat) : Int)) := fun n => Int.mul_ediv_cancel' (dv n)
    refine ⟨e2, fun n => ?_⟩
    refine Int.eq_of_mul_eq_mul_left (a := ((k + 1 : Nat) : Int) + 1) (by omega) ?_
    rw [Int.mul_add, e2, e2, st n]
theorem bin_at0 : ∀ k : Nat, bin 0 (k + 1) = 0
  | 0 => rfl
  | k + 1 => by
    show bin 0 (k + 1) * (0 - ((k + 1 : Nat) : Int)) / (((k + 1 : Nat) : Int) + 1) = 0
    rw [bin_at0 k, Int.zero_mul, Int.zero_ediv]
theorem bin_less (n : Int) : ∀ j : Nat, ((j : Int) + 1) * bin n (j + 1) = n * bin (n - 1) j
  | 0 => by
    rw [(bin_both 0).1]
    show 1 * (n - ((0 : Nat) : Int)) = n * 1
    omega
  | j + 1 => by
    refine Int.eq_of_mul_eq_mul_left (a := (j : Int) + 1) (by omega) ?_
    have h1 := (bin_both (j + 1)).1 n
    have h2 := bin_less n j
    have h3 := (bin_both j).1 (n - 1)
    rw [h1]
    have h4 : ((j + 1 : Nat) : Int) = (j : Int) + 1 := by omega
    rw [h4]
    grind
/-- the sum of some coefficients times the binomials from an index on -/
def VK : Nat → List Int → Int → Int
  | _, [], _ => 0
  | k, c :: cs, n => c * bin n k + VK (k + 1) cs n
def V (cs : List Int) (n : Int) : Int := VK 0 cs n
theorem VK_up (n : Int) : ∀ (k : Nat) (cs : List Int), VK (k + 1) cs (n + 1) = VK (k + 1) cs n + VK k cs n
  | _, [] => rfl
  | k, c :: cs => by
    show c * bin (n + 1) (k + 1) + VK (k + 1 + 1) cs (n + 1) = c * bin n (k + 1) + VK (k + 1 + 1) cs n + (c * bin n k + VK (k + 1) cs n)
    rw [VK_up n (k + 1) cs, (bin_both k).2, Int.mul_add]
    omega
theorem VK_at0 : ∀ (k : Nat) (cs : List Int), VK (k + 1) cs 0 = 0
  | _, [] => rfl
  | k, c :: cs => by
    show c * bin 0 (k + 1) + VK (k + 1 + 1) cs 0 = 0
    rw [bin_at0, VK_at0 (k + 1) cs, Int.mul_zero]
    rfl
theorem V_cons (c : Int) (cs : List Int) (n : Int) : V (c :: cs) n = c + VK 1 cs n := by
  show c * 1 + VK 1 cs n = _
  rw [Int.mul_one]
theorem V_at0 (c : Int) (cs : List Int) : V (c :: cs) 0 = c := by rw [V_cons, VK_at0, Int.add_zero]
theorem V_up (c : Int) (cs : List Int) (n : Int) : V (c :: cs) (n + 1) = V (c :: cs) n + V cs n := by
  rw [V_cons, V_cons, VK_up]
  exact (Int.add_assoc c (VK 1 cs n) (VK 0 cs n)).symm
theorem V_nil (n : Int) : V [] n = 0 := rfl
/-- two rows that begin alike and change alike -/
theorem rows_eq {f g : Int → Int} (h0 : f 0 = g 0) (h : ∀ n, f (n + 1) - f n = g (n + 1) - g n) : ∀ n, f n = g n := by
  refine int_ind 0 h0 (fun n e => ?_) fun n e => ?_
  · have := h n
    omega
  · have := h n
    omega
def mv : List Int → Int → List Int
  | [], _ => []
  | c :: cs, b => V (c :: cs) b :: mv cs b
theorem mv_val (b : Int) : ∀ (cs : List Int) (n : Int), V (mv cs b) n = V cs (b + n)
  | [], _ => rfl
  | c :: cs, n => by
    refine rows_eq (f := fun n => V (mv (c :: cs) b) n) (g := fun n => V (c :: cs) (b + n)) ?_ (fun n => ?_) n
    · show V (V (c :: cs) b :: mv cs b) 0 = _
      rw [V_at0, Int.add_zero]
    · show V (V (c :: cs) b :: mv cs b) (n + 1) - V (V (c :: cs) b :: mv cs b) n = V (c :: cs) (b + (n + 1)) - V (c :: cs) (b + n)
      rw [V_up, mv_val b cs n, show b + (n + 1) = b + n + 1 by omega, V_up]
      omega
theorem mv_at (b : Int) : ∀ (cs : List Int) (i : Nat), (mv cs b).getD i 0 = V (cs.drop i) b
  | [], _ => by simp [mv, V_nil]
  | c :: cs, 0 => rfl
  | c :: cs, i + 1 => mv_at b cs i
def Cg (m : Int) (xs ys : List Int) : Prop := ∀ i : Nat, m ∣ xs.getD i 0 - ys.getD i 0
theorem Cg.refl (m : Int) (xs : List Int) : Cg m xs xs := fun i => by rw [Int.sub_self]; exact Int.dvd_zero _
theorem Cg.symm {m : Int} {xs ys : List Int} (h : Cg m xs ys) : Cg m ys xs := fun i => by
  have := Int.dvd_neg.mpr (h i)
  rwa [Int.neg_sub] at this
theorem Cg.trans {m : Int} {xs ys zs : List Int} (h : Cg m xs ys) (k : Cg m ys zs) : Cg m xs zs := fun i => by
  have := Int.dvd_add (h i) (k i)
  rwa [show xs.getD i 0 - ys.getD i 0 + (ys.getD i 0 - zs.getD i 0) = xs.getD i 0 - zs.getD i 0 by omega] at this
theorem Cg.mono {m M : Int} {xs ys : List Int} (h : Cg M xs ys) (d : m ∣ M) : Cg m xs ys := fun i => Int.dvd_trans d (h i)
theorem VK_cg {m : Int} (n : Int) : ∀ (xs ys : List Int) (k : Nat), Cg m xs ys → m ∣ VK k xs n - VK k ys n
  | [], [], _, _ => by exact ⟨0, by show (0 : Int) - 0 = m * 0; rw [Int.mul_zero]; rfl⟩
  | [], y :: ys, k, h => by
    have h1 : m ∣ 0 - y := h 0
    have h2 := VK_cg n [] ys (k + 1) fun i => h (i + 1)
    show m ∣ 0 - (y * bin n k + VK (k + 1) ys n)
    have e : (0 : Int) - (y * bin n k + VK (k + 1) ys n) = (0 - y) * bin n k + (VK (k + 1) [] n - VK (k + 1) ys n) := by
      show _ = _ + (0 - VK (k + 1) ys n)
      grind
    rw [e]
    exact Int.dvd_add (Int.dvd_mul_of_dvd_left h1) h2
  | x :: xs, [], k, h => by
    have h1 : m ∣ x - 0 := h 0
    have h2 := VK_cg n xs [] (k + 1) fun i => h (i + 1)
    show m ∣ (x * bin n k + VK (k + 1) xs n) - 0
    have e : (x * bin n k + VK (k + 1) xs n) - 0 = (x - 0) * bin n k + (VK (k + 1) xs n - VK (k + 1) [] n) := by
      show _ = _ + (VK (k + 1) xs n - 0)
      grind
    rw [e]
    exact Int.dvd_add (Int.dvd_mul_of_dvd_left h1) h2
  | x :: xs, y :: ys, k, h => by
    have h1 : m ∣ x - y := h 0
    have h2 := VK_cg n xs ys (k + 1) fun i => h (i + 1)
    show m ∣ (x * bin n k + VK (k + 1) xs n) - (y * bin n k + VK (k + 1) ys n)
    have e : (x * bin n k + VK (k + 1) xs n) - (y * bin n k + VK (k + 1) ys n) = (x - y) * bin n k + (VK (k + 1) xs n - VK (k + 1) ys n) := by grind
    rw [e]
    exact Int.dvd_add (Int.dvd_mul_of_dvd_left h1) h2
theorem emod_of_dvd {m a b : Int} (h : m ∣ a - b) : a % m = b % m := by
  obtain ⟨k, hk⟩ := h
  have : a = b + m * k := by omega
  rw [this, Int.add_mul_emod_self_left]
theorem V_cg {m : Int} {xs ys : List Int} (h : Cg m xs ys) (n : Int) : V xs n % m = V ys n % m := emod_of_dvd (VK_cg n xs ys 0 h)
def cut : List Int → List Int
  | [] => []
  | x :: xs => if cut xs = [] ∧ x = 0 then [] else x :: cut xs
def tr (m : Int) (xs : List Int) : List Int := cut (xs.map (· % m))
theorem cut_at : ∀ (xs : List Int) (i : Nat), (cut xs).getD i 0 = xs.getD i 0
  | [], _ => rfl
  | x :: xs, i => by
    unfold cut
    by_cases h : cut xs = [] ∧ x = 0
    · rw [if_pos h, h.2]
      cases i with
      | zero => rfl
      | succ i =>
        have := cut_at xs i
        rw [h.1] at this
        exact this
    · rw [if_neg h]
      cases i with
      | zero => rfl
      | succ i => exact cut_at xs i
theorem cut_nil : ∀ {xs : List Int}, cut xs = [] ↔ ∀ i : Nat, xs.getD i 0 = 0
  | [] => by simp [cut]
  | x :: xs => by
    unfold cut
    by_cases h : cut xs = [] ∧ x = 0
    · rw [if_pos h]
      refine ⟨fun _ i => ?_, fun _ => rfl⟩
      cases i with
      | zero => exact h.2
      | succ i => exact cut_nil.mp h.1 i
    · rw [if_neg h]
      refine ⟨fun z => (by cases z), fun z => absurd ⟨cut_nil.mpr fun i => z (i + 1), z 0⟩ h⟩
theorem cut_ext : ∀ {xs ys : List Int}, (∀ i : Nat, xs.getD i 0 = ys.getD i 0) → cut xs = cut ys
  | [], ys, h => ((cut_nil (xs := ys)).mpr fun i => (h i).symm.trans (by simp)).symm
  | x :: xs, [], h => (cut_nil (xs := x :: xs)).mpr fun i => (h i).trans (by simp)
  | x :: xs, y :: ys, h => by
    have e : x = y := h 0
    have e2 : cut xs = cut ys := cut_ext fun i => h (i + 1)
    unfold cut
    rw [e, e2]
theorem cut_cut (xs : List Int) : cut (cut xs) = cut xs := cut_ext (cut_at xs)
theorem cut_len : ∀ xs : List Int, (cut xs).length ≤ xs.length
  | [] => Nat.le_refl _
  | x :: xs => by
    have := cut_len xs
    unfold cut
    by_cases h : cut xs = [] ∧ x = 0
    · rw [if_pos h]
      exact Nat.zero_le _
    · rw [if_neg h, List.length_cons, List.length_cons]
      omega
theorem cut_mem : ∀ {xs : List Int} {x : Int}, x ∈ cut xs → x ∈ xs
  | [], _, h => h
  | y :: ys, x, h => by
    unfold cut at h
    by_cases g : cut ys = [] ∧ y = 0
    · rw [if_pos g] at h
      cases h
    · rw [if_neg g] at h
      rcases List.mem_cons.mp h with rfl | h
      · exact List.mem_cons_self
      · exact List.mem_cons_of_mem _ (cut_mem h)
theorem getD_map {f : Int → Int} (h0 : f 0 = 0) : ∀ (xs : List Int) (i : Nat), (xs.map f).getD i 0 = f (xs.getD i 0)
  | [], _ => h0.symm
  | x :: xs, 0 => rfl
  | x :: xs, i + 1 => getD_map h0 xs i
theorem tr_len (m : Int) (xs : List Int) : (tr m xs).length ≤ xs.length := by
  have := cut_len (xs.map (· % m))
  rwa [List.length_map] at this
theorem tr_in {m : Int} (hm : 0 < m) (xs : List Int) : InR m (tr m xs) := fun x hx => by
  obtain ⟨y, _, rfl⟩ := List.mem_map.mp (cut_mem hx)
  exact ⟨Int.emod_nonneg _ (by omega), Int.emod_lt_of_pos _ hm⟩
theorem tr_cut (m : Int) (xs : List Int) : cut (tr m xs) = tr m xs := cut_cut _
theorem bin_per {m t : Int} {j : Nat} (h1 : 1 ≤ j) (h2 : j ≤ 12) : m ∣ bin (27720 * m * t) j := by
  obtain ⟨i, rfl⟩ : ∃ i, j = i + 1 := ⟨j - 1, by omega⟩
  obtain ⟨q, hq⟩ : ∃ q : Int, ((i : Int) + 1) * q = 27720 := by
    have : i = 0 ∨ i = 1 ∨ i = 2 ∨ i = 3 ∨ i = 4 ∨ i = 5 ∨ i = 6 ∨ i = 7 ∨ i = 8 ∨ i = 9 ∨ i = 10 ∨ i = 11 := by omega
    rcases this with rfl | rfl | rfl | rfl | rfl | rfl | rfl | rfl | rfl | rfl | rfl | rfl
    · exact ⟨27720, rfl⟩
    · exact ⟨13860, rfl⟩
    · exact ⟨9240, rfl⟩
    · exact ⟨6930, rfl⟩
    · exact ⟨5544, rfl⟩
    · exact ⟨4620, rfl⟩
    · exact ⟨3960, rfl⟩
    · exact ⟨3465, rfl⟩
    · exact ⟨3080, rfl⟩
    · exact ⟨2772, rfl⟩
    · exact ⟨2520, rfl⟩
    · exact ⟨2310, rfl⟩
  have e := bin_less (27720 * m * t) i
  have e2 : bin (27720 * m * t) (i + 1) = m * (q * t * bin (27720 * m * t - 1) i) := by
    refine Int.eq_of_mul_eq_mul_left (a := (i : Int) + 1) (by omega) ?_
    rw [e]
    generalize bin (27720 * m * t - 1) i = z
    rw [← hq]
    grind
  rw [e2]
  exact Int.dvd_mul_right _ _
theorem VK_dvd {m n : Int} : ∀ (k : Nat) (cs : List Int), (∀ j : Nat, k ≤ j → j < k + cs.length → m ∣ bin n j) → m ∣ VK k cs n
  | _, [], _ => Int.dvd_zero m
  | k, c :: cs, h => Int.dvd_add (Int.dvd_mul_of_dvd_right (h k (Nat.le_refl _) (by rw [List.length_cons]; omega))) (VK_dvd (k + 1) cs fun j h1 h2 => h j (by omega) (by rw [List.length_cons]; omega))
theorem mv_per {m t : Int} {cs : List Int} (h : cs.length ≤ 13) : Cg m (mv cs (27720 * m * t)) cs := fun i => by
  rw [mv_at]
  have hl : (cs.drop i).length ≤ 13 := by rw [List.length_drop]; omega
  have e : cs.getD i 0 = (cs.drop i).getD 0 0 := by
    rw [List.getD_eq_getElem?_getD, List.getD_eq_getElem?_getD, List.getElem?_drop]
    rfl
  rw [e]
  cases hc : cs.drop i with
  | nil => exact ⟨0, by show V [] _ - 0 = _; rw [V_nil, Int.mul_zero]; rfl⟩
  | cons c r =>
    rw [hc, List.length_cons] at hl
    rw [V_cons]
    show m ∣ c + VK 1 r _ - c
    rw [show c + VK 1 r (27720 * m * t) - c = VK 1 r (27720 * m * t) by omega]
    exact VK_dvd 1 r fun j h1 h2 => bin_per h1 (by omega)
theorem V_per {m t : Int} {cs : List Int} (h : cs.length ≤ 13) (n : Int) : V cs (n + 27720 * m * t) % m = V cs n % m := by
  rw [Int.add_comm, ← mv_val]
  exact V_cg (mv_per h) n
def diff : List Int → List Int
  | a :: b :: r => (b - a) :: diff (b :: r)
  | _ => []
def dvN : Nat → List Int → List Int
  | n + 1, x :: xs => x :: dvN n (diff (x :: xs))
  | _, _ => []
def dv (xs : List Int) : List Int := dvN xs.length xs
/-- the first values of a row -/
def row (f : Int → Int) (n : Nat) : List Int := (List.range n).map fun i : Nat => f (i : Int)
end My

set_option Elab.async false
set_option linter.all false
set_option maxRecDepth 100000
set_option maxHeartbeats 4000000
namespace G
open PySem PySem.Spec PyProof.Rows L2
section
variable {K : PySem.W.Frag} {W : WX} {O : List OD} {ts : List T} {P : PT'} {X : XX} {te : TE} {tt : TT}
end
end G
namespace My
open G (InR)
end My

set_option Elab.async false
set_option linter.all false
set_option maxRecDepth 100000
set_option maxHeartbeats 4000000
namespace G
open PySem PySem.Spec PyProof.Rows L2
end G

set_option Elab.async false
set_option linter.all false
set_option maxRecDepth 100000
set_option maxHeartbeats 4000000
namespace My2
open PySem PySem.W PyProof.Rows
section
variable {pr : Program} {wo : World} {B : Around} {Er : Value → Shared → Prop} {st : Shared} {K : Frag} {a cl lo me : Addr} {base : Heap} {nsm : Str → Option Value} {oa : Obj} {da : Option Obj}
end
end My2
namespace G
open PySem PySem.Spec PyProof.Rows L2
end G

set_option Elab.async false
set_option linter.all false
set_option maxRecDepth 100000
set_option maxHeartbeats 4000000
namespace G
open PySem PySem.Spec PyProof.Rows L2
end G

set_option Elab.async false
set_option linter.all false
set_option maxRecDepth 100000
set_option maxHeartbeats 4000000
namespace G
open PySem PySem.Spec PyProof.Rows L2
/-- the integers from a on below b -/
def rgI (a b : Int) : List Int := (List.range (b - a).toNat).map fun i : Nat => a + (i : Int)
theorem rgI_len (a b : Int) : (rgI a b).length = (b - a).toNat := by
  unfold rgI
  rw [List.length_map, List.length_range]
section
variable {K : PySem.W.Frag} {W : WX} {O : List OD} {ts : List T} {P : PT'} {X : XX} {ta tb : TE}
variable {g : TG} {te : TE} {vs : List Nat}
/-- [e for x in range(lo, hi)] -/
theorem lc_R2 {lo : Int} {n : Nat} (r : Int → D) (hz : n ≤ 1000000)
    (hs : ∀ (i : Nat) acc, i < n → WG K W g (.v (.int (lo + i))) (O ++ [.lst acc]) (wipeT ts vs) (fun ts2 O2 => WE K W te O2 ts2 (fun y O4 => y = .v (r (lo + i)) ∧ O4 = O ++ [.lst acc]) X0))
    (hd : P (.v (.lst ((List.range n).map fun i : Nat => r (lo + i)))) O) : LcEx K W g te vs P ts (itR lo 1 n) O :=
  lc_P (item := fun i : Nat => .v (.int (lo + i))) (fun i : Nat => r (lo + i)) (fun i hi => by
    unfold itR
    rw [if_pos hi, Int.mul_one]) (by unfold itR; rw [if_neg (Nat.lt_irrefl n)]) hz hs hd
end
end G

set_option Elab.async false
set_option linter.all false
set_option maxRecDepth 100000
set_option maxHeartbeats 4000000
namespace G
open PySem PySem.Spec PyProof.Rows L2
/-- the texts one behind the other -/
def tJn (tes : List TE) (acc : Str) : TE := fun σ H Q => tJs tes acc σ H fun out H1 => Q (.str out) H1
def rJoin (K : PySem.W.Frag) : V → List V → Hp → VK → Prop := fun x xs H Q => ∃ a p, ∃ ys : List Str, x = .str a ∧ xs = [.ref p] ∧ (SqL K H p (ys.map V.str) ∨ SqT K H p (ys.map V.str)) ∧ (ys.map (·.length)).sum + ys.length * a.length ≤ 16777216 ∧ Q (.str (Txt.join a ys)) H
theorem repL_strs {K : PySem.W.Frag} {F : Hp} : ∀ {ys : List Str} {vs : List V}, RepL K F (ys.map D.str) vs → vs = ys.map V.str
  | [], _, h => h
  | y :: ys, _, h => by
    obtain ⟨v, r, rfl, h1, h2⟩ := h
    rw [show v = V.str y from h1, repL_strs h2]
    rfl
section
variable {K : PySem.W.Frag} {W : WX} {O : List OD} {ts : List T} {P : PT'} {X : XX} {ta tb : TE} {sp : SpD} {C : Addr} {fs : List (Str × D)}
theorem c_strI {i : Int} (hz : i.natAbs.log2 < 1920) (k : P (.v (.str (toString i))) O) : WC K (fun xs H Q => ∃ i : Int, xs = [.int i] ∧ i.natAbs.log2 < 1920 ∧ Q (.str (toString i)) H) [.v (.int i)] O P := fun b A H Q vs s r kv => by
  obtain ⟨_, _, rfl, ⟨_, e1, r1⟩, rfl⟩ := r
  cases e1
  exact ⟨i, by rw [r1], hz, kv _ _ A O H k s Nxt.refl ⟨_, rfl, rfl⟩⟩
theorem w_jnil {acc : Str} (k : P (.v (.str acc)) O) : WE K W (tJn [] acc) O ts P X := fun b A σ H Q s rs kv kx => kv _ _ A O H k s Nxt.refl ⟨_, rfl, rfl⟩
theorem w_jcons {acc : Str} {tes : List TE} (h : WE K W ta O ts (fun x O1 => ∃ y : Str, x = .v (.str y) ∧ (acc ++ y).length ≤ sizeLine ∧ WE K W (tJn tes (acc ++ y)) O1 ts P X) X) : WE K W (tJn (ta :: tes) acc) O ts P X := fun b A σ H Q s rs kv kx =>
  h b A σ H _ s rs (fun x v A1 O1 H1 p s1 n1 r1 => by
    obtain ⟨y, rfl, hz, q⟩ := p
    obtain ⟨_, e1, e2⟩ := id r1
    cases e1
    exact ⟨y, e2, hz, q b A1 σ H1 Q s1 (rs.nxt n1) (kv.nxt n1) (kx.nxt n1)⟩) kx
theorem w_join (h : WE K W ta O ts (fun x O1 => ∃ a : Str, x = .v (.str a) ∧ WE K W tb O1 ts (fun y O2 => ∃ ys : List Str, LstD y O2 (ys.map D.str) ∧ (ys.map (·.length)).sum + ys.length * a.length ≤ 16777216 ∧ P (.v (.str (Txt.join a ys))) O2) X) X) : WE K W (tM1 (rJoin K) ta tb) O ts P X := fun b A σ H Q s rs kv kx =>
  h b A σ H _ s rs (fun x v A1 O1 H1 p s1 n1 r1 => by
    obtain ⟨a, rfl, q⟩ := p
    obtain ⟨_, e1, e2⟩ := id r1
    cases e1
    refine ⟨⟨a, e2⟩, q b A1 σ H1 _ s1 (rs.nxt n1) (fun y u A2 O2 H2 p2 s2 n2 r2 => ?_) (kx.nxt n1)⟩
    obtain ⟨ys, hl, hz, k⟩ := p2
    obtain ⟨p', vs, rfl, sq, rl⟩ := lstD_at hl s2 r2
    rw [repL_strs rl] at sq
    exact ⟨a, p', ys, e2, rfl, .inl sq, hz, kv _ _ A2 O2 H2 k s2 (n1.trans n2) ⟨_, rfl, rfl⟩⟩) kx
end
/-- how long the text of an integer is -/
theorem text_len {n : Int} (h : Sm n) : (Str.ofString (toString n)).length ≤ 201 := by
  rw [PySem.ofString_length]
  exact int_text_length_le (k := 200) (by decide) (sm_log h)
theorem sm_1920 {n : Int} (h : Sm n) : n.natAbs.log2 < 1920 := Nat.lt_trans (sm_log h) (by decide)
end G
namespace G
open PySem PySem.Spec PyProof.Rows L2
end G

set_option Elab.async false
set_option linter.all false
set_option maxRecDepth 100000
set_option maxHeartbeats 4000000
namespace G
open PySem PySem.Spec PyProof.Rows L2
def tSMeth (C : Addr) (sp : Sp) (E : XK) (ta : TE) (t : TA) : TE := fun σ H Q => ta σ H fun x H1 => x = .ref C ∧ t σ H1 fun vs H2 => sp vs H2 Q E
section
variable {K : PySem.W.Frag} {W : WX} {O : List OD} {ts : List T} {P : PT'} {X : XX} {sp : SpD} {tr : TA} {ta tv : TE} {C : Addr} {m f : Str}
theorem w_smeth (h : WE K W ta O ts (fun x O1 => x = .v (.ref C) ∧ WA K W tr O1 ts (fun xs O2 => ∃ ds, unv xs = some ds ∧ sp xs [] (fun t _ => (∃ d, t = .v d) ∧ P t O2) (fun _ _ _ => False)) X) X) :
    WE K W (tSMeth C (lift K sp) E0 ta tr) O ts P X := fun b A σ H Q s rs kv kx =>
  h b A σ H _ s rs (fun x v A1 O1 H1 p1 s1 n1 r1 => by
    obtain ⟨rfl, p⟩ := p1
    obtain ⟨_, e1, e2⟩ := id r1
    cases e1
    refine ⟨e2, p b A1 σ H1 _ s1 (rs.nxt n1) (fun xs us A2 O2 H2 p2 s2 n2 r2 => ?_) (kx.nxt n1)⟩
    obtain ⟨ds, e, q⟩ := p2
    exact lift_p (W := fun _ _ _ _ => False) (X := fun _ _ _ => False) (σ := σ) s2 r2 e (fun _ _ _ z => z) q (kv.nxt (n1.trans n2)) fun _ _ _ _ _ _ z => z.elim) kx
theorem tr1_v {i : Nat} : ∀ {xs : List T} {ds : List D}, unv xs = some ds → tr1 i xs = some xs
  | [], _, _ => rfl
  | .v d :: xs, ds, e => by
    have e3 : (unv xs).map (d :: ·) = some ds := e
    cases q : unv xs with
    | none =>
      rw [q] at e3
      cases e3
    | some es =>
      show (tr1 i xs).map (T.v d :: ·) = _
      rw [tr1_v q] <;> rfl
  | .own _ :: _, _, e => by cases e
  | .no :: _, _, e => by cases e
  | .clo _ _ :: _, _, e => by cases e
end
end G

set_option Elab.async false
set_option linter.all false
set_option maxRecDepth 100000
set_option maxHeartbeats 4000000
namespace G
open PySem PySem.Spec PyProof.Rows L2 TL
def rSplit : V → List V → Hp → VK → Prop := fun x xs H Q => ∃ a b, x = .str a ∧ xs = [.str b] ∧ (b.length == 0) = false ∧ a.length + 2 ≤ sizeLine ∧ rNewStrs (Txt.split a b) H Q
theorem repL_of_strs {K : PySem.W.Frag} {F : Hp} : ∀ ys : List Str, RepL K F (ys.map D.str) (ys.map V.str)
  | [] => rfl
  | y :: ys => ⟨.str y, _, rfl, rfl, repL_of_strs ys⟩
section
variable {K : PySem.W.Frag} {W : WX} {O : List OD} {ts : List T} {P : PT'} {X : XX} {ta tb : TE}
theorem w_split (h : WE K W ta O ts (fun x O1 => ∃ a : Str, x = .v (.str a) ∧ WE K W tb O1 ts (fun y O2 => ∃ c : Str, y = .v (.str c) ∧ (c.length == 0) = false ∧ a.length + 2 ≤ sizeLine ∧ P (.v (.lst ((Txt.split a c).map D.str))) O2) X) X) : WE K W (tM1 rSplit ta tb) O ts P X := fun b A σ H Q s rs kv kx =>
  h b A σ H _ s rs (fun x v A1 O1 H1 p s1 n1 r1 => by
    obtain ⟨a, rfl, q⟩ := p
    obtain ⟨_, e1, e2⟩ := id r1
    cases e1
    refine ⟨⟨a, e2⟩, q b A1 σ H1 _ s1 (rs.nxt n1) (fun y u A2 O2 H2 p2 s2 n2 r2 => ?_) (kx.nxt n1)⟩
    obtain ⟨c, rfl, hc, hz, k⟩ := p2
    obtain ⟨_, e3, e4⟩ := id r2
    cases e3
    refine ⟨a, c, e2, by rw [e4], hc, hz, fun p' hp => ?_⟩
    obtain ⟨s3, n3, q3⟩ := s2.lay hp (.lst ((Txt.split a c).map V.str))
    exact kv _ _ A2 O2 _ k s3 ((n1.trans n2).trans n3) ⟨_, rfl, p', _, rfl, q3, repL_of_strs _⟩) kx
end
end G

set_option Elab.async false
set_option linter.all false
set_option maxRecDepth 100000
set_option maxHeartbeats 4000000
namespace G
open PySem PySem.Spec PyProof.Rows L2 TL
end G

set_option Elab.async false
set_option linter.all false
set_option maxRecDepth 100000
set_option maxHeartbeats 4000000
namespace G
open PySem PySem.Spec PyProof.Rows L2 TL
end G

set_option Elab.async false
set_option linter.all false
set_option maxRecDepth 100000
set_option maxHeartbeats 4000000
namespace G
open PySem PySem.Spec PyProof.Rows L2
def tCallKr (sp : Sp) (E : XK) (t : TA) : TE := fun σ H Q => t σ H fun zs H1 => sp zs.reverse H1 Q E
theorem vals_rev {vs : List V} {us : List Value} (r : Vals vs us) : Vals vs.reverse us.reverse := turn_vals (tw := true) r
theorem pe_callKn {X : Cx} {CX : CXT} {k : Nat} {f : Addr} {fd : FuncData} {ps : List Str} {sp : Sp} {E : XK} {x : Str} {kws : List Keyword} {tk : TA} {p pos : Pos} (F : FnOk X.prog X.w X.K X.mg X.base CX k f fd ps sp) (hr : Room k X.A) (hg : Gl X x) (hm : X.mg x = some (.ref f)) (hk : PySem.W.keepIn X.K (.ref f) = true) (hb : KwR X.K fd ps) (hx : Passes CX X E)
    (hkw : PK X kws tk) (hall : (backToKw pos (keywordEach kws X.env)).all (·.1.isSome) = true := by rfl) (hks : (backToKw pos (keywordEach kws X.env)).filterMap (·.1) = ps.reverse := by rfl)
    (hdb : (x == ("__debug__" : Str)) = false := by decide)
    (hpl : ((backTo pos (starEach [] X.env)).any (·.1) || (backToKw pos (keywordEach kws X.env)).any (·.1.isNone)) = false := by rfl) :
    PE X (.Call (.Name x p) [] kws pos) (tCallKr sp E tk) := by
  constructor
  intro pins s σ H Q I h
  refine wpAny_Call_Name_kw (ld_glob I hg hm ?_ hdb)
  refine PySem.W.callWith_KW0 (h₀ := X.base) I.ok.mod.kin hk hall (thn (hkw.run pos pins s σ H _ I h) fun ws s2 z => ?_) hpl
  obtain ⟨zs, H2, I2, rz, q2⟩ := z
  refine ⟨I2.kIn, ?_⟩
  rw [hks]
  have l0 := F.len _ _ _ _ q2
  rw [List.length_reverse, rz.length] at l0
  refine wpAny_call (codeAny_mono (F.run X.A X.stack s2 H2 ⟨[], ps.reverse.zip ws⟩ ws.reverse zs.reverse Q E hr I2.env0 (hb s2 ws I2.kIn l0) (vals_rev rz) q2) fun r s' hq => ?_)
  exact match r, hq with
    | .error e, hq => hx pins σ H2 s2 e s' I2 hq
    | .ok (.ret _), hq => I2.after hq
theorem w_fnKr {K : PySem.W.Frag} {W : WX} {O : List OD} {ts : List T} {P : PT'} {X : XX} {sp : SpD} {tk : TA} (h : WA K W tk O ts (fun xs O1 => ∃ ds, unv xs = some ds ∧ sp (ds.reverse.map T.v) [] (fun t _ => (∃ d, t = .v d) ∧ P t O1) (fun _ _ _ => False)) X) :
    WE K W (tCallKr (lift K sp) E0 tk) O ts P X := fun b A σ H Q s rs kv kx =>
  h b A σ H _ s rs (fun xs vs A1 O1 H1 p1 s1 n1 r1 => by
    obtain ⟨ds, e, p⟩ := p1
    exact lift_p (W := fun _ _ _ _ => False) (X := fun _ _ _ => False) (σ := σ) s1 (xs := ds.reverse.map T.v) (ds := ds.reverse) (turn_rep (tw := true) r1 e) unv_map (fun _ _ _ z => z) p (kv.nxt n1) fun _ _ _ _ _ _ z => z.elim) kx
end G
namespace G
open PySem PySem.Spec PyProof.Rows L2
end G

set_option Elab.async false
set_option linter.all false
set_option maxRecDepth 100000
set_option maxHeartbeats 4000000
namespace G
open PySem PySem.Spec PyProof.Rows L2
section
variable {K : PySem.W.Frag} {W : WX} {O : List OD} {ts : List T} {P : PT'} {X : XX} {g : TG} {te : TE} {vs : List Nat}
/-- [f x for x in range(lo, hi) if p x] -/
theorem lcF_R2 {tt : TT} {lo : Int} {n : Nat} (p : Int → Bool) (f : Int → D) (hz : n ≤ 1000000)
    (hs : ∀ (i : Nat) acc, i < n → WG K W g (.v (.int (lo + i))) (O ++ [.lst acc]) (wipeT ts vs) (fun ts2 O2 => WT K W tt O2 ts2 (fun c O3 => c = p (lo + i) ∧ O3 = O ++ [.lst acc] ∧ (p (lo + i) = true → WE K W te (O ++ [.lst acc]) ts2 (fun y O4 => y = .v (f (lo + i)) ∧ O4 = O ++ [.lst acc]) X0)) X0))
    (hd : P (.v (.lst (((rgI lo (lo + n)).filter p).map f))) O) : LcExT K W g tt te vs P ts (itR lo 1 n) O := by
  have e : itR lo 1 n = itD ((rgI lo (lo + n)).map D.int) := by
    funext i
    unfold itR itD rgI
    rw [List.map_map, List.getElem?_map, show (lo + (n : Int) - lo).toNat = n by omega]
    by_cases hi : i < n
    · rw [if_pos hi, List.getElem?_range hi, Int.mul_one]
      rfl
    · rw [if_neg hi, List.getElem?_eq_none (by rw [List.length_range]; omega)]
      rfl
  rw [e]
  refine lcF_A (rgI lo (lo + n)) D.int p f (by rw [rgI_len]; omega) (fun x acc hx => ?_) hd
  unfold rgI at hx
  obtain ⟨i, hi, rfl⟩ := List.mem_map.mp hx
  rw [List.mem_range] at hi
  exact hs i acc (by omega)
end
end G

set_option Elab.async false
set_option linter.all false
set_option maxRecDepth 100000
set_option maxHeartbeats 4000000
namespace RZ
open PySem PySem.Spec PyProof.Rows L2
end RZ
namespace G
open PySem PySem.Spec PyProof.Rows L2
section
variable {K : PySem.W.Frag} {W : WX} {O : List OD} {ts : List T} {X : XX} {ta : TA}
end
end G

set_option Elab.async false
set_option linter.all false
set_option maxRecDepth 100000
set_option maxHeartbeats 4000000
namespace My3
open PySem PySem.W PyProof.Rows
section
variable {pr : Program} {wo : World} {B : Around} {Er : Value → Shared → Prop} {st : Shared} {K : Frag} {a cl lo me fw : Addr} {base : Heap} {nsm : Str → Option Value} {oa : Obj} {da : Option Obj}
end
end My3
namespace G
open PySem PySem.Spec PyProof.Rows L2
section
variable {X : Cx} {CX : CXT} {k : Nat} {C g : Addr} {sp : Sp} {E : XK} {m : Str}
end
end G

set_option Elab.async false
set_option linter.all false
set_option maxRecDepth 100000
set_option maxHeartbeats 4000000
namespace G
open PySem PySem.Spec PyProof.Rows L2
section
variable {K : PySem.W.Frag} {W : WX} {O : List OD} {ts : List T} {P : PT'} {g : TG} {te : TE} {vs : List Nat}
end
end G

set_option Elab.async false
set_option linter.all false
set_option maxRecDepth 100000
set_option maxHeartbeats 4000000
namespace My4
open PySem PySem.SeqAt GQ
open AutoSeq1 (wpAny_loadPart')
open MeetsSeq MeetsSeq2 MeetsSeq3 SeqRoads2
section
variable {prog : Program} {w : World} {A : Around} {R : Result → Shared → Prop}
end
end My4
namespace G
open PySem PySem.Spec PyProof.Rows L2
section
variable {X : Cx} {CX : CXT} {k : Nat} {C g : Addr} {sp : SpD}
end
section
variable {X : Cx} {CX : CXT} {k : Nat} {C g : Addr} {sp : SpD}
end
end G

set_option Elab.async false
set_option linter.all false
set_option maxRecDepth 100000
set_option maxHeartbeats 4000000
namespace G
open PySem PySem.Spec PyProof.Rows L2
section
variable {K : PySem.W.Frag} {P : PT'} {sp : SpD} {b : Bs} {A1 : List Addr} {O1 : List OD} {H1 : Hp} {xs : List T} {vs : List V} {ds : List D} {Q : VK} {σ : L2.St}
end
section
variable {K : PySem.W.Frag} {W : WX} {O : List OD} {ts : List T} {P : PT'} {X : XX} {sp : SpD} {tk : TA} {C : Addr} {tw : Bool} {m : Nat}
end
end G

set_option Elab.async false
set_option linter.all false
set_option maxRecDepth 100000
set_option maxHeartbeats 4000000
namespace G
open PySem PySem.Spec PyProof.Rows L2
def dAt : List (Key × D) → Key → Option D
  | [], _ => none
  | p :: r, k => if p.1 = k then some p.2 else dAt r k
theorem RepK.at_ {K : PySem.W.Frag} {F : Hp} : ∀ {kvs : List (Key × D)} {ws : List (Key × V)}, RepK K F kvs ws → ∀ {k : Key} {d : D}, dAt kvs k = some d → ∃ v, valV ws k = some v ∧ Rep K F d v
  | [], _, _, _, _, h => nomatch h
  | p :: r, ws, h, k, d, e => by
    obtain ⟨v, r', rfl, hv, hr⟩ := h
    have e' : (if p.1 = k then some p.2 else dAt r k) = some d := e
    by_cases q : p.1 = k
    · rw [if_pos q] at e'
      cases e'
      exact ⟨v, valV_pos (p := (p.1, v)) q, hv⟩
    · rw [if_neg q] at e'
      obtain ⟨w, e1, e2⟩ := hr.at_ e'
      exact ⟨w, (valV_neg (p := (p.1, v)) q).trans e1, e2⟩
theorem RepK.len {K : PySem.W.Frag} {F : Hp} : ∀ {kvs : List (Key × D)} {ws : List (Key × V)}, RepK K F kvs ws → ws.length = kvs.length
  | [], ws, h => by
    cases (show ws = [] from h)
    rfl
  | p :: r, ws, h => by
    obtain ⟨v, r', rfl, hv, hr⟩ := h
    rw [List.length_cons, List.length_cons, hr.len]
theorem RepK.snoc {K : PySem.W.Frag} {F : Hp} {k : Key} {d : D} {v : V} (hv : Rep K F d v) : ∀ {kvs : List (Key × D)} {ws : List (Key × V)}, RepK K F kvs ws → RepK K F (kvs ++ [(k, d)]) (ws ++ [(k, v)])
  | [], ws, h => by
    cases (show ws = [] from h)
    exact ⟨v, [], rfl, hv, rfl⟩
  | p :: r, ws, h => by
    obtain ⟨u, r', rfl, hu, hr⟩ := h
    exact ⟨u, r' ++ [(k, v)], rfl, hu, hr.snoc hv⟩
section
variable {K : PySem.W.Frag} {W : WX} {O : List OD} {ts : List T} {P : PT'} {X : XX} {td ty : TE}
end
theorem ints_of {K : PySem.W.Frag} {F : Hp} : ∀ {ys : List Int} {vs : List V}, RepL K F (ys.map D.int) vs → vs = ys.map V.int
  | [], _, h => h
  | y :: r, vs, h => by
    obtain ⟨v, r', rfl, hv, hr⟩ := h
    cases (show v = V.int y from hv)
    rw [ints_of hr, List.map_cons]
end G

set_option Elab.async false
set_option linter.all false
set_option maxRecDepth 100000
set_option maxHeartbeats 4000000
namespace My6
open PySem PySem.SeqAt GQ
open AutoSeq1 (wpAny_loadPart')
open MeetsSeq MeetsSeq2 MeetsSeq3 SeqRoads2
section
variable {prog : Program} {w : World} {A : Around} {R : Result → Shared → Prop}
end
end My6
namespace G
open PySem PySem.Spec PyProof.Rows L2
section
variable {X : Cx} {CX : CXT} {k : Nat} {C g : Addr} {sp : SpD}
end
section
variable {X : Cx} {CX : CXT} {k : Nat} {C g : Addr} {sp : SpD}
end
end G

set_option Elab.async false
set_option linter.all false
set_option maxRecDepth 100000
set_option maxHeartbeats 4000000
namespace G
open PySem PySem.Spec PyProof.Rows L2
end G
namespace G
open PySem PySem.Spec PyProof.Rows L2
section
variable {X : Cx} {CX : CXT} {k : Nat} {C g : Addr} {sp : Sp} {E : XK} {a b : Expr} {ta tb : TE} {pos : Pos}
end
end G

set_option Elab.async false
set_option linter.all false
set_option maxRecDepth 100000
set_option maxHeartbeats 4000000
namespace G
open PySem PySem.Spec PyProof.Rows L2
section
variable {X : Cx} {CX : CXT} {k : Nat} {C g : Addr} {sp : Sp} {E : XK}
end
end G

set_option Elab.async false
set_option linter.all false
set_option maxRecDepth 100000
set_option maxHeartbeats 4000000
namespace G
open PySem PySem.Spec PyProof.Rows L2
def KwT (K : PySem.W.Frag) (fd : FuncData) (ps : List Str) (tw : Bool) : Prop := ∀ (s : Shared) (ws : List Value), K.In s.heap → ws.length = ps.length → BindsTo s fd ⟨[], (turnL tw ps).zip ws⟩ (ps.zip (turnL tw ws))
theorem KwB.t {K : PySem.W.Frag} {fd : FuncData} {ps : List Str} (h : KwB K fd ps) : KwT K fd ps false := h
theorem KwR.t {K : PySem.W.Frag} {fd : FuncData} {ps : List Str} (h : KwR K fd ps) : KwT K fd ps true := h
def tCallKX (tw : Bool) (sp : Sp) (E : L2.St → XK) (t : TA) : TE := fun σ H Q => t σ H fun zs H1 => sp (turnL tw zs) H1 Q (E σ)
section
variable {X : Cx} {CX : CXT} {k : Nat} {f C g : Addr} {fd : FuncData} {ps ks : List Str} {sp : Sp} {E : L2.St → XK} {E1 : XK} {x m : Str} {kws : List Keyword} {tk t : TA} {ta tb : TE} {tw : Bool} {p p2 pos apos : Pos} {e o a b : Expr} {es : List Expr} {pl : Sem Bool}
def tMakeX (C : Addr) (sp : Sp) (E : L2.St → XK) (t : TA) : TE := fun σ H Q => t σ H fun vs H1 => ∀ x dx, H1 x = Option.none → H1 dx = Option.none → dx ≠ x →
  sp (V.ref x :: vs) (upd (upd H1 dx (.own x)) x (.ins C dx [])) (fun v H2 => v = .non ∧ Q (.ref x) H2) (E σ)
def tSMethX (C : Addr) (sp : Sp) (E : L2.St → XK) (ta : TE) (t : TA) : TE := fun σ H Q => ta σ H fun x H1 => x = .ref C ∧ t σ H1 fun vs H2 => sp vs H2 Q (E σ)
/-- C.m(p = .., ..) by all the parameters' names -/
def tSMethK (C : Addr) (tw : Bool) (sp : Sp) (E : L2.St → XK) (ta : TE) (tk : TA) : TE := fun σ H Q => ta σ H fun x H1 => x = .ref C ∧ tk σ H1 fun zs H2 => sp (turnL tw zs) H2 Q (E σ)
end
section
variable {K : PySem.W.Frag} {W : WX} {O : List OD} {ts : List T} {P : PT'} {X : XX} {sp : SpD} {tk tr : TA} {ta : TE} {C : Addr} {tw : Bool} {n : Nat}
theorem w_callKX (h : WA K W tk O ts (fun xs O1 => ∃ ds, unv xs = some ds ∧ sp ((turnL tw ds).map T.v) [] (fun t _ => (∃ d, t = .v d) ∧ P t O1) (fun C fs _ => X C fs O1)) X) :
    WE K W (tCallKX tw (lift K sp) (L2.WE W) tk) O ts P X := fun b A σ H Q s rs kv kx =>
  h b A σ H _ s rs (fun xs vs A1 O1 H1 p1 s1 n1 r1 => by
    obtain ⟨ds, e, p⟩ := p1
    exact lift_p (W := W) (σ := σ) s1 (xs := (turnL tw ds).map T.v) (ds := turnL tw ds) (turn_rep r1 e) unv_map (fun _ _ _ z => z) p (kv.nxt n1) (kx.nxt n1)) kx
theorem w_smethX (h : WE K W ta O ts (fun x O1 => x = .v (.ref C) ∧ WA K W tr O1 ts (fun xs O2 => ∃ ds, unv xs = some ds ∧ sp xs [] (fun t _ => (∃ d, t = .v d) ∧ P t O2) (fun C fs _ => X C fs O2)) X) X) :
    WE K W (tSMethX C (lift K sp) (L2.WE W) ta tr) O ts P X := fun b A σ H Q s rs kv kx =>
  h b A σ H _ s rs (fun x v A1 O1 H1 p1 s1 n1 r1 => by
    obtain ⟨rfl, p⟩ := p1
    obtain ⟨_, e1, e2⟩ := id r1
    cases e1
    refine ⟨e2, p b A1 σ H1 _ s1 (rs.nxt n1) (fun xs us A2 O2 H2 p2 s2 n2 r2 => ?_) (kx.nxt n1)⟩
    obtain ⟨ds, e, q⟩ := p2
    exact lift_p (W := W) (σ := σ) s2 r2 e (fun _ _ _ z => z) q (kv.nxt (n1.trans n2)) (kx.nxt (n1.trans n2))) kx
theorem w_smethK (h : WE K W ta O ts (fun x O1 => x = .v (.ref C) ∧ WA K W tk O1 ts (fun xs O2 => ∃ ds, unv xs = some ds ∧ sp ((turnL tw ds).map T.v) [] (fun t _ => (∃ d, t = .v d) ∧ P t O2) (fun C fs _ => X C fs O2)) X) X) :
    WE K W (tSMethK C tw (lift K sp) (L2.WE W) ta tk) O ts P X := fun b A σ H Q s rs kv kx =>
  h b A σ H _ s rs (fun x v A1 O1 H1 p1 s1 n1 r1 => by
    obtain ⟨rfl, p⟩ := p1
    obtain ⟨_, e1, e2⟩ := id r1
    cases e1
    refine ⟨e2, p b A1 σ H1 _ s1 (rs.nxt n1) (fun xs us A2 O2 H2 p2 s2 n2 r2 => ?_) (kx.nxt n1)⟩
    obtain ⟨ds, e, q⟩ := p2
    exact lift_p (W := W) (σ := σ) s2 (xs := (turnL tw ds).map T.v) (ds := turnL tw ds) (turn_rep r2 e) unv_map (fun _ _ _ z => z) q (kv.nxt (n1.trans n2)) (kx.nxt (n1.trans n2))) kx
end
theorem RepX.ex {K : PySem.W.Frag} {F F' H H' : Hp} {d : Option Addr} : ∀ {fs : Option (List (Str × D))}, RepX K F H fs d → Ex F F' → RepX K F' H' fs d
  | none, h, _ => h
  | some _, ⟨dx, vs, e, h1, h2⟩, x => ⟨dx, vs, e, x _ _ h1 (fun _ z => by cases z), h2.ex x⟩
section
variable {K : PySem.W.Frag} {W : WX} {P : PT'} {X : XX} {sp : SpD} {b : Bs} {A1 : List Addr} {O1 : List OD} {H1 H3 : Hp} {xs : List T} {vs : List V} {ds : List D} {Q : VK} {σ : L2.St}
theorem tail_nil {A1 A' M : List Addr} {O1 : List OD} {o : OD} {x : Addr} (h1 : A1.length = O1.length) (h2 : A'.length = (O1 ++ [o]).length) (e : A' = A1 ++ [x] ++ M) : M = [] := by
  rw [e, List.length_append, List.length_append, List.length_append] at h2
  exact List.length_eq_zero_iff.mp (by simp only [List.length_singleton] at h2; omega)
/-- what an __init__ is handed: the new instance as the owned thing 0 -/
theorem new_core {C x : Addr} (s1 : StO K b A1 O1 H1) (hx : H1 x = none) (s3 : StO K b (A1 ++ [x]) (O1 ++ [.ins C []]) H3) (n3 : Ex (Fz b A1 O1 H1) (Fz b (A1 ++ [x]) (O1 ++ [.ins C []]) H3)) (r3 : RepTs K (Fz b (A1 ++ [x]) (O1 ++ [.ins C []]) H3) (A1 ++ [x]) xs vs) (e : unv xs = some ds)
    (p : sp (.own 0 :: xs) [.ins C []] (fun t O' => t = .v .non ∧ ∃ fs, O' = [.ins C fs] ∧ P (.v (.ins C fs)) O1) (fun C' fs O' => (∃ o', O' = [o']) ∧ X C' fs O1)) (kv : KV' K b A1 O1 H1 P Q) (kx : KX K W b A1 O1 σ H1 X) :
    lift K sp (.ref x :: vs) H3 (fun v H => v = .non ∧ Q (.ref x) H) (L2.WE W σ) := by
  have hat : (A1 ++ [x])[O1.length]? = some x := by
    rw [← s1.len, List.getElem?_append_right (Nat.le_refl _), Nat.sub_self] <;> rfl
  have hoat : (O1 ++ [OD.ins C []])[O1.length]? = some (.ins C []) := by
    rw [List.getElem?_append_right (Nat.le_refl _), Nat.sub_self] <;> rfl
  have es : ∀ o' : OD, (O1 ++ [OD.ins C []]).set O1.length o' = O1 ++ [o'] := fun o' => by
    rw [List.set_append_right _ _ (Nat.le_refl _), Nat.sub_self] <;> rfl
  refine lift_1 (W := W) (X := fun C' fs O' => (∃ o', O' = O1 ++ [o']) ∧ X C' fs O1) (σ := σ) (P := fun t O' => t = .v .non ∧ ∃ fs, O' = O1 ++ [.ins C fs] ∧ P (.v (.ins C fs)) O1) s3 (xs := .own O1.length :: xs) (ys := .own 0 :: xs) ⟨.ref x, vs, rfl, ⟨x, hat, rfl⟩, r3⟩ ?_ hoat rfl (fun C d H z => z) ?_
    (fun t v A' O' H' q s' n' rt => ?_) (fun C' fs A' O' H' d q s' n' rx => ?_)
  · show (if O1.length = O1.length then (tr1 O1.length xs).map (T.own 0 :: ·) else none) = _
    rw [if_pos rfl, tr1_v e] <;> rfl
  · have x0 : (fun (C' : Value) (fs : Option (List (Str × D))) (O' : List OD) => ∃ o', O' = [o'] ∧ ((∃ o'', (O1 ++ [OD.ins C []]).set O1.length o' = O1 ++ [o'']) ∧ X C' fs O1)) = fun C' fs O' => (∃ o', O' = [o']) ∧ X C' fs O1 := by
      funext C' fs O'
      exact propext ⟨fun ⟨o', e1, _, q⟩ => ⟨⟨o', e1⟩, q⟩, fun ⟨⟨o', e1⟩, q⟩ => ⟨o', e1, ⟨o', es o'⟩, q⟩⟩
    have pq : (fun (t : T) (O' : List OD) => ∃ o', O' = [o'] ∧ okR t = true ∧ (un1 O1.length t = .v .non ∧ ∃ fs, (O1 ++ [OD.ins C []]).set O1.length o' = O1 ++ [.ins C fs] ∧ P (.v (.ins C fs)) O1)) = fun t O' => t = .v .non ∧ ∃ fs, O' = [.ins C fs] ∧ P (.v (.ins C fs)) O1 := by
      funext t O'
      refine propext ⟨?_, ?_⟩
      · rintro ⟨o', rfl, hn, hu, fs, e1, q⟩
        rw [es] at e1
        have e2 := List.append_cancel_left e1
        injection e2 with e2 _
        subst e2
        refine ⟨?_, fs, rfl, q⟩
        cases t with
        | v d => exact hu
        | own j => cases hu
        | no => cases hn
        | clo R f => cases hn
      · rintro ⟨rfl, fs, rfl, q⟩
        exact ⟨_, rfl, rfl, rfl, fs, es _, q⟩
    rw [x0, pq]
    exact p
  · obtain ⟨rfl, fs, rfl, q⟩ := q
    obtain ⟨_, e1, e2⟩ := rt
    cases e1
    obtain ⟨M, eM⟩ := n'.pre
    obtain rfl := tail_nil s1.len s'.len eM
    rw [List.append_nil] at eM
    subst eM
    obtain ⟨dx', us, c1, c2⟩ := s'.cell O1.length x (.ins C fs) hat (by rw [List.getElem?_append_right (Nat.le_refl _), Nat.sub_self] <;> rfl)
    obtain ⟨s4, x4⟩ := s'.drop s1.len s1.pre
    have nA : x ∉ A1 := fun hm => (List.nodup_append.mp s'.nd).2.2 x hm x (List.mem_singleton.mpr rfl) rfl
    have nz : x ∉ live A1 O1 ++ b.Z := fun z => by
      rcases List.mem_append.mp z with z | z
      · obtain ⟨j, o, z1, _, _⟩ := live_mem z
        exact nA (List.mem_of_getElem? z1)
      · obtain ⟨o, zz, _⟩ := (s1.z_at (a := x) z).2
        rw [hx] at zz
        cases zz
    have fz : Fz b A1 O1 H' x = some (.ins C dx' us) := hid_some.mpr ⟨nz, c1⟩
    exact ⟨e2, kv _ _ A1 O1 H' q s4 ⟨⟨[], (List.append_nil A1).symm⟩, (n3.trans n'.ext).trans x4⟩ ⟨_, rfl, x, dx', us, rfl, fz, c2.ex x4⟩⟩
  · obtain ⟨⟨o', rfl⟩, q⟩ := q
    obtain ⟨M, eM⟩ := n'.pre
    obtain rfl := tail_nil s1.len s'.len eM
    rw [List.append_nil] at eM
    subst eM
    obtain ⟨s4, x4⟩ := s'.drop s1.len s1.pre
    exact kx C' fs A1 O1 H' d q s4 ⟨⟨[], (List.append_nil A1).symm⟩, (n3.trans n'.ext).trans x4⟩ (rx.ex x4)
theorem new_at {C x dx : Addr} (s1 : StO K b A1 O1 H1) (hx : H1 x = none) (hdx : H1 dx = none) (hne : dx ≠ x) : StO K b (A1 ++ [x]) (O1 ++ [.ins C []]) (upd (upd H1 dx (.own x)) x (.ins C dx [])) ∧ Nxt b A1 O1 H1 (A1 ++ [x]) (O1 ++ [.ins C []]) (upd (upd H1 dx (.own x)) x (.ins C dx [])) := by
  obtain ⟨s2, n2⟩ := s1.lay2 hdx (.own x)
  obtain ⟨s3, n3⟩ := s2.own (u := .ins C dx []) (o := .ins C []) ((upd_ne hne.symm).trans hx) ⟨dx, [], upd_same, rfl⟩
  exact ⟨s3, n2.trans n3⟩
end
section
variable {K : PySem.W.Frag} {W : WX} {O : List OD} {ts : List T} {P : PT'} {X : XX} {sp : SpD} {tk tr : TA} {C : Addr} {tw : Bool} {m : Nat}
/-- C(..) -/
theorem w_makeX (h : WA K W tr O ts (fun xs O1 => ∃ ds, unv xs = some ds ∧ sp (.own 0 :: xs) [.ins C []] (fun t O' => t = .v .non ∧ ∃ fs, O' = [.ins C fs] ∧ P (.v (.ins C fs)) O1) (fun C' fs O' => (∃ o', O' = [o']) ∧ X C' fs O1)) X) :
    WE K W (tMakeX C (lift K sp) (L2.WE W) tr) O ts P X := fun b A σ H Q s rs kv kx =>
  h b A σ H _ s rs (fun xs vs A1 O1 H1 p1 s1 n1 r1 x dx hx hdx hne => by
    obtain ⟨ds, e, p⟩ := p1
    obtain ⟨s3, n3⟩ := new_at (C := C) s1 hx hdx hne
    exact new_core s1 hx s3 n3.ext (r1.nxt n3) e p (kv.nxt n1) (kx.nxt n1)) kx
end
end G

set_option Elab.async false
set_option linter.all false
set_option maxRecDepth 100000
set_option maxHeartbeats 4000000
namespace G
open PySem PySem.Spec PyProof.Rows L2
def BTY : List String := ["NoneType", "bool", "int", "str", "list", "tuple", "dict"]
/-- no builtin type is below the class -/
def kitNB (K : PySem.W.Frag) (C : Addr) : Bool := BTY.all fun ty => decide (PySem.W.kitOne K (.type ty) (.ref C) = some false)
def KitN (K : PySem.W.Frag) (C : Addr) : Prop := ∀ ty ∈ BTY, PySem.W.kitOne K (.type ty) (.ref C) = some false
theorem kitNB_ok {K : PySem.W.Frag} {C : Addr} (h : kitNB K C = true) : KitN K C := fun ty hm => of_decide_eq_true (List.all_eq_true.mp h ty hm)
/-- of a builtin type, no integer -/
def niB (d : D) : Bool := match d with
  | .non | .bl _ | .str _ | .lst _ | .tup _ | .dic _ => true
  | _ => false
theorem ni_ok {K : PySem.W.Frag} {d : D} (h : niB d = true) : IntQ K d false := by
  cases d with
  | non => exact intQ_non
  | bl b => exact intQ_bl
  | str b => exact intQ_str
  | lst b => exact intQ_lst
  | tup b => exact intQ_tup
  | dic b => exact intQ_dic
  | _ => cases h
def SVE (d : D) : Prop := ∃ p, Shows d p ∧ PyData.strOk p.shown = true
def shB (d : D) : Bool := match pyT d with
  | some p => p.showable && (decide (p.depth ≤ 100) && (decide (p.shown.length ≤ sizeLine) && PyData.strOk p.shown))
  | none => false
theorem sv_of {d : D} (h : shB d = true) : SVE d := by
  unfold shB at h
  split at h
  · rename_i p e
    obtain ⟨h1, h⟩ := He.ba h
    obtain ⟨h2, h⟩ := He.ba h
    obtain ⟨h3, h4⟩ := He.ba h
    exact ⟨p, ⟨e, h1, of_decide_eq_true h2, of_decide_eq_true h3⟩, h4⟩
  · cases h
theorem pl_lstA {n : Nat} : ∀ {ds : List D}, (∀ d ∈ ds, pl n d = true) → pl (n + 1) (.lst ds) = true
  | [], _ => rfl
  | d :: ds, h => by
    have h2 : pls n ds = true := pl_lstA (ds := ds) fun x hx => h x (List.mem_cons_of_mem _ hx)
    show (pl n d && pls n ds) = true
    rw [h d List.mem_cons_self, h2] <;> rfl
end G

set_option Elab.async false
set_option linter.all false
set_option maxRecDepth 100000
set_option maxHeartbeats 4000000
namespace G
open PySem PySem.Spec PyProof.Rows L2
end G

set_option Elab.async false
set_option linter.all false
set_option maxRecDepth 100000
set_option maxHeartbeats 4000000
namespace G
open PySem PySem.Spec PyProof.Rows L2
section
variable {K : PySem.W.Frag} {W : WX} {O : List OD} {ts : List T} {P : PT'} {X : XX} {sp : SpD} {tr : TA} {ta : TE} {C : Addr} {m : Str}
end
end G

set_option Elab.async false
set_option linter.all false
set_option maxRecDepth 100000
set_option maxHeartbeats 4000000
namespace G
open PySem PySem.Spec PyProof.Rows L2 TL
section
variable {K : PySem.W.Frag} {W : WX} {O : List OD} {ts : List T} {P : PT'} {X : XX} {ta tb : TE}
end
theorem eqD_nil (ds : List D) : eqD (.lst ds) (.lst []) = decide (ds = []) := by
  cases ds with
  | nil => rfl
  | cons d ds =>
    rw [decide_eq_false (fun z => by cases z)]
    unfold eqD
    simp only [toP, toPs]
    rfl
end G

set_option Elab.async false
set_option linter.all false
set_option maxRecDepth 100000
set_option maxHeartbeats 4000000
namespace G
open PySem PySem.Spec PyProof.Rows L2
def tMakeKX (C : Addr) (tw : Bool) (sp : Sp) (E : L2.St → XK) (tk : TA) : TE := fun σ H Q => tk σ H fun zs H1 => ∀ x dx, H1 x = Option.none → H1 dx = Option.none → dx ≠ x →
  sp (V.ref x :: turnL tw zs) (upd (upd H1 dx (.own x)) x (.ins C dx [])) (fun v H2 => v = .non ∧ Q (.ref x) H2) (E σ)
section
variable {X : Cx} {CX : CXT} {k : Nat} {f C : Addr} {fd : FuncData} {ps ks : List Str} {sp : Sp} {E : L2.St → XK} {x : Str} {kws : List Keyword} {tk : TA} {tw : Bool} {p pos : Pos}
end
section
variable {K : PySem.W.Frag} {W : WX} {O : List OD} {ts : List T} {P : PT'} {X : XX} {sp : SpD} {tk : TA} {C : Addr} {tw : Bool}
theorem w_makeKX (h : WA K W tk O ts (fun xs O1 => ∃ ds, unv xs = some ds ∧ sp (.own 0 :: (turnL tw ds).map T.v) [.ins C []] (fun t O' => t = .v .non ∧ ∃ fs, O' = [.ins C fs] ∧ P (.v (.ins C fs)) O1) (fun C' fs O' => (∃ o', O' = [o']) ∧ X C' fs O1)) X) :
    WE K W (tMakeKX C tw (lift K sp) (L2.WE W) tk) O ts P X := fun b A σ H Q s rs kv kx =>
  h b A σ H _ s rs (fun xs vs A1 O1 H1 p1 s1 n1 r1 x dx hx hdx hne => by
    obtain ⟨ds, e, p⟩ := p1
    obtain ⟨s3, n3⟩ := new_at (C := C) s1 hx hdx hne
    exact new_core s1 hx s3 n3.ext ((turn_rep r1 e).nxt n3) unv_map p (kv.nxt n1) (kx.nxt n1)) kx
end
section
variable {X : Cx} {CX : CXT} {k : Nat} {C g : Addr} {sp : Sp} {E : XK}
end
end G

set_option Elab.async false
set_option linter.all false
set_option maxRecDepth 100000
set_option maxHeartbeats 4000000
namespace G
open PySem PySem.Spec PyProof.Rows L2
section
variable {K : PySem.W.Frag} {W : WX} {O : List OD} {ts : List T} {P : PT'} {X : XX} {sp : SpD} {tk : TA} {ta : TE} {C : Addr} {tw : Bool}
theorem w_smethK0 (h : WE K W ta O ts (fun x O1 => x = .v (.ref C) ∧ WA K W tk O1 ts (fun xs O2 => ∃ ds, unv xs = some ds ∧ sp ((turnL tw ds).map T.v) [] (fun t _ => (∃ d, t = .v d) ∧ P t O2) (fun _ _ _ => False)) X) X) :
    WE K W (tSMethK C tw (lift K sp) (fun _ => E0) ta tk) O ts P X := fun b A σ H Q s rs kv kx =>
  h b A σ H _ s rs (fun x v A1 O1 H1 p1 s1 n1 r1 => by
    obtain ⟨rfl, p⟩ := p1
    obtain ⟨_, e1, e2⟩ := id r1
    cases e1
    refine ⟨e2, p b A1 σ H1 _ s1 (rs.nxt n1) (fun xs us A2 O2 H2 p2 s2 n2 r2 => ?_) (kx.nxt n1)⟩
    obtain ⟨ds, e, q⟩ := p2
    exact lift_p (W := fun _ _ _ _ => False) (X := fun _ _ _ => False) (σ := σ) s2 (xs := (turnL tw ds).map T.v) (ds := turnL tw ds) (turn_rep r2 e) unv_map (fun _ _ _ z => z) q (kv.nxt (n1.trans n2)) (fun C fs A' O' H' d z => z.elim)) kx
end
end G

set_option Elab.async false
set_option linter.all false
set_option maxRecDepth 100000
set_option maxHeartbeats 4000000
namespace G
open PySem PySem.Spec PyProof.Rows L2
/-- shown as p, nested at most k deep, within n signs -/
structure Shw (d : D) (p : PyData) (k n : Nat) : Prop where
  py : pyD d = some p
  ok : p.showable = true
  dp : p.depth ≤ k
  len : p.shown.length ≤ n
  so : PyData.strOk p.shown = true
theorem Shw.mono {d : D} {p : PyData} {k n k' n' : Nat} (h : Shw d p k n) (hk : k ≤ k' := by decide) (hn : n ≤ n' := by decide) : Shw d p k' n' := ⟨h.py, h.ok, Nat.le_trans h.dp hk, Nat.le_trans h.len hn, h.so⟩
end G

set_option Elab.async false
set_option linter.all false
set_option maxRecDepth 100000
set_option maxHeartbeats 4000000
namespace G
open PySem PySem.Spec PyProof.Rows L2 LamX
/-- the def that got the lambda, wherever it is called -/
structure GivesA (X : Cx) (Ng : List Str) (x : Str) (sg : Scope) (g : Addr) (cdg : Value) (bg : List Stmt) (a : Str) (th : (WX → TE) → TS) : Prop where
  of : ∀ (stk : List Env) (s : Shared) (H : Hp) (ta : WX → TE),
    (∀ (W : WX) (pn : List (Addr × Obj)) (xe : Value → Shared → Prop) (p1 p2 : Pos), Takes ((cxOf C8.CX0 X.prog X.w X.K X.mg X.base Ng x sg g cdg X.A stk s H C8.E0).tr pn xe) W →
      PE ((cxOf C8.CX0 X.prog X.w X.K X.mg X.base Ng x sg g cdg X.A stk s H C8.E0).tr pn xe) (.Call (.Name a p1) [] [] p2) (ta W)) →
    PSs (cxOf C8.CX0 X.prog X.w X.K X.mg X.base Ng x sg g cdg X.A stk s H C8.E0).nox bg (th ta)
theorem GivesA.at {X : Cx} {Ng : List Str} {x : Str} {sg : Scope} {g : Addr} {cdg : Value} {bg : List Stmt} {a : Str} {th : (WX → TE) → TS} (h : GivesA X Ng x sg g cdg bg a th) : GivesS X Ng x sg g cdg bg a th := fun s H ta act => h.of X.stack s H ta act
end G

set_option Elab.async false
set_option linter.all false
set_option maxRecDepth 100000
set_option maxHeartbeats 4000000
namespace G
open PySem PySem.Spec PyProof.Rows L2
/-- somewhere below the running body, with room -/
structure Blw (X : Cx) (n : Nat) (A : Around) : Prop where
  room : Room n A
  env : ∀ {pins : List (Addr × Obj)} {σ : L2.St} {H : Hp} {s : Shared}, Inv X pins σ H s → Env0 X.prog X.w X.K X.mg X.base A X.stack s H
theorem Blw.top {X : Cx} {n : Nat} (h : Room n X.A) : Blw X n X.A := ⟨h, fun I => I.env0⟩
section
variable {X : Cx} {CX : CXT} {k : Nat} {C g : Addr} {sp : SpD}
end
section
variable {X : Cx} {CX : CXT} {k n : Nat} {C g : Addr} {sp : SpD}
end
end G

set_option Elab.async false
set_option linter.all false
set_option maxRecDepth 100000
set_option maxHeartbeats 4000000
namespace G
open PySem PySem.Spec PyProof.Rows L2
section
variable {P : Program} {w : World} {K : PySem.W.Frag} {mg : Str → Option Value} {base : Heap} {k : Nat} {x qual : Str} {params : Arguments} {body : List Stmt} {scope : Scope} {f : Addr} {fd : FuncData} {N ps ks : List Str} {pv : Str} {sp : SpD} {tw : Bool}
end
section
variable {X : Cx} {k n : Nat} {f C : Addr} {ks : List Str} {sp : SpD} {x : Str} {kws : List Keyword} {tk : TA} {tw : Bool} {p pos : Pos}
end
section
variable {K : PySem.W.Frag} {W : WX} {O : List OD} {ts : List T} {P : PT'} {X : XX} {sp : SpD} {tk : TA} {C : Addr} {tw : Bool} {m n : Nat}
end
end G

set_option Elab.async false
set_option linter.all false
set_option maxRecDepth 100000
set_option maxHeartbeats 4000000
namespace G
open PySem PySem.Spec PyProof.Rows L2
variable {K : PySem.W.Frag} {O : List OD} {P : PT'}
theorem w_isBl {a c : Bool} (k : P (.v (.bl (decide (a = c)))) O) : WR K rIsB (.v (.bl a)) (.v (.bl c)) O P := fun b A H Q v u s r1 r2 kv => by
  obtain ⟨_, e1, rfl⟩ := r1
  obtain ⟨_, e2, rfl⟩ := r2
  cases e1
  cases e2
  exact ⟨a, c, rfl, rfl, kv _ _ A O H k s Nxt.refl ⟨_, rfl, rfl⟩⟩
theorem w_notBl {a c : Bool} (k : P (.v (.bl (!decide (a = c)))) O) : WR K rNotB (.v (.bl a)) (.v (.bl c)) O P := fun b A H Q v u s r1 r2 kv => by
  obtain ⟨_, e1, rfl⟩ := r1
  obtain ⟨_, e2, rfl⟩ := r2
  cases e1
  cases e2
  exact ⟨a, c, rfl, rfl, kv _ _ A O H k s Nxt.refl ⟨_, rfl, rfl⟩⟩
end G

set_option Elab.async false
set_option linter.all false
set_option maxRecDepth 100000
set_option maxHeartbeats 4000000
namespace G
open PySem PySem.Spec PyProof.Rows L2 HandSPX
section
variable {M : Model} {A : Around} {E : Value → Shared → Prop} {env : Env} {outer : List Env} {L e : Addr} {base : Heap} {Z : Obj → Prop} {s : Shared}
end
end G

set_option Elab.async false
set_option linter.all false
set_option maxRecDepth 100000
set_option maxHeartbeats 4000000
namespace G
open PySem PySem.Spec PyProof.Rows L2 HandSPX
end G

set_option Elab.async false
set_option linter.all false
set_option maxRecDepth 100000
set_option maxHeartbeats 4000000
namespace G
open PySem PySem.Spec PyProof.Rows L2 HandSPX
end G

set_option Elab.async false
set_option linter.all false
set_option maxRecDepth 100000
set_option maxHeartbeats 4000000
namespace G
open PySem PySem.Spec PyProof.Rows L2
section
variable {K : PySem.W.Frag} {E : XK} {O : List OD} {ts : List T} {P : PT'} {X : XX} {te : TE} {g : TG} {vs : List Nat}
end
end G

set_option Elab.async false
set_option linter.all false
set_option maxRecDepth 100000
set_option maxHeartbeats 4000000
namespace G
open PySem PySem.Spec PyProof.Rows L2
section
variable {K : PySem.W.Frag} {W : WX} {O : List OD} {ts : List T} {P : PT'} {X : XX} {sp : SpD} {tr tk : TA} {ta : TE} {C : Addr} {tw : Nat} {E : XK}
end
end G

set_option Elab.async false
set_option linter.all false
set_option maxRecDepth 100000
set_option maxHeartbeats 4000000
namespace PySem.W
open PySem PySem.Calls PyProof.Rows Builtin
section
variable {prog : Program} {w : World} {A : Around} {E : Value → Shared → Prop} {s : Shared} {K : Frag} {x C L f : Addr} {h₀ : Heap} {m : Str → Option Value} {ox : Obj} {od : Option Obj}
end
end PySem.W

namespace G
open PySem PySem.Spec PyProof.Rows L2
section
variable {X : Cx} {CX : CXT} {k : Nat} {C g : Addr} {sp : Sp} {E : L2.St → XK} {E1 : XK} {a b : Expr} {ta tb : TE} {pos : Pos}
end
section
variable {K : PySem.W.Frag} {W : WX} {O : List OD} {ts : List T} {P : PT'} {X : XX} {sp : SpD} {ta tb : TE} {C : Addr}
end
end G

set_option Elab.async false
set_option linter.all false
set_option maxRecDepth 100000
set_option maxHeartbeats 4000000
namespace G
open PySem PySem.Spec PyProof.Rows L2
def nfNB (K : PySem.W.Frag) (C : Addr) : Bool := BTY.all fun ty => PySem.W.notFirst K C (.type ty)
def NfN (K : PySem.W.Frag) (C : Addr) : Prop := ∀ ty ∈ BTY, PySem.W.notFirst K C (.type ty) = true
theorem nfNB_ok {K : PySem.W.Frag} {C : Addr} (h : nfNB K C = true) : NfN K C := fun ty hm => List.all_eq_true.mp h ty hm
end G

set_option Elab.async false
set_option linter.all false
set_option maxRecDepth 100000
set_option maxHeartbeats 0
namespace My
open PySem PySem.Spec PyProof.Rows L2 G
def top (i : Nat) : Stmt := PySem.Challenge.pw_restchains_k61_longest_looked_at.main.body.getD i (.Pass ⟨0, 0, 0, 0⟩)
def d_is_integer : He.DefD := ⟨("is_integer", none), "is_integer", "is_integer", defArgs (top 4), defBody (top 4), defScope (top 4), [], []⟩
def d_is_between : He.DefD := ⟨("is_between", none), "is_between", "is_between", defArgs (top 5), defBody (top 5), defScope (top 5), [], []⟩
def d_fits_modulus : He.DefD := ⟨("fits_modulus", none), "fits_modulus", "fits_modulus", defArgs (top 6), defBody (top 6), defScope (top 6), [], []⟩
def d_law_pen : He.DefD := ⟨("_law_pen", none), "_law_pen", "_law_pen", defArgs (top 66), defBody (top 66), defScope (top 66), [], []⟩
def d_law_draw : He.DefD := ⟨("_law_draw", none), "_law_draw", "_law_draw", defArgs (top 67), defBody (top 67), defScope (top 67), [], []⟩
def d_law_pick : He.DefD := ⟨("_law_pick", none), "_law_pick", "_law_pick", defArgs (top 68), defBody (top 68), defScope (top 68), [], []⟩
def d_binomial : He.DefD := ⟨("binomial", none), "binomial", "binomial", defArgs (top 20), defBody (top 20), defScope (top 20), [], []⟩
def d_power_of : He.DefD := ⟨("power_of", none), "power_of", "power_of", defArgs (top 21), defBody (top 21), defScope (top 21), [], []⟩
def d_times_in : He.DefD := ⟨("times_in", none), "times_in", "times_in", defArgs (top 22), defBody (top 22), defScope (top 22), [], []⟩
def d_small_in : He.DefD := ⟨("small_in", none), "small_in", "small_in", defArgs (top 23), defBody (top 23), defScope (top 23), [], []⟩
def d_great_in : He.DefD := ⟨("great_in", none), "great_in", "great_in", defArgs (top 24), defBody (top 24), defScope (top 24), [], []⟩
def d_combined : He.DefD := ⟨("combined", none), "combined", "combined", defArgs (top 25), defBody (top 25), defScope (top 25), [], []⟩
def d_shared_in : He.DefD := ⟨("shared_in", none), "shared_in", "shared_in", defArgs (top 26), defBody (top 26), defScope (top 26), [], []⟩
def d_joined : He.DefD := ⟨("joined", none), "joined", "joined", defArgs (top 27), defBody (top 27), defScope (top 27), [], []⟩
def d_PromptU_initU : He.DefD := ⟨("Prompt", some "__init__"), "__init__", "Chain.__init__", defArgs (inClass (top 32) 2), defBody (inClass (top 32) 2), defScope (inClass (top 32) 2), [], []⟩
def d_LateU_initU : He.DefD := ⟨("Late", some "__init__"), "__init__", "Chain.__init__", defArgs (inClass (top 32) 2), defBody (inClass (top 32) 2), defScope (inClass (top 32) 2), [], []⟩
def d_left_in : He.DefD := ⟨("left_in", none), "left_in", "left_in", defArgs (top 38), defBody (top 38), defScope (top 38), [], []⟩
def d_keeps : He.DefD := ⟨("keeps", none), "keeps", "keeps", defArgs (top 39), defBody (top 39), defScope (top 39), [], []⟩
def d_small_power : He.DefD := ⟨("small_power", none), "small_power", "small_power", defArgs (top 40), defBody (top 40), defScope (top 40), [], []⟩
def d_length_in : He.DefD := ⟨("length_in", none), "length_in", "length_in", defArgs (top 41), defBody (top 41), defScope (top 41), [], []⟩
def d_need_chain : He.DefD := ⟨("need_chain", none), "need_chain", "need_chain", defArgs (top 47), defBody (top 47), defScope (top 47), [], []⟩
def d_need_input : He.DefD := ⟨("need_input", none), "need_input", "need_input", defArgs (top 48), defBody (top 48), defScope (top 48), [], []⟩
def d_products : He.DefD := ⟨("products", none), "products", "products", defArgs (top 43), defBody (top 43), defScope (top 43), [], []⟩
def d_named : He.DefD := ⟨("named", none), "named", "named", defArgs (top 49), defBody (top 49), defScope (top 49), [], []⟩
def d_next_forms : He.DefD := ⟨("next_forms", none), "next_forms", "next_forms", defArgs (top 50), defBody (top 50), defScope (top 50), [], []⟩
def d_forms_of : He.DefD := ⟨("forms_of", none), "forms_of", "forms_of", defArgs (top 51), defBody (top 51), defScope (top 51), [], []⟩
def d_rows_for : He.DefD := ⟨("rows_for", none), "rows_for", "rows_for", defArgs (top 52), defBody (top 52), defScope (top 52), [], []⟩
def d_starts_with : He.DefD := ⟨("starts_with", none), "starts_with", "starts_with", defArgs (top 55), defBody (top 55), defScope (top 55), [], []⟩
def d_whole_starts : He.DefD := ⟨("whole_starts", none), "whole_starts", "whole_starts", defArgs (top 56), defBody (top 56), defScope (top 56), [], []⟩
def d_all_keep : He.DefD := ⟨("all_keep", none), "all_keep", "all_keep", defArgs (top 57), defBody (top 57), defScope (top 57), [], []⟩
def d_leaving_starts : He.DefD := ⟨("leaving_starts", none), "leaving_starts", "leaving_starts", defArgs (top 58), defBody (top 58), defScope (top 58), [], []⟩
def d_longest_small : He.DefD := ⟨("longest_small", none), "longest_small", "longest_small", defArgs (top 59), defBody (top 59), defScope (top 59), [], []⟩
def d_LongestU_initU : He.DefD := ⟨("Longest", some "__init__"), "__init__", "Longest.__init__", defArgs (inClass (top 45) 0), defBody (inClass (top 45) 0), defScope (inClass (top 45) 0), [], []⟩
def d_longest : He.DefD := ⟨("longest", none), "longest", "longest", defArgs (top 60), defBody (top 60), defScope (top 60), [], []⟩
def d_law_chain : He.DefD := ⟨("_law_chain", none), "_law_chain", "_law_chain", defArgs (top 69), defBody (top 69), defScope (top 69), [], []⟩
def d_law_beat : He.DefD := ⟨("_law_beat", none), "_law_beat", "_law_beat", defArgs (top 70), defBody (top 70), defScope (top 70), [], []⟩
def d_law_round : He.DefD := ⟨("_law_round", none), "_law_round", "_law_round", defArgs (top 71), defBody (top 71), defScope (top 71), [], []⟩
def d_law_all : He.DefD := ⟨("_law_all", none), "_law_all", "_law_all", defArgs (top 72), defBody (top 72), defScope (top 72), [], []⟩
def d_coefs_at : He.DefD := ⟨("coefs_at", none), "coefs_at", "coefs_at", defArgs (top 53), defBody (top 53), defScope (top 53), [], []⟩
def d_period_at : He.DefD := ⟨("period_at", none), "period_at", "period_at", defArgs (top 54), defBody (top 54), defScope (top 54), [], []⟩
def d_are_starts : He.DefD := ⟨("are_starts", none), "are_starts", "are_starts", defArgs (top 62), defBody (top 62), defScope (top 62), [], []⟩
def d_has_length : He.DefD := ⟨("has_length", none), "has_length", "has_length", defArgs (top 63), defBody (top 63), defScope (top 63), [], []⟩
def d_shows_longest : He.DefD := ⟨("shows_longest", none), "shows_longest", "shows_longest", defArgs (top 64), defBody (top 64), defScope (top 64), [], []⟩
def d_ShortestU_initU : He.DefD := ⟨("Shortest", some "__init__"), "__init__", "Shortest.__init__", defArgs (inClass (top 46) 0), defBody (inClass (top 46) 0), defScope (inClass (top 46) 0), [], []⟩
def d_law_is_int : He.DefD := ⟨("_law_is_int", none), "_law_is_int", "_law_is_int", defArgs (top 73), defBody (top 73), defScope (top 73), [], []⟩
def d_law_due : He.DefD := ⟨("_law_due", none), "_law_due", "_law_due", defArgs (top 74), defBody (top 74), defScope (top 74), [], []⟩
def d_law_bent_starts : He.DefD := ⟨("_law_bent_starts", none), "_law_bent_starts", "_law_bent_starts", defArgs (top 75), defBody (top 75), defScope (top 75), [], []⟩
def d_law_right : He.DefD := ⟨("_law_right", none), "_law_right", "_law_right", defArgs (top 76), defBody (top 76), defScope (top 76), [], []⟩
def d_law : He.DefD := ⟨("law", none), "law", "law", defArgs (top 77), defBody (top 77), defScope (top 77), [], []⟩
def fn : List He.DefD := [d_is_integer, d_is_between, d_fits_modulus, d_law_pen, d_law_draw, d_law_pick, d_binomial, d_power_of, d_times_in, d_small_in, d_great_in, d_combined, d_shared_in, d_joined, d_PromptU_initU, d_LateU_initU, d_left_in, d_keeps, d_small_power, d_length_in, d_need_chain, d_need_input, d_products, d_named, d_next_forms, d_forms_of, d_rows_for, d_starts_with, d_whole_starts, d_all_keep, d_leaving_starts, d_longest_small, d_LongestU_initU, d_longest, d_law_chain, d_law_beat, d_law_round, d_law_all, d_coefs_at, d_period_at, d_are_starts, d_has_length, d_shows_longest, d_ShortestU_initU, d_law_is_int, d_law_due, d_law_bent_starts, d_law_right, d_law]
def fa : List He.Fa := [.free "int", .free "isinstance", .free "bool", .glo "is_integer", .glo "is_between", .int "MOST_MODULUS" 1000000000000000000000000000000, .free "list", .free "len", .free "abs", .glo "_law_draw", .free "range", .glo "times_in", .glo "PRIMES", .glo "small_in", .glo "power_of", .glo "combined", .free "tuple", .glo "fits_modulus", .int "MOST_STAGES" 6, .cls "Prompt", .glo "Prompt", .noat "Prompt" "modulus", .noat "Prompt" "stages", .cls "Late", .glo "Late", .noat "Late" "stages", .noat "Late" "modulus", .cls "Longest", .glo "Longest", .cls "Shortest", .glo "Shortest", .glo "binomial", .free "sum", .glo "left_in", .free "all", .glo "keeps", .glo "small_power", .glo "great_in", .glo "shared_in", .free "zip", .free "enumerate", .glo "next_forms", .glo "named", .glo "forms_of", .glo "products", .glo "joined", .free "any", .glo "rows_for", .glo "leaving_starts", .glo "all_keep", .noat "Longest" "length", .noat "Longest" "starts", .glo "whole_starts", .glo "need_input", .glo "longest_small", .glo "starts_with", .glo "need_chain", .mkr "Longest", .mkr "Prompt", .mkr "Late", .glo "_law_beat", .glo "coefs_at", .glo "length_in", .glo "are_starts", .glo "period_at", .glo "has_length", .noat "Shortest" "length", .noat "Shortest" "starts", .noat "Shortest" "bars", .glo "_law_round", .glo "_law_is_int", .glo "_law_pick", .glo "_law_all", .glo "_law_bent_starts", .glo "shows_longest", .glo "longest", .glo "_law_due", .glo "_law_chain", .free "repr", .free "str", .free "max", .mkr "Shortest", .glo "_law_right", .glo "_law_pen", .glo "law"]
def insB (K : PySem.W.Frag) (C : Addr) : Bool := He.eqO (PySem.W.findIn K (.ref C) "__class__") (some (some (.builtin "object.__class__"))) && (He.eqO (PySem.W.specialIn K (.builtin "object.__class__") "__get__") (some (some (.builtin "getset_descriptor.__get__"))) && (decide (PySem.W.takesIn K (.builtin "object.__class__") = some true) && decide (PySem.W.mroIn K C (.type "object") = some true)))
theorem insB_ok {K : PySem.W.Frag} {C : Addr} (c : Cls K C) (h : insB K C = true) : G.InsTy K C := by
  obtain ⟨h1, h⟩ := He.ba h
  obtain ⟨h2, h⟩ := He.ba h
  obtain ⟨h3, h4⟩ := He.ba h
  exact ⟨c, He.eqO_ok h1, He.eqO_ok h2, of_decide_eq_true h3, of_decide_eq_true h4⟩
def prs : List PrD := []
def es : List ExD := []
def exs (K : PySem.W.Frag) : List Bool := [tupB K (He.ga K "PRIMES") [2, 3, 5, 7, 11], insB K (He.ga K "Prompt"), insB K (He.ga K "Late"), insB K (He.ga K "Longest"), insB K (He.ga K "Shortest"), decide (PySem.W.kitOne K (.ref (He.ga K "Prompt")) (.ref (He.ga K "Prompt")) = some true), decide (PySem.W.kitOne K (.ref (He.ga K "Late")) (.ref (He.ga K "Prompt")) = some false), decide (PySem.W.kitOne K (.ref (He.ga K "Late")) (.ref (He.ga K "Late")) = some true), decide (PySem.W.kitOne K (.ref (He.ga K "Longest")) (.ref (He.ga K "Longest")) = some true), decide (PySem.W.kitOne K (.ref (He.ga K "Prompt")) (.ref (He.ga K "Longest")) = some false), decide (PySem.W.kitOne K (.ref (He.ga K "Late")) (.ref (He.ga K "Longest")) = some false), decide (PySem.W.kitOne K (.ref (He.ga K "Shortest")) (.ref (He.ga K "Longest")) = some false), kitNB K (He.ga K "Longest"), nfNB K (He.ga K "Longest"), sysB K]
def ex (K : PySem.W.Frag) : Bool := (exs K).all id
abbrev loose : List Str := [("_wall" : Str), ("MOST_MODULUS" : Str), ("MOST_DIGITS" : Str), ("is_integer" : Str), ("is_between" : Str), ("fits_modulus" : Str), ("is_row" : Str), ("first_odd" : Str), ("is_written" : Str), ("RestError" : Str), ("BadInput" : Str), ("BadModulus" : Str), ("BadNumber" : Str), ("BadStart" : Str), ("BadChain" : Str), ("BadText" : Str), ("PRIMES" : Str), ("binomial" : Str), ("power_of" : Str), ("times_in" : Str), ("small_in" : Str), ("great_in" : Str), ("combined" : Str), ("shared_in" : Str), ("joined" : Str), ("Words" : Str), ("MOST_STAGES" : Str), ("Chain" : Str), ("Prompt" : Str), ("Late" : Str), ("beat_of" : Str), ("take_chain" : Str), ("left_in" : Str), ("keeps" : Str), ("small_power" : Str), ("length_in" : Str), ("products" : Str), ("Longest" : Str), ("Shortest" : Str), ("need_chain" : Str), ("need_input" : Str), ("named" : Str), ("next_forms" : Str), ("forms_of" : Str), ("rows_for" : Str), ("coefs_at" : Str), ("period_at" : Str), ("starts_with" : Str), ("whole_starts" : Str), ("all_keep" : Str), ("leaving_starts" : Str), ("longest_small" : Str), ("longest" : Str), ("are_starts" : Str), ("has_length" : Str), ("shows_longest" : Str), ("_law_pen" : Str), ("_law_draw" : Str), ("_law_pick" : Str), ("_law_chain" : Str), ("_law_beat" : Str), ("_law_round" : Str), ("_law_all" : Str), ("_law_is_int" : Str), ("_law_due" : Str), ("_law_bent_starts" : Str), ("_law_right" : Str)]
abbrev AlX : Type := He.AlD × Bool × List FnE
def obsK (g : Addr → Option Obj) (K : PySem.W.Frag) : AlX := (He.obsD fa fn K, ex K && tabsB g K, es.map (fun d => fnE K (d.f K)) ++ prs.map fun d => fnE K (d.g K))
def obsX (g : Addr → Option Obj) : AlX := obsK g (He.frT g (List.range' 0 12 ++ List.range' 21 25 ++ List.range' 64 11 ++ List.range' 77 11 ++ List.range' 98 11 ++ List.range' 119 11 ++ List.range' 140 11 ++ List.range' 161 11 ++ List.range' 182 66 ++ List.range' 303 11 ++ List.range' 321 11 ++ List.range' 383 11 ++ List.range' 397 11 ++ List.range' 416 11 ++ List.range' 437 35 ++ List.range' 475 21 ++ List.range' 503 206))
def hk : PySem.W.Hook where
  α := AlX
  obs := fun s => obsX s.heap.get?
  val := fun _ => (He.valD fn, true, es.map ExD.val ++ prs.map PrD.val)
  says := fun _ h => ∃ K : PySem.W.Frag, K.In h ∧ He.SaysD fa fn K ∧ ex K = true ∧ es.map (fun d => fnE K (d.f K)) ++ prs.map (fun d => fnE K (d.g K)) = es.map ExD.val ++ prs.map PrD.val ∧ TabH K h
  of := fun _ _ e => ⟨_, He.frT_in, congrArg (fun z : AlX => z.1) e, (He.ba (congrArg (fun z : AlX => z.2.1) e)).1, congrArg (fun z : AlX => z.2.2) e, tabsB_ok He.frT_in (He.ba (congrArg (fun z : AlX => z.2.1) e)).2⟩
  keeps := fun _ _ _ ⟨K, hK, c, e, ee, t⟩ k => ⟨K, PySem.W.Frag.In.keeps hK k, c, e, ee, t.keeps k⟩
abbrev R : PySem.W.OpenRow := PySem.W.OpenLaw.row PySem.Challenge.rw_restchains_k61_longest_looked_at
def ob (s : PySem.W.SharedT) : AlX := obsX (HandSHeadRun.getT s)
theorem ob_eq (s : PySem.W.SharedT) : ob s = hk.obs s.abs := by
  have e : HandSHeadRun.getT s = s.abs.heap.get? := funext fun a => HandSHeadRun.getT_eq s a
  unfold ob
  rw [e] <;> rfl
theorem map3 {α β γ δ : Type} {x : Option α} {f : α → β} {g : α → γ} {h : α → δ} {a : β} {b : γ} {c : δ} (p : x.map (fun s => (f s, g s)) = some (a, b)) (q : x.map h = some c) : x.map (fun s => (f s, g s, h s)) = some (a, b, c) := by
  cases x with
  | none => cases p
  | some s =>
    have p2 := Option.some.inj p
    have q2 := Option.some.inj q
    injection p2 with p3 p4
    show some (f s, g s, h s) = _
    rw [p3, p4, q2]
abbrev viewQ : PySem.Program := PySem.W.view R.prog [77]
theorem run_a (w : World) (os : PySem.OsState) : (HandSHeadRun.endF (HandSHeadRun.stepQ (HandSHeadRun.denQ HandSHeadRun.tabQ) R.prog w) 9000 R.prog w os).map (fun s => (HandSHeadRun.looksF R.prog (PySem.W.boot_heap w.params) s.abs, HandSHeadRun.seenQ viewQ loose (PySem.importedModules R.prog.main.body) (fun s => PySem.W.xlAt viewQ [] s && PySem.W.recOk R.toRowW.records s) s.abs)) = some (true, PySem.W.openGood viewQ loose) := by
  kernel_rfl
def kOf (s : PySem.W.SharedT) : PySem.W.Frag := He.frT (HandSHeadRun.getT s) (List.range' 0 12 ++ List.range' 21 25 ++ List.range' 64 11 ++ List.range' 77 11 ++ List.range' 98 11 ++ List.range' 119 11 ++ List.range' 140 11 ++ List.range' 161 11 ++ List.range' 182 66 ++ List.range' 303 11 ++ List.range' 321 11 ++ List.range' 383 11 ++ List.range' 397 11 ++ List.range' 416 11 ++ List.range' 437 35 ++ List.range' 475 21 ++ List.range' 503 206)
theorem map2 {α β δ : Type} {x : Option α} {f : α → β} {h : α → δ} {a : β} {c : δ} (p : x.map f = some a) (q : x.map h = some c) : x.map (fun s => (f s, h s)) = some (a, c) := by
  cases x with
  | none => cases p
  | some s =>
    show some (f s, h s) = _
    rw [Option.some.inj p, Option.some.inj q]
theorem map_obs {α : Type} {x : Option α} {k : α → PySem.W.Frag} (n : Nat) (p : x.map (fun s => fa.all fun f => f.ok (k s)) = some true) (q : x.map (fun s => He.obsD [] (fn.take n) (k s)) = some (He.valD (fn.take n))) (r : x.map (fun s => He.obsD [] (fn.drop n) (k s)) = some (He.valD (fn.drop n))) : x.map (fun s => He.obsD fa fn (k s)) = some (He.valD fn) := by
  cases x with
  | none => cases p
  | some s =>
    have p : (fa.all fun f => f.ok (k s)) = true := Option.some.inj p
    have q : (true && (fn.take n).all (fun d => d.ok (k s)), (fn.take n).map fun d => He.fnW (k s) d.at_) = (true, (fn.take n).map He.DefD.val) := Option.some.inj q
    have r : (true && (fn.drop n).all (fun d => d.ok (k s)), (fn.drop n).map fun d => He.fnW (k s) d.at_) = (true, (fn.drop n).map He.DefD.val) := Option.some.inj r
    rw [Bool.true_and] at q r
    injection q with q1 q2
    injection r with r1 r2
    show some ((fa.all fun f => f.ok (k s)) && fn.all fun d => d.ok (k s), fn.map fun d => He.fnW (k s) d.at_) = some (true, fn.map He.DefD.val)
    have e1 : fn.all (fun d => d.ok (k s)) = true := by
      rw [← List.take_append_drop n fn, List.all_append, q1, r1] <;> rfl
    have e2 : (fn.map fun d => He.fnW (k s) d.at_) = fn.map He.DefD.val := by
      rw [← List.take_append_drop n fn, List.map_append, List.map_append, q2, r2]
    rw [p, e1, e2] <;> rfl
theorem run_b0 (w : World) (os : PySem.OsState) : (HandSHeadRun.endF (HandSHeadRun.stepQ (HandSHeadRun.denQ HandSHeadRun.tabQ) R.prog w) 9000 R.prog w os).map (fun s => fa.all fun f => f.ok (kOf s)) = some true := by
  kernel_rfl
theorem run_b1 (w : World) (os : PySem.OsState) : (HandSHeadRun.endF (HandSHeadRun.stepQ (HandSHeadRun.denQ HandSHeadRun.tabQ) R.prog w) 9000 R.prog w os).map (fun s => He.obsD [] (fn.take 25) (kOf s)) = some (He.valD (fn.take 25)) := by
  kernel_rfl
theorem run_b2 (w : World) (os : PySem.OsState) : (HandSHeadRun.endF (HandSHeadRun.stepQ (HandSHeadRun.denQ HandSHeadRun.tabQ) R.prog w) 9000 R.prog w os).map (fun s => He.obsD [] (fn.drop 25) (kOf s)) = some (He.valD (fn.drop 25)) := by
  kernel_rfl
theorem run_b (w : World) (os : PySem.OsState) : (HandSHeadRun.endF (HandSHeadRun.stepQ (HandSHeadRun.denQ HandSHeadRun.tabQ) R.prog w) 9000 R.prog w os).map (fun s => He.obsD fa fn (kOf s)) = some (He.valD fn) := map_obs 25 (run_b0 w os) (run_b1 w os) (run_b2 w os)
theorem map_and {α : Type} {x : Option α} {l t : α → Bool} (p : x.map l = some true) (r : x.map t = some true) : x.map (fun s => l s && t s) = some true := by
  cases x with
  | none => cases p
  | some s =>
    show some (l s && t s) = _
    rw [Option.some.inj p, Option.some.inj r] <;> rfl
theorem map_cut {α : Type} {x : Option α} {l : α → List Bool} (n : Nat) (p : x.map (fun s => ((l s).take n).all id) = some true) (q : x.map (fun s => ((l s).drop n).all id) = some true) : x.map (fun s => (l s).all id) = some true := by
  cases x with
  | none => cases p
  | some s =>
    have p : ((l s).take n).all id = true := Option.some.inj p
    have q : ((l s).drop n).all id = true := Option.some.inj q
    show some ((l s).all id) = _
    rw [← List.take_append_drop n (l s), List.all_append, p, q] <;> rfl
theorem run_c2 (w : World) (os : PySem.OsState) : (HandSHeadRun.endF (HandSHeadRun.stepQ (HandSHeadRun.denQ HandSHeadRun.tabQ) R.prog w) 9000 R.prog w os).map (fun s => (exs (kOf s)).all id) = some true := by
  kernel_rfl
def tab1 (g : Addr → Option Obj) (K : PySem.W.Frag) (p : (Addr × Addr) × Str) : Bool := codeHdB K p.1.1 p.1.2 && ((K.lookup p.1.2).isNone && (match g p.1.2 with
  | some o => He.emptyTab o
  | none => false))
def tabs (s : PySem.W.SharedT) : List Bool := (csT (kOf s)).map (tab1 (HandSHeadRun.getT s) (kOf s))
theorem tabs_is (s : PySem.W.SharedT) : (tabs s).all id = tabsB (HandSHeadRun.getT s) (kOf s) := by
  unfold tabs tabsB
  rw [List.all_map]
  rfl
theorem run_c3a (w : World) (os : PySem.OsState) : (HandSHeadRun.endF (HandSHeadRun.stepQ (HandSHeadRun.denQ HandSHeadRun.tabQ) R.prog w) 9000 R.prog w os).map (fun s => ((tabs s).take 45).all id) = some true := by
  kernel_rfl
theorem run_c3b (w : World) (os : PySem.OsState) : (HandSHeadRun.endF (HandSHeadRun.stepQ (HandSHeadRun.denQ HandSHeadRun.tabQ) R.prog w) 9000 R.prog w os).map (fun s => (((tabs s).drop 45).take 45).all id) = some true := by
  kernel_rfl
theorem run_c3c (w : World) (os : PySem.OsState) : (HandSHeadRun.endF (HandSHeadRun.stepQ (HandSHeadRun.denQ HandSHeadRun.tabQ) R.prog w) 9000 R.prog w os).map (fun s => (((tabs s).drop 45).drop 45).all id) = some true := by
  kernel_rfl
theorem run_c3 (w : World) (os : PySem.OsState) : (HandSHeadRun.endF (HandSHeadRun.stepQ (HandSHeadRun.denQ HandSHeadRun.tabQ) R.prog w) 9000 R.prog w os).map (fun s => tabsB (HandSHeadRun.getT s) (kOf s)) = some true := by
  have h := map_cut (l := tabs) 45 (run_c3a w os) (map_cut (l := fun s => (tabs s).drop 45) 45 (run_c3b w os) (run_c3c w os))
  rwa [show (fun s => (tabs s).all id) = fun s => tabsB (HandSHeadRun.getT s) (kOf s) from funext tabs_is] at h
theorem run_c (w : World) (os : PySem.OsState) : (HandSHeadRun.endF (HandSHeadRun.stepQ (HandSHeadRun.denQ HandSHeadRun.tabQ) R.prog w) 9000 R.prog w os).map (fun s => ex (kOf s) && tabsB (HandSHeadRun.getT s) (kOf s)) = some true := map_and (run_c2 w os) (run_c3 w os)
theorem run_d (w : World) (os : PySem.OsState) : (HandSHeadRun.endF (HandSHeadRun.stepQ (HandSHeadRun.denQ HandSHeadRun.tabQ) R.prog w) 9000 R.prog w os).map (fun s => es.map (fun d => fnE (kOf s) (d.f (kOf s))) ++ prs.map fun d => fnE (kOf s) (d.g (kOf s))) = some (es.map ExD.val ++ prs.map PrD.val) := by
  kernel_rfl
theorem ob_is : ob = fun s => (He.obsD fa fn (kOf s), (ex (kOf s) && tabsB (HandSHeadRun.getT s) (kOf s), es.map (fun d => fnE (kOf s) (d.f (kOf s))) ++ prs.map fun d => fnE (kOf s) (d.g (kOf s)))) := rfl
theorem run_bc (w : World) (os : PySem.OsState) : (HandSHeadRun.endF (HandSHeadRun.stepQ (HandSHeadRun.denQ HandSHeadRun.tabQ) R.prog w) 9000 R.prog w os).map ob = some (hk.val w) := by
  rw [ob_is]
  exact map2 (run_b w os) (map2 (run_c w os) (run_d w os))
theorem run (w : World) : HandSHeadRun.RunEq R (PySem.W.view R.prog [77]) hk ob 9000 loose w := fun os => map3 (run_a w os) (run_bc w os)
structure Tx (K : PySem.W.Frag) (mg : Str → Option Value) : Prop where
  n_int : mg "int" = none
  n_isinstance : mg "isinstance" = none
  n_bool : mg "bool" = none
  g_is_integer : mg "is_integer" = some (.ref (He.ga K "is_integer"))
  g_is_between : mg "is_between" = some (.ref (He.ga K "is_between"))
  i_MOST_MODULUS_ : ∃ t, mg "MOST_MODULUS" = some (.int 1000000000000000000000000000000 t)
  n_list : mg "list" = none
  n_len : mg "len" = none
  n_abs : mg "abs" = none
  g__law_draw : mg "_law_draw" = some (.ref (He.ga K "_law_draw"))
  n_range : mg "range" = none
  g_times_in : mg "times_in" = some (.ref (He.ga K "times_in"))
  g_PRIMES : mg "PRIMES" = some (.ref (He.ga K "PRIMES"))
  g_small_in : mg "small_in" = some (.ref (He.ga K "small_in"))
  g_power_of : mg "power_of" = some (.ref (He.ga K "power_of"))
  g_combined : mg "combined" = some (.ref (He.ga K "combined"))
  n_tuple : mg "tuple" = none
  g_fits_modulus : mg "fits_modulus" = some (.ref (He.ga K "fits_modulus"))
  i_MOST_STAGES_ : ∃ t, mg "MOST_STAGES" = some (.int 6 t)
  cl_Prompt : Cls K (He.ga K "Prompt")
  g_Prompt : mg "Prompt" = some (.ref (He.ga K "Prompt"))
  na_Prompt_modulus : NoAttr K (He.ga K "Prompt") "modulus"
  na_Prompt_stages : NoAttr K (He.ga K "Prompt") "stages"
  cl_Late : Cls K (He.ga K "Late")
  g_Late : mg "Late" = some (.ref (He.ga K "Late"))
  na_Late_stages : NoAttr K (He.ga K "Late") "stages"
  na_Late_modulus : NoAttr K (He.ga K "Late") "modulus"
  cl_Longest : Cls K (He.ga K "Longest")
  g_Longest : mg "Longest" = some (.ref (He.ga K "Longest"))
  cl_Shortest : Cls K (He.ga K "Shortest")
  g_Shortest : mg "Shortest" = some (.ref (He.ga K "Shortest"))
  g_binomial : mg "binomial" = some (.ref (He.ga K "binomial"))
  n_sum : mg "sum" = none
  g_left_in : mg "left_in" = some (.ref (He.ga K "left_in"))
  n_all : mg "all" = none
  g_keeps : mg "keeps" = some (.ref (He.ga K "keeps"))
  g_small_power : mg "small_power" = some (.ref (He.ga K "small_power"))
  g_great_in : mg "great_in" = some (.ref (He.ga K "great_in"))
  g_shared_in : mg "shared_in" = some (.ref (He.ga K "shared_in"))
  n_zip : mg "zip" = none
  n_enumerate : mg "enumerate" = none
  g_next_forms : mg "next_forms" = some (.ref (He.ga K "next_forms"))
  g_named : mg "named" = some (.ref (He.ga K "named"))
  g_forms_of : mg "forms_of" = some (.ref (He.ga K "forms_of"))
  g_products : mg "products" = some (.ref (He.ga K "products"))
  g_joined : mg "joined" = some (.ref (He.ga K "joined"))
  n_any : mg "any" = none
  g_rows_for : mg "rows_for" = some (.ref (He.ga K "rows_for"))
  g_leaving_starts : mg "leaving_starts" = some (.ref (He.ga K "leaving_starts"))
  g_all_keep : mg "all_keep" = some (.ref (He.ga K "all_keep"))
  na_Longest_length : NoAttr K (He.ga K "Longest") "length"
  na_Longest_starts : NoAttr K (He.ga K "Longest") "starts"
  g_whole_starts : mg "whole_starts" = some (.ref (He.ga K "whole_starts"))
  g_need_input : mg "need_input" = some (.ref (He.ga K "need_input"))
  g_longest_small : mg "longest_small" = some (.ref (He.ga K "longest_small"))
  g_starts_with : mg "starts_with" = some (.ref (He.ga K "starts_with"))
  g_need_chain : mg "need_chain" = some (.ref (He.ga K "need_chain"))
  mk_Longest : Mk K (He.ga K "Longest") (He.ma K (He.ga K "Longest") "__init__")
  mk_Prompt : Mk K (He.ga K "Prompt") (He.ma K (He.ga K "Prompt") "__init__")
  mk_Late : Mk K (He.ga K "Late") (He.ma K (He.ga K "Late") "__init__")
  g__law_beat : mg "_law_beat" = some (.ref (He.ga K "_law_beat"))
  g_coefs_at : mg "coefs_at" = some (.ref (He.ga K "coefs_at"))
  g_length_in : mg "length_in" = some (.ref (He.ga K "length_in"))
  g_are_starts : mg "are_starts" = some (.ref (He.ga K "are_starts"))
  g_period_at : mg "period_at" = some (.ref (He.ga K "period_at"))
  g_has_length : mg "has_length" = some (.ref (He.ga K "has_length"))
  na_Shortest_length : NoAttr K (He.ga K "Shortest") "length"
  na_Shortest_starts : NoAttr K (He.ga K "Shortest") "starts"
  na_Shortest_bars : NoAttr K (He.ga K "Shortest") "bars"
  g__law_round : mg "_law_round" = some (.ref (He.ga K "_law_round"))
  g__law_is_int : mg "_law_is_int" = some (.ref (He.ga K "_law_is_int"))
  g__law_pick : mg "_law_pick" = some (.ref (He.ga K "_law_pick"))
  g__law_all : mg "_law_all" = some (.ref (He.ga K "_law_all"))
  g__law_bent_starts : mg "_law_bent_starts" = some (.ref (He.ga K "_law_bent_starts"))
  g_shows_longest : mg "shows_longest" = some (.ref (He.ga K "shows_longest"))
  g_longest : mg "longest" = some (.ref (He.ga K "longest"))
  g__law_due : mg "_law_due" = some (.ref (He.ga K "_law_due"))
  g__law_chain : mg "_law_chain" = some (.ref (He.ga K "_law_chain"))
  n_repr : mg "repr" = none
  n_str : mg "str" = none
  n_max : mg "max" = none
  mk_Shortest : Mk K (He.ga K "Shortest") (He.ma K (He.ga K "Shortest") "__init__")
  g__law_right : mg "_law_right" = some (.ref (He.ga K "_law_right"))
  g__law_pen : mg "_law_pen" = some (.ref (He.ga K "_law_pen"))
  g_law : mg "law" = some (.ref (He.ga K "law"))
  ct_PRIMES : TupC K (He.ga K "PRIMES") [2, 3, 5, 7, 11]
  it_Prompt : _root_.G.InsTy K (He.ga K "Prompt")
  it_Late : _root_.G.InsTy K (He.ga K "Late")
  it_Longest : _root_.G.InsTy K (He.ga K "Longest")
  it_Shortest : _root_.G.InsTy K (He.ga K "Shortest")
  kit_Prompt_Prompt : PySem.W.kitOne K (.ref (He.ga K "Prompt")) (.ref (He.ga K "Prompt")) = some true
  kit_Late_Prompt : PySem.W.kitOne K (.ref (He.ga K "Late")) (.ref (He.ga K "Prompt")) = some false
  kit_Late_Late : PySem.W.kitOne K (.ref (He.ga K "Late")) (.ref (He.ga K "Late")) = some true
  kit_Longest_Longest : PySem.W.kitOne K (.ref (He.ga K "Longest")) (.ref (He.ga K "Longest")) = some true
  kit_Prompt_Longest : PySem.W.kitOne K (.ref (He.ga K "Prompt")) (.ref (He.ga K "Longest")) = some false
  kit_Late_Longest : PySem.W.kitOne K (.ref (He.ga K "Late")) (.ref (He.ga K "Longest")) = some false
  kit_Shortest_Longest : PySem.W.kitOne K (.ref (He.ga K "Shortest")) (.ref (He.ga K "Longest")) = some false
  kn_Longest : KitN K (He.ga K "Longest")
  nf_Longest : NfN K (He.ga K "Longest")
  sysk : SysK K
  d_is_integer : ∃ fd, FunD K "is_integer" "is_integer" (defArgs (top 4)) (defBody (top 4)) (defScope (top 4)) [] [] (He.fAd K ("is_integer", none)) fd
  d_is_between : ∃ fd, FunD K "is_between" "is_between" (defArgs (top 5)) (defBody (top 5)) (defScope (top 5)) [] [] (He.fAd K ("is_between", none)) fd
  d_fits_modulus : ∃ fd, FunD K "fits_modulus" "fits_modulus" (defArgs (top 6)) (defBody (top 6)) (defScope (top 6)) [] [] (He.fAd K ("fits_modulus", none)) fd
  d_law_pen : ∃ fd, FunD K "_law_pen" "_law_pen" (defArgs (top 66)) (defBody (top 66)) (defScope (top 66)) [] [] (He.fAd K ("_law_pen", none)) fd
  d_law_draw : ∃ fd, FunD K "_law_draw" "_law_draw" (defArgs (top 67)) (defBody (top 67)) (defScope (top 67)) [] [] (He.fAd K ("_law_draw", none)) fd
  d_law_pick : ∃ fd, FunD K "_law_pick" "_law_pick" (defArgs (top 68)) (defBody (top 68)) (defScope (top 68)) [] [] (He.fAd K ("_law_pick", none)) fd
  d_binomial : ∃ fd, FunD K "binomial" "binomial" (defArgs (top 20)) (defBody (top 20)) (defScope (top 20)) [] [] (He.fAd K ("binomial", none)) fd
  d_power_of : ∃ fd, FunD K "power_of" "power_of" (defArgs (top 21)) (defBody (top 21)) (defScope (top 21)) [] [] (He.fAd K ("power_of", none)) fd
  d_times_in : ∃ fd, FunD K "times_in" "times_in" (defArgs (top 22)) (defBody (top 22)) (defScope (top 22)) [] [] (He.fAd K ("times_in", none)) fd
  d_small_in : ∃ fd, FunD K "small_in" "small_in" (defArgs (top 23)) (defBody (top 23)) (defScope (top 23)) [] [] (He.fAd K ("small_in", none)) fd
  d_great_in : ∃ fd, FunD K "great_in" "great_in" (defArgs (top 24)) (defBody (top 24)) (defScope (top 24)) [] [] (He.fAd K ("great_in", none)) fd
  d_combined : ∃ fd, FunD K "combined" "combined" (defArgs (top 25)) (defBody (top 25)) (defScope (top 25)) [] [] (He.fAd K ("combined", none)) fd
  d_shared_in : ∃ fd, FunD K "shared_in" "shared_in" (defArgs (top 26)) (defBody (top 26)) (defScope (top 26)) [] [] (He.fAd K ("shared_in", none)) fd
  d_joined : ∃ fd, FunD K "joined" "joined" (defArgs (top 27)) (defBody (top 27)) (defScope (top 27)) [] [] (He.fAd K ("joined", none)) fd
  d_PromptU_initU : ∃ fd, FunD K "__init__" "Chain.__init__" (defArgs (inClass (top 32) 2)) (defBody (inClass (top 32) 2)) (defScope (inClass (top 32) 2)) [] [] (He.fAd K ("Prompt", some "__init__")) fd
  d_LateU_initU : ∃ fd, FunD K "__init__" "Chain.__init__" (defArgs (inClass (top 32) 2)) (defBody (inClass (top 32) 2)) (defScope (inClass (top 32) 2)) [] [] (He.fAd K ("Late", some "__init__")) fd
  d_left_in : ∃ fd, FunD K "left_in" "left_in" (defArgs (top 38)) (defBody (top 38)) (defScope (top 38)) [] [] (He.fAd K ("left_in", none)) fd
  d_keeps : ∃ fd, FunD K "keeps" "keeps" (defArgs (top 39)) (defBody (top 39)) (defScope (top 39)) [] [] (He.fAd K ("keeps", none)) fd
  d_small_power : ∃ fd, FunD K "small_power" "small_power" (defArgs (top 40)) (defBody (top 40)) (defScope (top 40)) [] [] (He.fAd K ("small_power", none)) fd
  d_length_in : ∃ fd, FunD K "length_in" "length_in" (defArgs (top 41)) (defBody (top 41)) (defScope (top 41)) [] [] (He.fAd K ("length_in", none)) fd
  d_need_chain : ∃ fd, FunD K "need_chain" "need_chain" (defArgs (top 47)) (defBody (top 47)) (defScope (top 47)) [] [] (He.fAd K ("need_chain", none)) fd
  d_need_input : ∃ fd, FunD K "need_input" "need_input" (defArgs (top 48)) (defBody (top 48)) (defScope (top 48)) [] [] (He.fAd K ("need_input", none)) fd
  d_products : ∃ fd, FunD K "products" "products" (defArgs (top 43)) (defBody (top 43)) (defScope (top 43)) [] [] (He.fAd K ("products", none)) fd
  d_named : ∃ fd, FunD K "named" "named" (defArgs (top 49)) (defBody (top 49)) (defScope (top 49)) [] [] (He.fAd K ("named", none)) fd
  d_next_forms : ∃ fd, FunD K "next_forms" "next_forms" (defArgs (top 50)) (defBody (top 50)) (defScope (top 50)) [] [] (He.fAd K ("next_forms", none)) fd
  d_forms_of : ∃ fd, FunD K "forms_of" "forms_of" (defArgs (top 51)) (defBody (top 51)) (defScope (top 51)) [] [] (He.fAd K ("forms_of", none)) fd
  d_rows_for : ∃ fd, FunD K "rows_for" "rows_for" (defArgs (top 52)) (defBody (top 52)) (defScope (top 52)) [] [] (He.fAd K ("rows_for", none)) fd
  d_starts_with : ∃ fd, FunD K "starts_with" "starts_with" (defArgs (top 55)) (defBody (top 55)) (defScope (top 55)) [] [] (He.fAd K ("starts_with", none)) fd
  d_whole_starts : ∃ fd, FunD K "whole_starts" "whole_starts" (defArgs (top 56)) (defBody (top 56)) (defScope (top 56)) [] [] (He.fAd K ("whole_starts", none)) fd
  d_all_keep : ∃ fd, FunD K "all_keep" "all_keep" (defArgs (top 57)) (defBody (top 57)) (defScope (top 57)) [] [] (He.fAd K ("all_keep", none)) fd
  d_leaving_starts : ∃ fd, FunD K "leaving_starts" "leaving_starts" (defArgs (top 58)) (defBody (top 58)) (defScope (top 58)) [] [] (He.fAd K ("leaving_starts", none)) fd
  d_longest_small : ∃ fd, FunD K "longest_small" "longest_small" (defArgs (top 59)) (defBody (top 59)) (defScope (top 59)) [] [] (He.fAd K ("longest_small", none)) fd
  d_LongestU_initU : ∃ fd, FunD K "__init__" "Longest.__init__" (defArgs (inClass (top 45) 0)) (defBody (inClass (top 45) 0)) (defScope (inClass (top 45) 0)) [] [] (He.fAd K ("Longest", some "__init__")) fd
  d_longest : ∃ fd, FunD K "longest" "longest" (defArgs (top 60)) (defBody (top 60)) (defScope (top 60)) [] [] (He.fAd K ("longest", none)) fd
  d_law_chain : ∃ fd, FunD K "_law_chain" "_law_chain" (defArgs (top 69)) (defBody (top 69)) (defScope (top 69)) [] [] (He.fAd K ("_law_chain", none)) fd
  d_law_beat : ∃ fd, FunD K "_law_beat" "_law_beat" (defArgs (top 70)) (defBody (top 70)) (defScope (top 70)) [] [] (He.fAd K ("_law_beat", none)) fd
  d_law_round : ∃ fd, FunD K "_law_round" "_law_round" (defArgs (top 71)) (defBody (top 71)) (defScope (top 71)) [] [] (He.fAd K ("_law_round", none)) fd
  d_law_all : ∃ fd, FunD K "_law_all" "_law_all" (defArgs (top 72)) (defBody (top 72)) (defScope (top 72)) [] [] (He.fAd K ("_law_all", none)) fd
  d_coefs_at : ∃ fd, FunD K "coefs_at" "coefs_at" (defArgs (top 53)) (defBody (top 53)) (defScope (top 53)) [] [] (He.fAd K ("coefs_at", none)) fd
  d_period_at : ∃ fd, FunD K "period_at" "period_at" (defArgs (top 54)) (defBody (top 54)) (defScope (top 54)) [] [] (He.fAd K ("period_at", none)) fd
  d_are_starts : ∃ fd, FunD K "are_starts" "are_starts" (defArgs (top 62)) (defBody (top 62)) (defScope (top 62)) [] [] (He.fAd K ("are_starts", none)) fd
  d_has_length : ∃ fd, FunD K "has_length" "has_length" (defArgs (top 63)) (defBody (top 63)) (defScope (top 63)) [] [] (He.fAd K ("has_length", none)) fd
  d_shows_longest : ∃ fd, FunD K "shows_longest" "shows_longest" (defArgs (top 64)) (defBody (top 64)) (defScope (top 64)) [] [] (He.fAd K ("shows_longest", none)) fd
  d_ShortestU_initU : ∃ fd, FunD K "__init__" "Shortest.__init__" (defArgs (inClass (top 46) 0)) (defBody (inClass (top 46) 0)) (defScope (inClass (top 46) 0)) [] [] (He.fAd K ("Shortest", some "__init__")) fd
  d_law_is_int : ∃ fd, FunD K "_law_is_int" "_law_is_int" (defArgs (top 73)) (defBody (top 73)) (defScope (top 73)) [] [] (He.fAd K ("_law_is_int", none)) fd
  d_law_due : ∃ fd, FunD K "_law_due" "_law_due" (defArgs (top 74)) (defBody (top 74)) (defScope (top 74)) [] [] (He.fAd K ("_law_due", none)) fd
  d_law_bent_starts : ∃ fd, FunD K "_law_bent_starts" "_law_bent_starts" (defArgs (top 75)) (defBody (top 75)) (defScope (top 75)) [] [] (He.fAd K ("_law_bent_starts", none)) fd
  d_law_right : ∃ fd, FunD K "_law_right" "_law_right" (defArgs (top 76)) (defBody (top 76)) (defScope (top 76)) [] [] (He.fAd K ("_law_right", none)) fd
  d_law : ∃ fd, FunD K "law" "law" (defArgs (top 77)) (defBody (top 77)) (defScope (top 77)) [] [] (He.fAd K ("law", none)) fd
theorem tx {K : PySem.W.Frag} {mg : Str → Option Value} {h : Heap} (X : K.In h) (G : h.Ns mainGlobals mg) (c : He.SaysD fa fn K) (e : ex K = true) (ee : es.map (fun d => fnE K (d.f K)) ++ prs.map (fun d => fnE K (d.g K)) = es.map ExD.val ++ prs.map PrD.val) : Tx K mg := by
  have ee2 : ∀ i : Nat, (es.map (fun d => fnE K (d.f K)) ++ prs.map (fun d => fnE K (d.g K)))[i]? = (es.map ExD.val ++ prs.map PrD.val)[i]? := fun i => by rw [ee]
  have e2 : ∀ i b, (exs K)[i]? = some b → b = true := fun i b hb => List.all_eq_true.mp e b (List.mem_of_getElem? hb)
  have T_n_int : mg "int" = none := He.free_ok X G (c.fact 0 (f := .free "int") rfl)
  have T_n_isinstance : mg "isinstance" = none := He.free_ok X G (c.fact 1 (f := .free "isinstance") rfl)
  have T_n_bool : mg "bool" = none := He.free_ok X G (c.fact 2 (f := .free "bool") rfl)
  have T_g_is_integer : mg "is_integer" = some (.ref (He.ga K "is_integer")) := He.glo_ok X G (c.fact 3 (f := .glo "is_integer") rfl)
  have T_g_is_between : mg "is_between" = some (.ref (He.ga K "is_between")) := He.glo_ok X G (c.fact 4 (f := .glo "is_between") rfl)
  have T_i_MOST_MODULUS_ : ∃ t, mg "MOST_MODULUS" = some (.int 1000000000000000000000000000000 t) := He.int_ok X G (c.fact 5 (f := .int "MOST_MODULUS" 1000000000000000000000000000000) rfl)
  have T_n_list : mg "list" = none := He.free_ok X G (c.fact 6 (f := .free "list") rfl)
  have T_n_len : mg "len" = none := He.free_ok X G (c.fact 7 (f := .free "len") rfl)
  have T_n_abs : mg "abs" = none := He.free_ok X G (c.fact 8 (f := .free "abs") rfl)
  have T_g__law_draw : mg "_law_draw" = some (.ref (He.ga K "_law_draw")) := He.glo_ok X G (c.fact 9 (f := .glo "_law_draw") rfl)
  have T_n_range : mg "range" = none := He.free_ok X G (c.fact 10 (f := .free "range") rfl)
  have T_g_times_in : mg "times_in" = some (.ref (He.ga K "times_in")) := He.glo_ok X G (c.fact 11 (f := .glo "times_in") rfl)
  have T_g_PRIMES : mg "PRIMES" = some (.ref (He.ga K "PRIMES")) := He.glo_ok X G (c.fact 12 (f := .glo "PRIMES") rfl)
  have T_g_small_in : mg "small_in" = some (.ref (He.ga K "small_in")) := He.glo_ok X G (c.fact 13 (f := .glo "small_in") rfl)
  have T_g_power_of : mg "power_of" = some (.ref (He.ga K "power_of")) := He.glo_ok X G (c.fact 14 (f := .glo "power_of") rfl)
  have T_g_combined : mg "combined" = some (.ref (He.ga K "combined")) := He.glo_ok X G (c.fact 15 (f := .glo "combined") rfl)
  have T_n_tuple : mg "tuple" = none := He.free_ok X G (c.fact 16 (f := .free "tuple") rfl)
  have T_g_fits_modulus : mg "fits_modulus" = some (.ref (He.ga K "fits_modulus")) := He.glo_ok X G (c.fact 17 (f := .glo "fits_modulus") rfl)
  have T_i_MOST_STAGES_ : ∃ t, mg "MOST_STAGES" = some (.int 6 t) := He.int_ok X G (c.fact 18 (f := .int "MOST_STAGES" 6) rfl)
  have T_cl_Prompt : Cls K (He.ga K "Prompt") := He.cls_ok (c.fact 19 (f := .cls "Prompt") rfl)
  have T_g_Prompt : mg "Prompt" = some (.ref (He.ga K "Prompt")) := He.glo_ok X G (c.fact 20 (f := .glo "Prompt") rfl)
  have T_na_Prompt_modulus : NoAttr K (He.ga K "Prompt") "modulus" := He.noat_ok (c.fact 21 (f := .noat "Prompt" "modulus") rfl)
  have T_na_Prompt_stages : NoAttr K (He.ga K "Prompt") "stages" := He.noat_ok (c.fact 22 (f := .noat "Prompt" "stages") rfl)
  have T_cl_Late : Cls K (He.ga K "Late") := He.cls_ok (c.fact 23 (f := .cls "Late") rfl)
  have T_g_Late : mg "Late" = some (.ref (He.ga K "Late")) := He.glo_ok X G (c.fact 24 (f := .glo "Late") rfl)
  have T_na_Late_stages : NoAttr K (He.ga K "Late") "stages" := He.noat_ok (c.fact 25 (f := .noat "Late" "stages") rfl)
  have T_na_Late_modulus : NoAttr K (He.ga K "Late") "modulus" := He.noat_ok (c.fact 26 (f := .noat "Late" "modulus") rfl)
  have T_cl_Longest : Cls K (He.ga K "Longest") := He.cls_ok (c.fact 27 (f := .cls "Longest") rfl)
  have T_g_Longest : mg "Longest" = some (.ref (He.ga K "Longest")) := He.glo_ok X G (c.fact 28 (f := .glo "Longest") rfl)
  have T_cl_Shortest : Cls K (He.ga K "Shortest") := He.cls_ok (c.fact 29 (f := .cls "Shortest") rfl)
  have T_g_Shortest : mg "Shortest" = some (.ref (He.ga K "Shortest")) := He.glo_ok X G (c.fact 30 (f := .glo "Shortest") rfl)
  have T_g_binomial : mg "binomial" = some (.ref (He.ga K "binomial")) := He.glo_ok X G (c.fact 31 (f := .glo "binomial") rfl)
  have T_n_sum : mg "sum" = none := He.free_ok X G (c.fact 32 (f := .free "sum") rfl)
  have T_g_left_in : mg "left_in" = some (.ref (He.ga K "left_in")) := He.glo_ok X G (c.fact 33 (f := .glo "left_in") rfl)
  have T_n_all : mg "all" = none := He.free_ok X G (c.fact 34 (f := .free "all") rfl)
  have T_g_keeps : mg "keeps" = some (.ref (He.ga K "keeps")) := He.glo_ok X G (c.fact 35 (f := .glo "keeps") rfl)
  have T_g_small_power : mg "small_power" = some (.ref (He.ga K "small_power")) := He.glo_ok X G (c.fact 36 (f := .glo "small_power") rfl)
  have T_g_great_in : mg "great_in" = some (.ref (He.ga K "great_in")) := He.glo_ok X G (c.fact 37 (f := .glo "great_in") rfl)
  have T_g_shared_in : mg "shared_in" = some (.ref (He.ga K "shared_in")) := He.glo_ok X G (c.fact 38 (f := .glo "shared_in") rfl)
  have T_n_zip : mg "zip" = none := He.free_ok X G (c.fact 39 (f := .free "zip") rfl)
  have T_n_enumerate : mg "enumerate" = none := He.free_ok X G (c.fact 40 (f := .free "enumerate") rfl)
  have T_g_next_forms : mg "next_forms" = some (.ref (He.ga K "next_forms")) := He.glo_ok X G (c.fact 41 (f := .glo "next_forms") rfl)
  have T_g_named : mg "named" = some (.ref (He.ga K "named")) := He.glo_ok X G (c.fact 42 (f := .glo "named") rfl)
  have T_g_forms_of : mg "forms_of" = some (.ref (He.ga K "forms_of")) := He.glo_ok X G (c.fact 43 (f := .glo "forms_of") rfl)
  have T_g_products : mg "products" = some (.ref (He.ga K "products")) := He.glo_ok X G (c.fact 44 (f := .glo "products") rfl)
  have T_g_joined : mg "joined" = some (.ref (He.ga K "joined")) := He.glo_ok X G (c.fact 45 (f := .glo "joined") rfl)
  have T_n_any : mg "any" = none := He.free_ok X G (c.fact 46 (f := .free "any") rfl)
  have T_g_rows_for : mg "rows_for" = some (.ref (He.ga K "rows_for")) := He.glo_ok X G (c.fact 47 (f := .glo "rows_for") rfl)
  have T_g_leaving_starts : mg "leaving_starts" = some (.ref (He.ga K "leaving_starts")) := He.glo_ok X G (c.fact 48 (f := .glo "leaving_starts") rfl)
  have T_g_all_keep : mg "all_keep" = some (.ref (He.ga K "all_keep")) := He.glo_ok X G (c.fact 49 (f := .glo "all_keep") rfl)
  have T_na_Longest_length : NoAttr K (He.ga K "Longest") "length" := He.noat_ok (c.fact 50 (f := .noat "Longest" "length") rfl)
  have T_na_Longest_starts : NoAttr K (He.ga K "Longest") "starts" := He.noat_ok (c.fact 51 (f := .noat "Longest" "starts") rfl)
  have T_g_whole_starts : mg "whole_starts" = some (.ref (He.ga K "whole_starts")) := He.glo_ok X G (c.fact 52 (f := .glo "whole_starts") rfl)
  have T_g_need_input : mg "need_input" = some (.ref (He.ga K "need_input")) := He.glo_ok X G (c.fact 53 (f := .glo "need_input") rfl)
  have T_g_longest_small : mg "longest_small" = some (.ref (He.ga K "longest_small")) := He.glo_ok X G (c.fact 54 (f := .glo "longest_small") rfl)
  have T_g_starts_with : mg "starts_with" = some (.ref (He.ga K "starts_with")) := He.glo_ok X G (c.fact 55 (f := .glo "starts_with") rfl)
  have T_g_need_chain : mg "need_chain" = some (.ref (He.ga K "need_chain")) := He.glo_ok X G (c.fact 56 (f := .glo "need_chain") rfl)
  have T_mk_Longest : Mk K (He.ga K "Longest") (He.ma K (He.ga K "Longest") "__init__") := He.mkr_ok (c.fact 57 (f := .mkr "Longest") rfl)
  have T_mk_Prompt : Mk K (He.ga K "Prompt") (He.ma K (He.ga K "Prompt") "__init__") := He.mkr_ok (c.fact 58 (f := .mkr "Prompt") rfl)
  have T_mk_Late : Mk K (He.ga K "Late") (He.ma K (He.ga K "Late") "__init__") := He.mkr_ok (c.fact 59 (f := .mkr "Late") rfl)
  have T_g__law_beat : mg "_law_beat" = some (.ref (He.ga K "_law_beat")) := He.glo_ok X G (c.fact 60 (f := .glo "_law_beat") rfl)
  have T_g_coefs_at : mg "coefs_at" = some (.ref (He.ga K "coefs_at")) := He.glo_ok X G (c.fact 61 (f := .glo "coefs_at") rfl)
  have T_g_length_in : mg "length_in" = some (.ref (He.ga K "length_in")) := He.glo_ok X G (c.fact 62 (f := .glo "length_in") rfl)
  have T_g_are_starts : mg "are_starts" = some (.ref (He.ga K "are_starts")) := He.glo_ok X G (c.fact 63 (f := .glo "are_starts") rfl)
  have T_g_period_at : mg "period_at" = some (.ref (He.ga K "period_at")) := He.glo_ok X G (c.fact 64 (f := .glo "period_at") rfl)
  have T_g_has_length : mg "has_length" = some (.ref (He.ga K "has_length")) := He.glo_ok X G (c.fact 65 (f := .glo "has_length") rfl)
  have T_na_Shortest_length : NoAttr K (He.ga K "Shortest") "length" := He.noat_ok (c.fact 66 (f := .noat "Shortest" "length") rfl)
  have T_na_Shortest_starts : NoAttr K (He.ga K "Shortest") "starts" := He.noat_ok (c.fact 67 (f := .noat "Shortest" "starts") rfl)
  have T_na_Shortest_bars : NoAttr K (He.ga K "Shortest") "bars" := He.noat_ok (c.fact 68 (f := .noat "Shortest" "bars") rfl)
  have T_g__law_round : mg "_law_round" = some (.ref (He.ga K "_law_round")) := He.glo_ok X G (c.fact 69 (f := .glo "_law_round") rfl)
  have T_g__law_is_int : mg "_law_is_int" = some (.ref (He.ga K "_law_is_int")) := He.glo_ok X G (c.fact 70 (f := .glo "_law_is_int") rfl)
  have T_g__law_pick : mg "_law_pick" = some (.ref (He.ga K "_law_pick")) := He.glo_ok X G (c.fact 71 (f := .glo "_law_pick") rfl)
  have T_g__law_all : mg "_law_all" = some (.ref (He.ga K "_law_all")) := He.glo_ok X G (c.fact 72 (f := .glo "_law_all") rfl)
  have T_g__law_bent_starts : mg "_law_bent_starts" = some (.ref (He.ga K "_law_bent_starts")) := He.glo_ok X G (c.fact 73 (f := .glo "_law_bent_starts") rfl)
  have T_g_shows_longest : mg "shows_longest" = some (.ref (He.ga K "shows_longest")) := He.glo_ok X G (c.fact 74 (f := .glo "shows_longest") rfl)
  have T_g_longest : mg "longest" = some (.ref (He.ga K "longest")) := He.glo_ok X G (c.fact 75 (f := .glo "longest") rfl)
  have T_g__law_due : mg "_law_due" = some (.ref (He.ga K "_law_due")) := He.glo_ok X G (c.fact 76 (f := .glo "_law_due") rfl)
  have T_g__law_chain : mg "_law_chain" = some (.ref (He.ga K "_law_chain")) := He.glo_ok X G (c.fact 77 (f := .glo "_law_chain") rfl)
  have T_n_repr : mg "repr" = none := He.free_ok X G (c.fact 78 (f := .free "repr") rfl)
  have T_n_str : mg "str" = none := He.free_ok X G (c.fact 79 (f := .free "str") rfl)
  have T_n_max : mg "max" = none := He.free_ok X G (c.fact 80 (f := .free "max") rfl)
  have T_mk_Shortest : Mk K (He.ga K "Shortest") (He.ma K (He.ga K "Shortest") "__init__") := He.mkr_ok (c.fact 81 (f := .mkr "Shortest") rfl)
  have T_g__law_right : mg "_law_right" = some (.ref (He.ga K "_law_right")) := He.glo_ok X G (c.fact 82 (f := .glo "_law_right") rfl)
  have T_g__law_pen : mg "_law_pen" = some (.ref (He.ga K "_law_pen")) := He.glo_ok X G (c.fact 83 (f := .glo "_law_pen") rfl)
  have T_g_law : mg "law" = some (.ref (He.ga K "law")) := He.glo_ok X G (c.fact 84 (f := .glo "law") rfl)
  have T_ct_PRIMES : TupC K (He.ga K "PRIMES") [2, 3, 5, 7, 11] := tupB_ok (e2 0 _ rfl)
  have T_it_Prompt : _root_.G.InsTy K (He.ga K "Prompt") := insB_ok T_cl_Prompt (e2 1 _ rfl)
  have T_it_Late : _root_.G.InsTy K (He.ga K "Late") := insB_ok T_cl_Late (e2 2 _ rfl)
  have T_it_Longest : _root_.G.InsTy K (He.ga K "Longest") := insB_ok T_cl_Longest (e2 3 _ rfl)
  have T_it_Shortest : _root_.G.InsTy K (He.ga K "Shortest") := insB_ok T_cl_Shortest (e2 4 _ rfl)
  have T_kit_Prompt_Prompt : PySem.W.kitOne K (.ref (He.ga K "Prompt")) (.ref (He.ga K "Prompt")) = some true := of_decide_eq_true (e2 5 _ rfl)
  have T_kit_Late_Prompt : PySem.W.kitOne K (.ref (He.ga K "Late")) (.ref (He.ga K "Prompt")) = some false := of_decide_eq_true (e2 6 _ rfl)
  have T_kit_Late_Late : PySem.W.kitOne K (.ref (He.ga K "Late")) (.ref (He.ga K "Late")) = some true := of_decide_eq_true (e2 7 _ rfl)
  have T_kit_Longest_Longest : PySem.W.kitOne K (.ref (He.ga K "Longest")) (.ref (He.ga K "Longest")) = some true := of_decide_eq_true (e2 8 _ rfl)
  have T_kit_Prompt_Longest : PySem.W.kitOne K (.ref (He.ga K "Prompt")) (.ref (He.ga K "Longest")) = some false := of_decide_eq_true (e2 9 _ rfl)
  have T_kit_Late_Longest : PySem.W.kitOne K (.ref (He.ga K "Late")) (.ref (He.ga K "Longest")) = some false := of_decide_eq_true (e2 10 _ rfl)
  have T_kit_Shortest_Longest : PySem.W.kitOne K (.ref (He.ga K "Shortest")) (.ref (He.ga K "Longest")) = some false := of_decide_eq_true (e2 11 _ rfl)
  have T_kn_Longest : KitN K (He.ga K "Longest") := kitNB_ok (e2 12 _ rfl)
  have T_nf_Longest : NfN K (He.ga K "Longest") := nfNB_ok (e2 13 _ rfl)
  have T_sysk : SysK K := sysk_of (e2 14 _ rfl)
  exact ⟨T_n_int, T_n_isinstance, T_n_bool, T_g_is_integer, T_g_is_between, T_i_MOST_MODULUS_, T_n_list, T_n_len, T_n_abs, T_g__law_draw, T_n_range, T_g_times_in, T_g_PRIMES, T_g_small_in, T_g_power_of, T_g_combined, T_n_tuple, T_g_fits_modulus, T_i_MOST_STAGES_, T_cl_Prompt, T_g_Prompt, T_na_Prompt_modulus, T_na_Prompt_stages, T_cl_Late, T_g_Late, T_na_Late_stages, T_na_Late_modulus, T_cl_Longest, T_g_Longest, T_cl_Shortest, T_g_Shortest, T_g_binomial, T_n_sum, T_g_left_in, T_n_all, T_g_keeps, T_g_small_power, T_g_great_in, T_g_shared_in, T_n_zip, T_n_enumerate, T_g_next_forms, T_g_named, T_g_forms_of, T_g_products, T_g_joined, T_n_any, T_g_rows_for, T_g_leaving_starts, T_g_all_keep, T_na_Longest_length, T_na_Longest_starts, T_g_whole_starts, T_g_need_input, T_g_longest_small, T_g_starts_with, T_g_need_chain, T_mk_Longest, T_mk_Prompt, T_mk_Late, T_g__law_beat, T_g_coefs_at, T_g_length_in, T_g_are_starts, T_g_period_at, T_g_has_length, T_na_Shortest_length, T_na_Shortest_starts, T_na_Shortest_bars, T_g__law_round, T_g__law_is_int, T_g__law_pick, T_g__law_all, T_g__law_bent_starts, T_g_shows_longest, T_g_longest, T_g__law_due, T_g__law_chain, T_n_repr, T_n_str, T_n_max, T_mk_Shortest, T_g__law_right, T_g__law_pen, T_g_law, T_ct_PRIMES, T_it_Prompt, T_it_Late, T_it_Longest, T_it_Shortest, T_kit_Prompt_Prompt, T_kit_Late_Prompt, T_kit_Late_Late, T_kit_Longest_Longest, T_kit_Prompt_Longest, T_kit_Late_Longest, T_kit_Shortest_Longest, T_kn_Longest, T_nf_Longest, T_sysk, (c.def_ 0 (d := d_is_integer) rfl), (c.def_ 1 (d := d_is_between) rfl), (c.def_ 2 (d := d_fits_modulus) rfl), (c.def_ 3 (d := d_law_pen) rfl), (c.def_ 4 (d := d_law_draw) rfl), (c.def_ 5 (d := d_law_pick) rfl), (c.def_ 6 (d := d_binomial) rfl), (c.def_ 7 (d := d_power_of) rfl), (c.def_ 8 (d := d_times_in) rfl), (c.def_ 9 (d := d_small_in) rfl), (c.def_ 10 (d := d_great_in) rfl), (c.def_ 11 (d := d_combined) rfl), (c.def_ 12 (d := d_shared_in) rfl), (c.def_ 13 (d := d_joined) rfl), (c.def_ 14 (d := d_PromptU_initU) rfl), (c.def_ 15 (d := d_LateU_initU) rfl), (c.def_ 16 (d := d_left_in) rfl), (c.def_ 17 (d := d_keeps) rfl), (c.def_ 18 (d := d_small_power) rfl), (c.def_ 19 (d := d_length_in) rfl), (c.def_ 20 (d := d_need_chain) rfl), (c.def_ 21 (d := d_need_input) rfl), (c.def_ 22 (d := d_products) rfl), (c.def_ 23 (d := d_named) rfl), (c.def_ 24 (d := d_next_forms) rfl), (c.def_ 25 (d := d_forms_of) rfl), (c.def_ 26 (d := d_rows_for) rfl), (c.def_ 27 (d := d_starts_with) rfl), (c.def_ 28 (d := d_whole_starts) rfl), (c.def_ 29 (d := d_all_keep) rfl), (c.def_ 30 (d := d_leaving_starts) rfl), (c.def_ 31 (d := d_longest_small) rfl), (c.def_ 32 (d := d_LongestU_initU) rfl), (c.def_ 33 (d := d_longest) rfl), (c.def_ 34 (d := d_law_chain) rfl), (c.def_ 35 (d := d_law_beat) rfl), (c.def_ 36 (d := d_law_round) rfl), (c.def_ 37 (d := d_law_all) rfl), (c.def_ 38 (d := d_coefs_at) rfl), (c.def_ 39 (d := d_period_at) rfl), (c.def_ 40 (d := d_are_starts) rfl), (c.def_ 41 (d := d_has_length) rfl), (c.def_ 42 (d := d_shows_longest) rfl), (c.def_ 43 (d := d_ShortestU_initU) rfl), (c.def_ 44 (d := d_law_is_int) rfl), (c.def_ 45 (d := d_law_due) rfl), (c.def_ 46 (d := d_law_bent_starts) rfl), (c.def_ 47 (d := d_law_right) rfl), (c.def_ 48 (d := d_law) rfl)⟩
end My

set_option linter.all false
set_option maxRecDepth 100000
namespace La
def dot : List Int → List Int → Int
  | [], _ => 0
  | _ :: _, [] => 0
  | a :: xs, b :: ys => a * b + dot xs ys
/-- xs - k ys -/
def sb (k : Int) (xs ys : List Int) : List Int := List.zipWith (fun x y => x - k * y) xs ys
/-- a xs + b ys -/
def lc (a b : Int) (xs ys : List Int) : List Int := List.zipWith (fun x y => a * x + b * y) xs ys
theorem dot_nil (ys : List Int) : dot [] ys = 0 := rfl
theorem dot_nilr (xs : List Int) : dot xs [] = 0 := by cases xs <;> rfl
theorem dot_comm : ∀ (xs ys : List Int), dot xs ys = dot ys xs
  | [], ys => by rw [dot_nilr]; rfl
  | x :: xs, [] => rfl
  | x :: xs, y :: ys => by
    show x * y + dot xs ys = y * x + dot ys xs
    rw [dot_comm xs ys, Int.mul_comm]
theorem sb_len {k : Int} {xs ys : List Int} (h : xs.length = ys.length) : (sb k xs ys).length = xs.length := by
  unfold sb; rw [List.length_zipWith]; omega
theorem sb_lc (k : Int) (xs ys : List Int) : sb k xs ys = lc 1 (-k) xs ys := by
  unfold sb lc
  congr 1
  funext x y
  grind
theorem dot_lc {a b : Int} : ∀ {xs ys : List Int} (zs : List Int), xs.length = ys.length → dot (lc a b xs ys) zs = a * dot xs zs + b * dot ys zs
  | [], [], zs, _ => by show (0 : Int) = _; rw [dot_nil]; grind
  | [], _ :: _, _, h => by cases h
  | _ :: _, [], _, h => by cases h
  | x :: xs, y :: ys, [], _ => by show (0 : Int) = a * 0 + b * 0; grind
  | x :: xs, y :: ys, z :: zs, h => by
    have ih := dot_lc (a := a) (b := b) (xs := xs) (ys := ys) zs (Nat.succ.inj h)
    show (a * x + b * y) * z + dot (lc a b xs ys) zs = a * (x * z + dot xs zs) + b * (y * z + dot ys zs)
    grind
theorem dot_rep0 : ∀ (n : Nat) (zs : List Int), dot (List.replicate n 0) zs = 0
  | 0, _ => rfl
  | n + 1, [] => rfl
  | n + 1, z :: zs => by
    show 0 * z + dot (List.replicate n 0) zs = 0
    rw [dot_rep0 n zs]; grind
/-- remainders of all -/
def md (m : Int) (xs : List Int) : List Int := xs.map fun x => x % m
theorem md_len {m : Int} {xs : List Int} : (md m xs).length = xs.length := List.length_map ..
theorem dot_md {m : Int} : ∀ (xs zs : List Int), ∃ k, dot (md m xs) zs = dot xs zs + m * k
  | [], _ => ⟨0, by show (0 : Int) = 0 + m * 0; grind⟩
  | x :: xs, [] => ⟨0, by show (0 : Int) = 0 + m * 0; grind⟩
  | x :: xs, z :: zs => by
    obtain ⟨k, hk⟩ := dot_md (m := m) xs zs
    refine ⟨k - (x / m) * z, ?_⟩
    show x % m * z + dot (md m xs) zs = x * z + dot xs zs + m * (k - (x / m) * z)
    rw [hk]
    have := Int.emod_add_mul_ediv x m
    grind
theorem dvd_md {m : Int} {xs zs : List Int} : m ∣ dot (md m xs) zs ↔ m ∣ dot xs zs := by
  obtain ⟨k, hk⟩ := dot_md (m := m) xs zs
  rw [hk]
  exact ⟨fun h => (Int.dvd_add_left ⟨k, rfl⟩).mp h, fun h => Int.dvd_add h ⟨k, rfl⟩⟩
def bezF : Nat → Int × Int × Int → Int × Int × Int → Int × Int × Int
  | 0, p, _ => p
  | f + 1, p, q => if 0 < q.1 then bezF f q (p.1 - (p.1 / q.1) * q.1, p.2.1 - (p.1 / q.1) * q.2.1, p.2.2 - (p.1 / q.1) * q.2.2) else p
def bez (a b : Int) : Int × Int × Int := bezF (b.toNat + 1) (a, 1, 0) (b, 0, 1)
/-- the rows of a triangle with pivots above 0 that divide m, the width n -/
def Tri (m : Int) : Nat → List (List Int) → Prop
  | 0, T => T = []
  | n + 1, T => ∃ p q R, T = (p :: q) :: R ∧ 0 < p ∧ p ∣ m ∧ q.length = n ∧ Tri m n R
/-- what the rows make -/
def InS : List (List Int) → List Int → Prop
  | [], v => v = []
  | (p :: q) :: T, x :: u => p ∣ x ∧ InS T (sb (x / p) u q)
  | _, _ => False
def diagT (m : Int) : Nat → List (List Int)
  | 0 => []
  | n + 1 => (m :: List.replicate n 0) :: diagT m n
/-- one more row -/
def putT (m : Int) : List (List Int) → List Int → List (List Int)
  | (p :: q) :: T, x :: l => if x = 0 then (p :: q) :: putT m T l else
      ((bez p x).1 :: md m (lc (bez p x).2.1 (bez p x).2.2 q l)) :: putT m T (md m (lc (p / (bez p x).1) (-(x / (bez p x).1)) l q))
  | T, _ => T
/-- all in 0 .. m - 1 -/
def Red (m : Int) (l : List Int) : Prop := ∀ x ∈ l, 0 ≤ x ∧ x < m
theorem lc_cons {a b x y : Int} {xs ys : List Int} : lc a b (x :: xs) (y :: ys) = (a * x + b * y) :: lc a b xs ys := rfl
/-- equal entry by entry -/
theorem ext_dot : ∀ {n : Nat} {xs ys : List Int}, xs.length = n → ys.length = n → (∀ i, xs.getD i 0 = ys.getD i 0) → xs = ys
  | 0, [], [], _, _, _ => rfl
  | n + 1, x :: xs, y :: ys, h1, h2, h => by
    have h0 : x = y := h 0
    rw [h0, ext_dot (Nat.succ.inj h1) (Nat.succ.inj h2) fun i => h (i + 1)]
theorem getD_lc {a b : Int} : ∀ {xs ys : List Int} (i : Nat), xs.length = ys.length → (lc a b xs ys).getD i 0 = a * xs.getD i 0 + b * ys.getD i 0
  | [], [], i, _ => by show (0 : Int) = a * 0 + b * 0; grind
  | [], _ :: _, _, h => by cases h
  | _ :: _, [], _, h => by cases h
  | x :: xs, y :: ys, 0, _ => rfl
  | x :: xs, y :: ys, i + 1, h => getD_lc i (Nat.succ.inj h)
theorem getD_sb {k : Int} {xs ys : List Int} (i : Nat) (h : xs.length = ys.length) : (sb k xs ys).getD i 0 = xs.getD i 0 - k * ys.getD i 0 := by
  rw [sb_lc, getD_lc i h]; grind
theorem ins_zero {m : Int} : ∀ {n : Nat} {T : List (List Int)}, Tri m n T → InS T (List.replicate n 0)
  | 0, T, h => by rw [show T = [] from h]; rfl
  | n + 1, T, h => by
    obtain ⟨p, q, R, rfl, hp, hd, hq, hR⟩ := h
    refine ⟨Int.dvd_zero p, ?_⟩
    have e : sb (0 / p) (List.replicate n 0) q = List.replicate n 0 := by
      refine ext_dot (n := n) (by rw [sb_len (by rw [List.length_replicate]; omega), List.length_replicate]) List.length_replicate fun z => ?_
      rw [getD_sb z (by rw [List.length_replicate]; omega), Int.zero_ediv]
      grind
    have : sb (0 / p) (List.replicate n 0) q = _ := e
    show InS R (sb (0 / p) (List.replicate n 0) q)
    rw [e]
    exact ins_zero hR
/-- m times each unit is made -/
def Fl (m : Int) : List (List Int) → Prop
  | [] => True
  | [] :: _ => False
  | (p :: q) :: T => InS T (q.map fun y => m / p * y) ∧ Fl m T
theorem getD_md {m : Int} {xs : List Int} (i : Nat) : (md m xs).getD i 0 = xs.getD i 0 % m := by
  unfold md
  rw [List.getD_eq_getElem?_getD, List.getElem?_map, List.getD_eq_getElem?_getD]
  cases xs[i]? with
  | none => show (0 : Int) = 0 % m; rw [Int.zero_emod]
  | some y => rfl
/-- x :: u is made: what that says, with the multiple told -/
theorem ins_c {p k x : Int} {q u : List Int} {R : List (List Int)} (hp : 0 < p) (e : x = p * k) : InS ((p :: q) :: R) (x :: u) ↔ InS R (sb k u q) := by
  subst e
  have e : p * k / p = k := Int.mul_ediv_cancel_left _ (by omega)
  constructor
  · rintro ⟨_, h⟩
    rwa [e] at h
  · intro h
    exact ⟨⟨k, rfl⟩, by rw [e]; exact h⟩
/-- all of some rows leave nothing -/
def KA (m : Int) (vs : List (List Int)) (x : List Int) : Prop := ∀ v ∈ vs, m ∣ dot v x
def agT (m : Int) : List (List Int) → List (List Int)
  | (p :: q) :: T => (m / p :: q.map fun _ => 0) :: (agT m T).map fun c => -(dot c q) / p :: c
  | _ => []
def redT : List Int → List (List Int) → List Int
  | x :: q, (b :: bs) :: F => (x - x / b * b) :: redT (sb (x / b) q bs) F
  | q, _ => q
def lessT : List (List Int) → List (List Int)
  | (p :: q) :: R => (p :: redT q (lessT R)) :: lessT R
  | _ => []
/-- each entry below the pivot of its place -/
def RedQ : List Int → List (List Int) → Prop
  | x :: q, (b :: _) :: F => 0 ≤ x ∧ x < b ∧ RedQ q F
  | _, _ => True
def RedT : List (List Int) → Prop
  | (_ :: q) :: R => RedQ q R ∧ RedT R
  | _ => True
/-- rows from 0 on below the pivots that differ by what is made are one -/
theorem redQ_uniq {m : Int} : ∀ {n : Nat} {F : List (List Int)} {q q' : List Int}, Tri m n F → q.length = n → q'.length = n → RedQ q F → RedQ q' F → InS F (sb 1 q q') → q = q'
  | 0, F, [], [], _, _, _, _, _, _ => rfl
  | n + 1, F, x :: q, x' :: q', h, h1, h2, r1, r2, hi => by
    obtain ⟨b, bs, R, rfl, hb, hd, hbs, hR⟩ := h
    obtain ⟨a1, a2, a3⟩ := r1
    obtain ⟨b1, b2, b3⟩ := r2
    obtain ⟨⟨k, hk⟩, hi⟩ := hi
    have h1' : q.length = n := Nat.succ.inj h1
    have h2' : q'.length = n := Nat.succ.inj h2
    have hk' : x - 1 * x' = b * k := hk
    have k0 : k = 0 := by
      have u1 : b * k < b * 1 := by rw [← hk']; omega
      have u2 : b * (-1) < b * k := by rw [← hk']; omega
      have := Int.lt_of_mul_lt_mul_left u1 (by omega)
      have := Int.lt_of_mul_lt_mul_left u2 (by omega)
      omega
    rw [k0, Int.mul_zero] at hk'
    have e0 : x = x' := by omega
    have hi' : InS R (sb ((x - 1 * x') / b) (sb 1 q q') bs) := hi
    rw [hk', Int.zero_ediv] at hi'
    have e1 : sb 0 (sb 1 q q') bs = sb 1 q q' := ext_dot (n := n) (by rw [sb_len (by rw [sb_len (by omega)]; omega), sb_len (by omega)]; exact h1') (by rw [sb_len (by omega)]; exact h1') fun z => by
      rw [getD_sb z (by rw [sb_len (by omega)]; omega)]; grind
    rw [e1] at hi'
    rw [e0, redQ_uniq hR h1' h2' a3 b3 hi']
theorem tri_uniq {m : Int} (hm : 0 < m) : ∀ {n : Nat} {T T' : List (List Int)}, Tri m n T → Tri m n T' → RedT T → RedT T' → (∀ v, v.length = n → (InS T v ↔ InS T' v)) → T = T'
  | 0, T, T', h, h', _, _, _ => by rw [show T = [] from h, show T' = [] from h']
  | n + 1, T, T', h, h', r, r', hi => by
    have hT := h
    have hT' := h'
    obtain ⟨p, q, R, rfl, hp, hd, hq, hR⟩ := h
    obtain ⟨p', q', R', rfl, hp', hd', hq', hR'⟩ := h'
    have s0 : ∀ (v : List Int), v.length = n → ∀ w : List Int, w.length = n → sb 0 v w = v := fun v hv w hw => ext_dot (n := n) (by rw [sb_len (by omega)]; exact hv) hv fun z => by rw [getD_sb z (by omega)]; grind
    have e1 : ∀ v, v.length = n → (InS R v ↔ InS R' v) := fun v hv => by
      have := hi (0 :: v) (by rw [List.length_cons, hv])
      rw [ins_c (k := 0) hp (by grind), ins_c (k := 0) hp' (by grind), s0 v hv q hq, s0 v hv q' hq'] at this
      exact this
    have self : ∀ {p : Int} {q : List Int} {R : List (List Int)}, 0 < p → q.length = n → Tri m n R → InS ((p :: q) :: R) (p :: q) := fun {p q R} hp hq hR => by
      rw [ins_c (k := 1) hp (by grind)]
      have e : sb 1 q q = List.replicate n 0 := ext_dot (n := n) (by rw [sb_len rfl]; exact hq) List.length_replicate fun z => by
        rw [getD_sb z rfl]
        have : (List.replicate n (0 : Int)).getD z 0 = 0 := by
          rw [List.getD_eq_getElem?_getD, List.getElem?_replicate]
          split <;> rfl
        rw [this]; grind
      rw [e]
      exact ins_zero hR
    have d1 : p' ∣ p := ((hi (p :: q) (by rw [List.length_cons, hq])).mp (self hp hq hR)).1
    have d2 : p ∣ p' := ((hi (p' :: q') (by rw [List.length_cons, hq'])).mpr (self hp' hq' hR')).1
    have ep : p = p' := Int.le_antisymm (Int.le_of_dvd hp' d2) (Int.le_of_dvd hp d1)
    have eR : R = R' := tri_uniq hm hR hR' r.2 r'.2 e1
    subst ep eR
    have h3 := (hi (p :: q) (by rw [List.length_cons, hq])).mp (self hp hq hR)
    rw [ins_c (k := 1) hp (by grind)] at h3
    rw [redQ_uniq hR hq hq' r.1 r'.1 h3]

def echT (m : Int) (n : Nat) (vs : List (List Int)) : List (List Int) := lessT (vs.foldl (fun T v => putT m T (md m v)) (diagT m n))
/-- the basis of all tuples that keep some rows -/
def keptT (m : Int) (n : Nat) (rows : List (List Int)) : List (List Int) := echT m n (agT m (echT m n rows))
/-- the rows that tell a lattice -/
structure Lat (m : Int) (n : Nat) (T : List (List Int)) (S : List Int → Prop) : Prop where
  tri : Tri m n T
  fl : Fl m T
  red : RedT T
  iff : ∀ v, v.length = n → (InS T v ↔ S v)
theorem Lat.eq {m : Int} (hm : 0 < m) {n : Nat} {T T' : List (List Int)} {S S' : List Int → Prop} (h : Lat m n T S) (h' : Lat m n T' S') (e : ∀ v, v.length = n → (S v ↔ S' v)) : T = T' :=
  tri_uniq hm h.tri h'.tri h.red h'.red fun v hv => (h.iff v hv).trans ((e v hv).trans (h'.iff v hv).symm)
theorem Lat.to {m : Int} {n : Nat} {T : List (List Int)} {S S' : List Int → Prop} (h : Lat m n T S) (e : ∀ v, v.length = n → (S v ↔ S' v)) : Lat m n T S' := ⟨h.tri, h.fl, h.red, fun v hv => (h.iff v hv).trans (e v hv)⟩
end La

set_option linter.all false
set_option maxRecDepth 100000
namespace La
def frow (k : Nat) (r : List Int) : List Int := List.replicate k 0 ++ r
def fullF : Nat → List (List Int) → List (List Int)
  | _, [] => []
  | k, r :: R => frow k r :: fullF (k + 1) R
/-- all are below a bound -/
def Bd (B : Int) (l : List Int) : Prop := ∀ x ∈ l, -B ≤ x ∧ x ≤ B
theorem Bd.mono {B C : Int} {l : List Int} (h : Bd B l) (k : B ≤ C) : Bd C l := fun x hx => by
  have := h x hx
  omega
theorem Tri.len {m : Int} : ∀ {n : Nat} {T : List (List Int)}, Tri m n T → T.length = n
  | 0, T, h => by rw [show T = [] from h]; rfl
  | n + 1, T, h => by
    obtain ⟨p, q, R, rfl, _, _, _, hR⟩ := h
    rw [List.length_cons, Tri.len hR]
theorem Tri.row {m : Int} : ∀ {n : Nat} {T : List (List Int)} (i : Nat), Tri m n T → i < n → ∃ p q, T[i]? = some (p :: q) ∧ 0 < p ∧ p ∣ m ∧ q.length + i + 1 = n
  | 0, T, i, h, hi => by omega
  | n + 1, T, 0, h, hi => by
    obtain ⟨p, q, R, rfl, a, b, c, hR⟩ := h
    exact ⟨p, q, rfl, a, b, by omega⟩
  | n + 1, T, i + 1, h, hi => by
    obtain ⟨p, q, R, rfl, a, b, c, hR⟩ := h
    obtain ⟨p', q', e, a', b', c'⟩ := Tri.row i hR (by omega)
    exact ⟨p', q', e, a', b', by omega⟩
/-- the divisor's multipliers are small; g: the sign -/
structure Bq (a b g : Int) (p q : Int × Int × Int) : Prop where
  p0 : 0 < p.1
  q0 : 0 ≤ q.1
  pm : p.1 ≤ a + b
  qm : q.1 ≤ a + b
  gg : g = 1 ∨ g = -1
  s0 : 0 ≤ g * p.2.1 ∧ g * p.2.1 ≤ b + 1
  s1 : 0 ≤ -(g * q.2.1)
  t0 : 0 ≤ -(g * p.2.2) ∧ -(g * p.2.2) ≤ a + 1
  t1 : 0 ≤ g * q.2.2
  e1 : p.1 * -(g * q.2.1) + q.1 * (g * p.2.1) = b
  e2 : p.1 * (g * q.2.2) + q.1 * -(g * p.2.2) = a
theorem le_of_mul {x y b : Int} (hx : 0 < x) (hy : 0 ≤ y) (h : x * y ≤ b) : y ≤ b := by
  have : 1 * y ≤ x * y := Int.mul_le_mul_of_nonneg_right (by omega) hy
  omega
theorem Bq.start {a b : Int} (ha : 0 < a) (hb : 0 ≤ b) : Bq a b 1 (a, 1, 0) (b, 0, 1) :=
  ⟨ha, hb, by show a ≤ a + b; omega, by show b ≤ a + b; omega, .inl rfl, by show 0 ≤ (1 : Int) * 1 ∧ (1 : Int) * 1 ≤ b + 1; omega, by show 0 ≤ -((1 : Int) * 0); decide, by show 0 ≤ -((1 : Int) * 0) ∧ -((1 : Int) * 0) ≤ a + 1; omega, by show 0 ≤ (1 : Int) * 1; decide, by show a * -(1 * 0) + b * (1 * 1) = b; grind, by show a * (1 * 1) + b * -(1 * 0) = a; grind⟩
theorem Bq.q1 {a b g : Int} {p q : Int × Int × Int} (h : Bq a b g p q) : -(g * q.2.1) ≤ b ∧ g * q.2.2 ≤ a := by
  have h1 : 0 ≤ q.1 * (g * p.2.1) := Int.mul_nonneg h.q0 h.s0.1
  have h2 : 0 ≤ q.1 * -(g * p.2.2) := Int.mul_nonneg h.q0 h.t0.1
  have e1 := h.e1
  have e2 := h.e2
  exact ⟨le_of_mul h.p0 h.s1 (by omega), le_of_mul h.p0 h.t1 (by omega)⟩
theorem Bq.step {a b g : Int} {p q : Int × Int × Int} (h : Bq a b g p q) (hq : 0 < q.1) : Bq a b (-g) q (p.1 - (p.1 / q.1) * q.1, p.2.1 - (p.1 / q.1) * q.2.1, p.2.2 - (p.1 / q.1) * q.2.2) := by
  have hk : 0 ≤ p.1 / q.1 := Int.ediv_nonneg (by have := h.p0; omega) (by omega)
  have hr := Int.emod_add_mul_ediv p.1 q.1
  have hr0 := Int.emod_nonneg p.1 (show q.1 ≠ 0 by omega)
  obtain ⟨b1, b2⟩ := h.q1
  have e1 := h.e1
  have e2 := h.e2
  have s1 := h.s1
  have t1 := h.t1
  have hks : 0 ≤ p.1 / q.1 * -(g * q.2.1) := Int.mul_nonneg hk s1
  have hkt : 0 ≤ p.1 / q.1 * (g * q.2.2) := Int.mul_nonneg hk t1
  have hs0 := h.s0
  have ht0 := h.t0
  have hqs : 0 ≤ q.1 * (g * p.2.1) := Int.mul_nonneg h.q0 hs0.1
  have hps : 0 ≤ p.1 * -(g * q.2.1) := Int.mul_nonneg (by have := h.p0; omega) s1
  have hr1 := Int.emod_lt_of_pos p.1 hq
  have hqm := h.qm
  refine ⟨hq, by show 0 ≤ p.1 - _; grind, hqm, by show p.1 - _ ≤ a + b; grind, by rcases h.gg with rfl | rfl; exact .inr rfl; exact .inl rfl, ⟨by grind, by grind⟩, ?_, ⟨by grind, by grind⟩, ?_, ?_, ?_⟩
  · show 0 ≤ -(-g * (p.2.1 - p.1 / q.1 * q.2.1))
    grind
  · show 0 ≤ -g * (p.2.2 - p.1 / q.1 * q.2.2)
    grind
  · show q.1 * -(-g * (p.2.1 - p.1 / q.1 * q.2.1)) + (p.1 - p.1 / q.1 * q.1) * (-g * q.2.1) = b
    grind
  · show q.1 * (-g * (p.2.2 - p.1 / q.1 * q.2.2)) + (p.1 - p.1 / q.1 * q.1) * -(-g * q.2.2) = a
    grind
def cl (m : Int) : List (List Int) → Nat → List Int
  | (p :: q) :: _, 0 => m / p :: q.map fun _ => 0
  | (p :: q) :: R, k + 1 => -(dot (cl m R k) q) / p :: cl m R k
  | _, _ => []
theorem Tri.drop {m : Int} : ∀ {n : Nat} {T : List (List Int)} (i : Nat), Tri m n T → i ≤ n → Tri m (n - i) (T.drop i)
  | n, T, 0, h, _ => h
  | 0, T, i + 1, h, hi => by omega
  | n + 1, T, i + 1, h, hi => by
    obtain ⟨p, q, R, rfl, hp, hd, hq, hR⟩ := h
    rw [show n + 1 - (i + 1) = n - i by omega]
    exact Tri.drop i hR (by omega)
theorem dot_bd {A B : Int} (hA : 0 ≤ A) (hB : 0 ≤ B) : ∀ {xs ys : List Int}, Bd A xs → Bd B ys → -((xs.length : Int) * (A * B)) ≤ dot xs ys ∧ dot xs ys ≤ (xs.length : Int) * (A * B)
  | [], ys, _, _ => by rw [dot_nil]; simp
  | x :: xs, [], _, _ => by
    have h : 0 ≤ ((xs.length : Int) + 1) * (A * B) := Int.mul_nonneg (by omega) (Int.mul_nonneg hA hB)
    show -(((xs.length + 1 : Nat) : Int) * (A * B)) ≤ 0 ∧ (0 : Int) ≤ ((xs.length + 1 : Nat) : Int) * (A * B)
    rw [Int.natCast_add, show ((1 : Nat) : Int) = 1 from rfl]
    omega
  | x :: xs, y :: ys, h1, h2 => by
    have ih := dot_bd hA hB (fun z hz => h1 z (List.mem_cons_of_mem _ hz)) fun z hz => h2 z (List.mem_cons_of_mem _ hz)
    have a := h1 x List.mem_cons_self
    have b := h2 y List.mem_cons_self
    have c : -(A * B) ≤ x * y ∧ x * y ≤ A * B := by
      constructor
      · have := Int.mul_nonneg (show 0 ≤ A - x by omega) (show 0 ≤ B - y by omega)
        have := Int.mul_nonneg (show 0 ≤ A + x by omega) (show 0 ≤ B + y by omega)
        grind
      · have := Int.mul_nonneg (show 0 ≤ A - x by omega) (show 0 ≤ B + y by omega)
        have := Int.mul_nonneg (show 0 ≤ A + x by omega) (show 0 ≤ B - y by omega)
        grind
    show -(((xs.length + 1 : Nat) : Int) * (A * B)) ≤ x * y + dot xs ys ∧ x * y + dot xs ys ≤ ((xs.length + 1 : Nat) : Int) * (A * B)
    rw [Int.natCast_add]
    have e : ((xs.length : Int) + ((1 : Nat) : Int)) * (A * B) = (xs.length : Int) * (A * B) + A * B := by grind
    rw [e]
    omega
end La

set_option linter.all false
set_option maxRecDepth 100000
namespace La
/-- each with each number behind it -/
def longer (b : Nat) (xs : List (List Int)) : List (List Int) := (xs.map fun x => (List.range b).map fun k : Nat => x ++ [(k : Int)]).flatten
theorem longer_snoc (b : Nat) (xs : List (List Int)) (x : List Int) : longer b (xs ++ [x]) = longer b xs ++ (List.range b).map fun k : Nat => x ++ [(k : Int)] := by
  unfold longer
  rw [List.map_append, List.flatten_append]
  simp
/-- all tuples, ascending -/
def allT (b : Nat) : Nat → List (List Int)
  | 0 => [[]]
  | w + 1 => longer b (allT b w)
theorem longer_len (b : Nat) : ∀ xs : List (List Int), (longer b xs).length = xs.length * b
  | [] => by unfold longer; simp
  | x :: xs => by
    have ih := longer_len b xs
    unfold longer at ih ⊢
    rw [List.map_cons, List.flatten_cons, List.length_append, ih, List.length_map, List.length_range, List.length_cons, Nat.succ_mul, Nat.add_comm]
theorem allT_len (b : Nat) : ∀ w, (allT b w).length = b ^ w
  | 0 => rfl
  | w + 1 => by
    show (longer b (allT b w)).length = _
    rw [longer_len, allT_len b w, Nat.pow_succ]
theorem longer_mem {b : Nat} {xs : List (List Int)} {y : List Int} : y ∈ longer b xs ↔ ∃ x ∈ xs, ∃ k : Nat, k < b ∧ y = x ++ [(k : Int)] := by
  unfold longer
  rw [List.mem_flatten]
  constructor
  · rintro ⟨l, hl, hy⟩
    obtain ⟨x, hx, rfl⟩ := List.mem_map.mp hl
    obtain ⟨k, hk, rfl⟩ := List.mem_map.mp hy
    exact ⟨x, hx, k, List.mem_range.mp hk, rfl⟩
  · rintro ⟨x, hx, k, hk, rfl⟩
    exact ⟨_, List.mem_map.mpr ⟨x, hx, rfl⟩, List.mem_map.mpr ⟨k, List.mem_range.mpr hk, rfl⟩⟩
theorem allT_mem {b : Nat} : ∀ {w : Nat} {x : List Int}, x ∈ allT b w ↔ x.length = w ∧ Red (b : Int) x
  | 0, x => by
    show x ∈ [[]] ↔ _
    rw [List.mem_singleton]
    constructor
    · rintro rfl
      exact ⟨rfl, fun y hy => by cases hy⟩
    · rintro ⟨h, _⟩
      exact List.length_eq_zero_iff.mp h
  | w + 1, x => by
    show x ∈ longer b (allT b w) ↔ _
    rw [longer_mem]
    constructor
    · rintro ⟨y, hy, k, hk, rfl⟩
      obtain ⟨h1, h2⟩ := allT_mem.mp hy
      refine ⟨by rw [List.length_append, h1]; rfl, fun z hz => ?_⟩
      rcases List.mem_append.mp hz with hz | hz
      · exact h2 z hz
      · rw [List.mem_singleton.mp hz]
        omega
    · rintro ⟨h1, h2⟩
      have hne : x ≠ [] := fun z => by rw [z] at h1; cases h1
      refine ⟨x.dropLast, allT_mem.mpr ⟨by rw [List.length_dropLast, h1]; rfl, fun y hy => h2 y (List.dropLast_subset _ hy)⟩, (x.getLast hne).toNat, ?_, ?_⟩
      · have := h2 _ (List.getLast_mem hne)
        omega
      · have := h2 _ (List.getLast_mem hne)
        rw [Int.toNat_of_nonneg this.1]
        exact (List.dropLast_concat_getLast hne).symm
theorem pow_sub {b w i : Nat} (hb : 2 ≤ b) (h : b ^ w ≤ 1000) (hi : i ≤ w) : b ^ i ≤ 1000 := Nat.le_trans (Nat.pow_le_pow_right (by omega) hi) h
end La

set_option linter.all false
set_option maxRecDepth 100000
namespace La
theorem Fl.drop {m : Int} : ∀ {n : Nat} {T : List (List Int)} (i : Nat), Tri m n T → Fl m T → i ≤ n → Fl m (T.drop i)
  | n, T, 0, h, f, _ => f
  | 0, T, i + 1, h, f, hi => by omega
  | n + 1, T, i + 1, h, f, hi => by
    obtain ⟨p, q, R, rfl, hp, hd, hq, hR⟩ := h
    exact Fl.drop i hR f.2 (by omega)
theorem RedT.drop {m : Int} : ∀ {n : Nat} {T : List (List Int)} (i : Nat), Tri m n T → RedT T → i ≤ n → RedT (T.drop i)
  | n, T, 0, h, f, _ => f
  | 0, T, i + 1, h, f, hi => by omega
  | n + 1, T, i + 1, h, f, hi => by
    obtain ⟨p, q, R, rfl, hp, hd, hq, hR⟩ := h
    exact RedT.drop i hR f.2 (by omega)
/-- the pivot of a place -/
def pv (T : List (List Int)) (j : Nat) : Int := (T.getD j []).headD 0
end La

set_option linter.all false
set_option maxRecDepth 100000
namespace La
end La

set_option linter.all false
set_option maxRecDepth 100000
namespace La
theorem Tri.mul {m k : Int} (h : m ∣ k) : ∀ {n : Nat} {T : List (List Int)}, Tri m n T → Tri k n T
  | 0, _, h => h
  | n + 1, T, hT => by
    obtain ⟨p, q, R, rfl, hp, hd, hq, hR⟩ := hT
    exact ⟨p, q, R, rfl, hp, Int.dvd_trans hd h, hq, Tri.mul h hR⟩
end La

set_option linter.all false
set_option maxRecDepth 100000
namespace La
end La

set_option linter.all false
set_option maxRecDepth 100000
namespace My
open La (dot)
def named (n p : Nat) : List Int := (List.range n).map fun a : Nat => if a = p then 1 else 0
def nextG (l : Bool) (F : List (List Int)) (i : Nat) (f : List Int) : List Int := if !l && decide (i + 1 < F.length) then List.zipWith (fun x y => x + y) f (F.getD (i + 1) []) else f
def nextF (l : Bool) (F : List (List Int)) (b : List Int) : List (List Int) := b :: F.mapIdx (nextG l F)
def formsF (l : Bool) (n : Nat) : Nat → List (List Int)
  | 0 => [named n 1, named n 0]
  | k + 1 => nextF l (formsF l n k) (named n (k + 2))
def formsOf (l : Bool) (n : Nat) : List (List Int) := formsF l n (n - 1)
def timesF (len : Int) (c : Nat) : List Int := (List.range c).map fun i : Nat => bin len (i + 1)
def placeF (F : List (List Int)) (row c p : Nat) : List Int := (List.range c).map fun i : Nat => (F.getD (row + (i + 1)) []).getD p 0
def rowF (l : Bool) (n : Nat) (len m : Int) (row : Nat) : List Int := (List.range n).map fun p : Nat => dot (timesF len (n - row)) (placeF (formsOf l n) row (n - row) p) % m
def rowsF (l : Bool) (n : Nat) (len m : Int) : List (List Int) := (List.range n).map (rowF l n len m)
theorem named_len (n p : Nat) : (named n p).length = n := by unfold named; rw [List.length_map, List.length_range]
theorem nextF_len (l : Bool) (F : List (List Int)) (b : List Int) : (nextF l F b).length = F.length + 1 := by unfold nextF; rw [List.length_cons, List.length_mapIdx]
theorem formsF_len (l : Bool) (n : Nat) : ∀ k, (formsF l n k).length = k + 2
  | 0 => rfl
  | k + 1 => by rw [formsF, nextF_len, formsF_len l n k]
theorem nextF_row {l : Bool} {F : List (List Int)} {b : List Int} {n : Nat} (hF : ∀ f ∈ F, f.length = n) (hb : b.length = n) : ∀ f ∈ nextF l F b, f.length = n := fun f hf => by
  rcases List.mem_cons.mp hf with rfl | hf
  · exact hb
  · obtain ⟨i, hi, rfl⟩ := List.mem_mapIdx.mp hf
    have h1 := hF F[i] (List.getElem_mem hi)
    unfold nextG
    split
    · rename_i h2
      have h3 : i + 1 < F.length := by
        rw [Bool.and_eq_true, decide_eq_true_eq] at h2
        exact h2.2
      rw [List.length_zipWith, h1, List.getD_eq_getElem?_getD, List.getElem?_eq_getElem h3]
      show min n F[i + 1].length = n
      rw [hF _ (List.getElem_mem h3), Nat.min_self]
    · exact h1
theorem formsF_row (l : Bool) (n : Nat) : ∀ k, ∀ f ∈ formsF l n k, f.length = n
  | 0 => fun f hf => by
    have : f = named n 1 ∨ f = named n 0 := by simpa [formsF] using hf
    rcases this with rfl | rfl <;> exact named_len _ _
  | k + 1 => nextF_row (formsF_row l n k) (named_len _ _)
theorem forms_small : ∀ (l : Bool) (n : Fin 7), ((formsOf l n.1).all fun f => f.all fun x => decide (0 ≤ x ∧ x ≤ 64)) = true := by decide +kernel
theorem dot_range (f g : Nat → Int) : ∀ (c k : Nat), dot ((List.range' k c).map f) ((List.range' k c).map g) = ((List.range' k c).map fun i => f i * g i).sum
  | 0, _ => rfl
  | c + 1, k => by
    have ih := dot_range f g c (k + 1)
    rw [List.range'_succ, List.map_cons, List.map_cons, List.map_cons, List.sum_cons, ← ih] <;> rfl
end My

set_option linter.all false
set_option maxRecDepth 100000
namespace La
end La
namespace La
end La
namespace La
end La

set_option linter.all false
set_option maxRecDepth 100000
namespace La
end La

set_option linter.all false
set_option maxRecDepth 100000
namespace La
end La

set_option linter.all false
set_option maxRecDepth 100000
namespace La
end La

set_option linter.all false
set_option maxRecDepth 100000
namespace La
/-- closed under sums of multiples, with all multiples of m -/
structure Gp (m : Int) (n : Nat) (G : List Int → Prop) : Prop where
  comb : ∀ a b v w, v.length = n → w.length = n → G v → G w → G (lc a b v w)
  mults : ∀ v, v.length = n → (∀ x ∈ v, m ∣ x) → G v
theorem Gp.tl {m : Int} {n : Nat} {G : List Int → Prop} (h : Gp m (n + 1) G) : Gp m n fun u => G (0 :: u) where
  comb := fun a b v w hv hw gv gw => by
    have := h.comb a b (0 :: v) (0 :: w) (by rw [List.length_cons, hv]) (by rw [List.length_cons, hw]) gv gw
    rwa [lc_cons, Int.mul_zero, Int.mul_zero, Int.add_zero] at this
  mults := fun v hv hx => h.mults _ (by rw [List.length_cons, hv]) fun x hm => by
    rcases List.mem_cons.mp hm with e | hm
    · rw [e]; exact Int.dvd_zero m
    · exact hx x hm
end La

set_option linter.all false
set_option maxRecDepth 100000
namespace La
end La

set_option linter.all false
set_option maxRecDepth 100000
namespace My
open La (dot md)
def sumR (f : Nat → Int) (c : Nat) : Int := ((List.range c).map f).sum
theorem sumR_zero (f : Nat → Int) : sumR f 0 = 0 := rfl
theorem sumR_succ (f : Nat → Int) (c : Nat) : sumR f (c + 1) = sumR f c + f c := by
  unfold sumR
  rw [List.range_succ, List.map_append, List.sum_append, List.map_singleton, List.sum_singleton]
theorem sumR_front (f : Nat → Int) : ∀ c, sumR f (c + 1) = f 0 + sumR (fun i => f (i + 1)) c
  | 0 => by rw [sumR_succ, sumR_zero, sumR_zero]; omega
  | c + 1 => by rw [sumR_succ, sumR_front f c, sumR_succ (fun i => f (i + 1))]; omega
theorem sumR_congr {f g : Nat → Int} : ∀ {c}, (∀ i, i < c → f i = g i) → sumR f c = sumR g c
  | 0, _ => rfl
  | c + 1, h => by rw [sumR_succ, sumR_succ, sumR_congr fun i hi => h i (by omega), h c (by omega)]
theorem sumR_add (f g : Nat → Int) : ∀ c, sumR (fun i => f i + g i) c = sumR f c + sumR g c
  | 0 => rfl
  | c + 1 => by rw [sumR_succ, sumR_succ, sumR_succ, sumR_add f g c]; omega
theorem sumR_mul (k : Int) (f : Nat → Int) : ∀ c, sumR (fun i => k * f i) c = k * sumR f c
  | 0 => (Int.mul_zero k).symm
  | c + 1 => by rw [sumR_succ, sumR_succ, sumR_mul k f c, Int.mul_add]
theorem sumR_trunc {f : Nat → Int} {c : Nat} : ∀ {d}, (∀ i, c ≤ i → f i = 0) → sumR f (c + d) = sumR f c
  | 0, _ => rfl
  | d + 1, h => by rw [show c + (d + 1) = c + d + 1 from rfl, sumR_succ, sumR_trunc h, h _ (by omega)]; omega
theorem sumR_swap (f : Nat → Nat → Int) (c : Nat) : ∀ n, sumR (fun p => sumR (fun i => f i p) c) n = sumR (fun i => sumR (fun p => f i p) n) c
  | 0 => by
    rw [sumR_zero]
    have : sumR (fun _ => (0 : Int)) c = 0 := by
      rw [show c = 0 + c by omega, sumR_trunc fun _ _ => rfl]
      rfl
    rw [← this]
    rfl
  | n + 1 => by
    rw [sumR_succ, sumR_swap f c n, ← sumR_add]
    exact sumR_congr fun i _ => (sumR_succ (fun p => f i p) n).symm
theorem dot_sumR (f g : Nat → Int) (c : Nat) : dot ((List.range c).map f) ((List.range c).map g) = sumR (fun i => f i * g i) c := by
  unfold sumR
  rw [List.range_eq_range', dot_range]
theorem as_range {v : List Int} {n : Nat} (h : v.length = n) : v = (List.range n).map fun i => v.getD i 0 := by
  refine La.ext_dot h (by rw [List.length_map, List.length_range]) fun i => ?_
  by_cases hi : i < n
  · rw [List.getD_eq_getElem?_getD (l := (List.range n).map _), List.getElem?_map, List.getElem?_range hi]
    rfl
  · rw [List.getD_eq_getElem?_getD, List.getElem?_eq_none (by omega), List.getD_eq_getElem?_getD, List.getElem?_eq_none (by rw [List.length_map, List.length_range]; omega)]
theorem md_eq {m : Int} {X Y : List Int} : md m X = md m Y ↔ X.length = Y.length ∧ ∀ i, m ∣ X.getD i 0 - Y.getD i 0 := by
  constructor
  · intro h
    refine ⟨by have := congrArg List.length h; rwa [La.md_len, La.md_len] at this, fun i => ?_⟩
    have h2 : (md m X).getD i 0 = (md m Y).getD i 0 := by rw [h]
    rw [La.getD_md, La.getD_md] at h2
    exact Int.dvd_of_emod_eq_zero (Int.emod_eq_emod_iff_emod_sub_eq_zero.mp h2)
  · rintro ⟨hl, h⟩
    refine La.ext_dot (n := X.length) La.md_len (by rw [La.md_len]; exact hl.symm) fun i => ?_
    rw [La.getD_md, La.getD_md]
    exact Int.emod_eq_emod_iff_emod_sub_eq_zero.mpr (Int.emod_eq_zero_of_dvd (h i))
theorem md_md {m : Int} (X : List Int) : md m (md m X) = md m X := by
  unfold md
  rw [List.map_map]
  exact List.map_congr_left fun x _ => Int.emod_emod_of_dvd x (Int.dvd_refl m)
theorem md_id {m : Int} {X : List Int} (h : La.Red m X) : md m X = X := by
  unfold md
  exact (List.map_congr_left fun x hx => Int.emod_eq_of_lt (h x hx).1 (h x hx).2).trans (List.map_id X)
theorem head_md {m x : Int} {X Y : List Int} (h : md m X = md m Y) : X.headD x % m = Y.headD x % m := by
  cases X with
  | nil =>
    cases Y with
    | nil => rfl
    | cons y Y => cases h
  | cons a X =>
    cases Y with
    | nil => cases h
    | cons y Y => exact (List.cons.inj h).1
def shF : List Int → List Int
  | [] => []
  | [a] => [a]
  | a :: b :: t => (a + b) :: shF (b :: t)
theorem shF_len : ∀ C, (shF C).length = C.length
  | [] => rfl
  | [a] => rfl
  | a :: b :: t => by rw [shF, List.length_cons, shF_len (b :: t), List.length_cons (a := a)]
theorem shF_at : ∀ (C : List Int) (i : Nat), (shF C).getD i 0 = C.getD i 0 + C.getD (i + 1) 0
  | [], _ => rfl
  | [a], 0 => (Int.add_zero a).symm
  | [a], i + 1 => rfl
  | a :: b :: t, 0 => rfl
  | a :: b :: t, i + 1 => shF_at (b :: t) i
theorem shF_md {m : Int} {C D : List Int} : md m (shF C) = md m (shF D) ↔ md m C = md m D := by
  rw [md_eq, md_eq, shF_len, shF_len]
  refine and_congr_right fun hl => ⟨fun h => ?_, fun h i => ?_⟩
  · have key : ∀ k i, C.length ≤ i + k → m ∣ C.getD i 0 - D.getD i 0 := by
      intro k
      induction k with
      | zero =>
        intro i hi
        rw [List.getD_eq_getElem?_getD, List.getElem?_eq_none (by omega), List.getD_eq_getElem?_getD, List.getElem?_eq_none (by omega)]
        exact Int.dvd_zero m
      | succ k ih =>
        intro i hi
        have h1 := ih (i + 1) (by omega)
        have h2 := h i
        rw [shF_at, shF_at] at h2
        have := Int.dvd_sub h2 h1
        have e : C.getD i 0 + C.getD (i + 1) 0 - (D.getD i 0 + D.getD (i + 1) 0) - (C.getD (i + 1) 0 - D.getD (i + 1) 0) = C.getD i 0 - D.getD i 0 := by omega
        rwa [e] at this
    exact fun i => key C.length i (by omega)
  · rw [shF_at, shF_at]
    have := Int.dvd_add (h i) (h (i + 1))
    have e : C.getD i 0 - D.getD i 0 + (C.getD (i + 1) 0 - D.getD (i + 1) 0) = C.getD i 0 + C.getD (i + 1) 0 - (D.getD i 0 + D.getD (i + 1) 0) := by omega
    rwa [e] at this
def wF (l : Bool) (C : List Int) : List Int := if l then C else shF C
theorem wF_md {l : Bool} {m : Int} {C D : List Int} : md m (wF l C) = md m (wF l D) ↔ md m C = md m D := by
  cases l
  · exact shF_md
  · exact Iff.rfl
theorem wF_len (l : Bool) (C : List Int) : (wF l C).length = C.length := by
  cases l
  · exact shF_len C
  · rfl
/-- what the last rest's beats make, by its stages, the last one first -/
def coR (l : Bool) (x : Int) : List Int → List Int
  | [] => [x]
  | s :: rs => s :: wF l (coR l x rs)
theorem coR_len (l : Bool) (x : Int) : ∀ rs, (coR l x rs).length = rs.length + 1
  | [] => rfl
  | s :: rs => by rw [coR, List.length_cons, wF_len, coR_len l x rs, List.length_cons]
theorem coR_head (l : Bool) (x : Int) (rs : List Int) : (coR l x rs).headD 0 = rs.headD x := by cases rs <;> rfl
def btR (l : Bool) (x : Int) : List Int → List Int
  | [] => []
  | s :: rs => (s + (if l then rs.headD x else (btR l x rs).headD x)) :: btR l x rs
theorem btR_len (l : Bool) (x : Int) : ∀ rs, (btR l x rs).length = rs.length
  | [] => rfl
  | s :: rs => by rw [btR, List.length_cons, btR_len l x rs, List.length_cons]
theorem shF_cons {s : Int} {W : List Int} (h : W ≠ []) : shF (s :: W) = (s + W.headD 0) :: shF W := by
  cases W with
  | nil => exact absurd rfl h
  | cons a t => rfl
theorem coR_bt (l : Bool) (x : Int) : ∀ rs, coR l x (btR l x rs) = shF (coR l x rs)
  | [] => rfl
  | s :: rs => by
    have ih := coR_bt l x rs
    have hn : wF l (coR l x rs) ≠ [] := fun z => by
      have := congrArg List.length z
      rw [wF_len, coR_len] at this
      cases this
    show coR l x ((s + (if l then rs.headD x else (btR l x rs).headD x)) :: btR l x rs) = shF (s :: wF l (coR l x rs))
    rw [shF_cons hn]
    show _ :: wF l (coR l x (btR l x rs)) = _
    rw [ih]
    cases l
    · have e : (btR false x rs).headD x = (wF false (coR false x rs)).headD 0 := by
        rw [← coR_head, ih]
        rfl
      rw [← e]
      rfl
    · have e : rs.headD x = (wF true (coR true x rs)).headD 0 := (coR_head true x rs).symm
      rw [← e]
      rfl
theorem coR_md {l : Bool} {m x : Int} : ∀ {rs ss : List Int}, rs.length = ss.length → (md m (coR l x rs) = md m (coR l x ss) ↔ md m rs = md m ss)
  | [], [], _ => ⟨fun _ => rfl, fun _ => rfl⟩
  | r :: rs, s :: ss, h => by
    have ih := coR_md (l := l) (m := m) (x := x) (rs := rs) (ss := ss) (Nat.succ.inj h)
    show r % m :: md m (wF l (coR l x rs)) = s % m :: md m (wF l (coR l x ss)) ↔ r % m :: md m rs = s % m :: md m ss
    rw [List.cons.injEq, List.cons.injEq, wF_md, ih]
  | [], _ :: _, h => by cases h
  | _ :: _, [], h => by cases h
theorem add_md {m a b c d : Int} (h1 : a % m = c % m) (h2 : b % m = d % m) : (a + b) % m = (c + d) % m := by rw [Int.add_emod, h1, h2, ← Int.add_emod]
theorem btR_md {l : Bool} {m x : Int} : ∀ {rs ss : List Int}, md m rs = md m ss → md m (btR l x rs) = md m (btR l x ss)
  | [], [], _ => rfl
  | r :: rs, s :: ss, h => by
    obtain ⟨h1, h2⟩ := List.cons.inj (show r % m :: md m rs = s % m :: md m ss from h)
    have ih := btR_md (l := l) (x := x) h2
    show _ % m :: md m (btR l x rs) = _ % m :: md m (btR l x ss)
    rw [ih]
    congr 1
    refine add_md h1 ?_
    cases l
    · exact head_md ih
    · exact head_md h2
  | [], _ :: _, h => by cases h
  | _ :: _, [], h => by cases h
def ledM (l : Bool) (m : Int) : Int → List Int → List Int
  | _, [] => []
  | h, r :: rs => (r + h) % m :: ledM l m (if l then r else (r + h) % m) rs
theorem ledM_snoc (l : Bool) (m : Int) : ∀ (ss : List Int) (h s : Int), ledM l m h (ss ++ [s]) = ledM l m h ss ++ [(s + (if l then ss.getLastD h else (ledM l m h ss).getLastD h)) % m]
  | [], h, s => by cases l <;> rfl
  | r :: ss, h, s => by
    have ih := ledM_snoc l m ss (if l then r else (r + h) % m) s
    show (r + h) % m :: ledM l m _ (ss ++ [s]) = _
    rw [ih]
    show _ = (r + h) % m :: (ledM l m _ ss ++ _)
    congr 1
    congr 1
    cases l
    · show [(s + (ledM false m ((r + h) % m) ss).getLastD ((r + h) % m)) % m] = [(s + ((r + h) % m :: ledM false m ((r + h) % m) ss).getLastD h) % m]
      rw [List.getLastD_cons]
    · show [(s + ss.getLastD r) % m] = [(s + (r :: ss).getLastD h) % m]
      rw [List.getLastD_cons]
theorem last_rev (x : Int) (X : List Int) : X.reverse.getLastD x = X.headD x := by
  cases X with
  | nil => rfl
  | cons a X => rw [List.reverse_cons, List.getLastD_concat]; rfl
theorem ledM_rev (l : Bool) (m x : Int) : ∀ rs : List Int, ledM l m x rs.reverse = (md m (btR l x rs)).reverse
  | [] => rfl
  | s :: rs => by
    rw [List.reverse_cons, ledM_snoc, ledM_rev l m x rs]
    show _ = (_ % m :: md m (btR l x rs)).reverse
    rw [List.reverse_cons, last_rev, last_rev]
    congr 2
    refine add_md rfl ?_
    cases l
    · exact head_md (md_md _)
    · rfl
theorem ledM_red {l : Bool} {m : Int} (hm : 0 < m) : ∀ (h : Int) (rs : List Int), La.Red m (ledM l m h rs)
  | _, [] => fun x hx => by cases hx
  | h, r :: rs => fun x hx => by
    rcases List.mem_cons.mp hx with rfl | hx
    · exact ⟨Int.emod_nonneg _ (by omega), Int.emod_lt_of_pos _ hm⟩
    · exact ledM_red hm _ rs x hx
theorem ledM_len (l : Bool) (m : Int) : ∀ (h : Int) (rs : List Int), (ledM l m h rs).length = rs.length
  | _, [] => rfl
  | h, r :: rs => by rw [ledM, List.length_cons, ledM_len l m, List.length_cons]
def walkM (l : Bool) (m x : Int) (s : List Int) : Nat → List Int
  | 0 => s
  | t + 1 => ledM l m x (walkM l m x s t)
theorem walkM_len (l : Bool) (m x : Int) (s : List Int) : ∀ t, (walkM l m x s t).length = s.length
  | 0 => rfl
  | t + 1 => by rw [walkM, ledM_len, walkM_len l m x s t]
def repF (f : List Int → List Int) : Nat → List Int → List Int
  | 0, a => a
  | t + 1, a => f (repF f t a)
theorem walkM_md (l : Bool) (m x : Int) (s : List Int) : ∀ t, md m (walkM l m x s t).reverse = md m (repF (btR l x) t s.reverse)
  | 0 => rfl
  | t + 1 => by
    have ih := walkM_md l m x s t
    have h := ledM_rev l m x (walkM l m x s t).reverse
    rw [List.reverse_reverse] at h
    show md m (ledM l m x (walkM l m x s t)).reverse = md m (btR l x (repF (btR l x) t s.reverse))
    rw [h, List.reverse_reverse, md_md]
    exact btR_md ih
theorem walkM_red {l : Bool} {m x : Int} (hm : 0 < m) {s : List Int} (h : La.Red m s) : ∀ t, La.Red m (walkM l m x s t)
  | 0 => h
  | t + 1 => ledM_red hm _ _
theorem rep_co (l : Bool) (x : Int) (rs : List Int) : ∀ t, coR l x (repF (btR l x) t rs) = repF shF t (coR l x rs)
  | 0 => rfl
  | t + 1 => by
    show coR l x (btR l x _) = shF _
    rw [coR_bt, rep_co l x rs t]
theorem rep_len (l : Bool) (x : Int) (rs : List Int) : ∀ t, (repF (btR l x) t rs).length = rs.length
  | 0 => rfl
  | t + 1 => by
    show (btR l x _).length = _
    rw [btR_len, rep_len l x rs t]
theorem red_rev {m : Int} {X : List Int} (h : La.Red m X) : La.Red m X.reverse := fun x hx => h x (List.mem_reverse.mp hx)
theorem again_iff {l : Bool} {m x : Int} (hm : 0 < m) {s : List Int} (h : La.Red m s) (t : Nat) : walkM l m x s t = s ↔ md m (repF shF t (coR l x s.reverse)) = md m (coR l x s.reverse) := by
  rw [← rep_co, coR_md (rep_len ..), ← walkM_md, md_id (red_rev (walkM_red hm h t)), md_id (red_rev h), List.reverse_inj]
theorem bin_z (n : Int) : bin n 0 = 1 := rfl
theorem bin_pas (t i : Nat) : bin ((t + 1 : Nat) : Int) (i + 1) = bin (t : Nat) (i + 1) + bin (t : Nat) i := by
  rw [Int.natCast_add]
  exact (bin_both i).2 t
theorem far_zero {C : List Int} {i : Nat} (h : C.length ≤ i) : C.getD i 0 = 0 := by
  rw [List.getD_eq_getElem?_getD, List.getElem?_eq_none h]
  rfl
theorem rep_at (C : List Int) : ∀ (t j : Nat), (repF shF t C).getD j 0 = sumR (fun i => bin (t : Nat) i * C.getD (j + i) 0) C.length
  | 0, j => by
    show C.getD j 0 = _
    cases hN : C.length with
    | zero => rw [far_zero (by omega), sumR_zero]
    | succ k =>
      rw [sumR_front]
      have : sumR (fun i => bin ((0 : Nat) : Int) (i + 1) * C.getD (j + (i + 1)) 0) k = 0 := by
        rw [show k = 0 + k by omega, sumR_trunc fun i _ => by
          rw [show (((0 : Nat) : Int)) = 0 from rfl, bin_at0, Int.zero_mul]]
        rfl
      rw [this, bin_z, Int.one_mul, Int.add_zero, Nat.add_zero]
  | t + 1, j => by
    show (shF (repF shF t C)).getD j 0 = _
    rw [shF_at, rep_at C t j, rep_at C t (j + 1)]
    cases hN : C.length with
    | zero => rfl
    | succ k =>
      rw [sumR_front, sumR_front (fun i => bin ((t + 1 : Nat) : Int) i * C.getD (j + i) 0), sumR_succ (fun i => bin (t : Nat) i * C.getD (j + 1 + i) 0), far_zero (i := j + 1 + k) (by omega), Int.mul_zero, Int.add_zero, bin_z, bin_z]
      rw [Int.add_assoc, ← sumR_add]
      congr 1
      refine sumR_congr fun i _ => ?_
      rw [bin_pas, Int.add_mul, show j + 1 + i = j + (i + 1) by omega]
def evF (v : List Int) (F : List (List Int)) : List Int := F.map fun f => dot f v
theorem dot_add {a b v : List Int} (h : a.length = b.length) : dot (List.zipWith (fun x y => x + y) a b) v = dot a v + dot b v := by
  have := La.dot_lc (a := 1) (b := 1) v h
  have e : La.lc 1 1 a b = List.zipWith (fun x y => x + y) a b := by
    unfold La.lc
    congr 1
    funext x y
    rw [Int.one_mul, Int.one_mul]
  rw [e, Int.one_mul, Int.one_mul] at this
  exact this
theorem evF_at (v : List Int) (F : List (List Int)) (i : Nat) : (evF v F).getD i 0 = dot (F.getD i []) v := by
  unfold evF
  rw [List.getD_eq_getElem?_getD, List.getElem?_map, List.getD_eq_getElem?_getD]
  cases F[i]? <;> rfl
theorem evF_next {l : Bool} {F : List (List Int)} {b v : List Int} {n : Nat} (hF : ∀ f ∈ F, f.length = n) : evF v (nextF l F b) = dot b v :: wF l (evF v F) := by
  unfold nextF
  show dot b v :: evF v (F.mapIdx (nextG l F)) = _
  congr 1
  cases l
  · refine La.ext_dot (n := F.length) (by unfold evF; rw [List.length_map, List.length_mapIdx]) (by rw [wF_len]; unfold evF; rw [List.length_map]) fun i => ?_
    show _ = (shF (evF v F)).getD i 0
    rw [shF_at, evF_at, evF_at, evF_at, List.getD_eq_getElem?_getD, List.getElem?_mapIdx]
    by_cases hi : i < F.length
    · rw [List.getElem?_eq_getElem hi, List.getD_eq_getElem?_getD (l := F) (i := i), List.getElem?_eq_getElem hi]
      show dot (nextG false F i F[i]) v = dot F[i] v + _
      unfold nextG
      by_cases h2 : i + 1 < F.length
      · rw [if_pos (by rw [decide_eq_true h2]; rfl), List.getD_eq_getElem?_getD, List.getElem?_eq_getElem h2]
        exact dot_add (by rw [hF _ (List.getElem_mem hi)]; exact (hF _ (List.getElem_mem h2)).symm)
      · rw [if_neg (by rw [decide_eq_false h2]; decide), List.getD_eq_getElem?_getD, List.getElem?_eq_none (by omega)]
        exact (Int.add_zero _).symm
    · rw [List.getElem?_eq_none (by omega), List.getD_eq_getElem?_getD (l := F) (i := i), List.getElem?_eq_none (by omega), List.getD_eq_getElem?_getD (l := F), List.getElem?_eq_none (by omega)]
      rfl
  · have e : F.mapIdx (nextG true F) = F := by
      refine List.ext_getElem? fun i => ?_
      rw [List.getElem?_mapIdx]
      cases F[i]? <;> rfl
    rw [e]
    rfl
theorem named_zero (n : Nat) : named (n + 1) 0 = 1 :: List.replicate n 0 := by
  unfold named
  rw [List.range_succ_eq_map, List.map_cons, List.map_map]
  congr 1
  refine List.ext_getElem? fun i => ?_
  rw [List.getElem?_map]
  by_cases h : i < n
  · rw [List.getElem?_range h, List.getElem?_replicate_of_lt h]
    rfl
  · rw [List.getElem?_eq_none (by rw [List.length_range]; omega), List.getElem?_eq_none (by rw [List.length_replicate]; omega)]
    rfl
theorem named_succ (n p : Nat) : named (n + 1) (p + 1) = 0 :: named n p := by
  unfold named
  rw [List.range_succ_eq_map, List.map_cons, List.map_map]
  congr 1
  refine List.map_congr_left fun i _ => ?_
  show (if i + 1 = p + 1 then (1 : Int) else 0) = if i = p then 1 else 0
  by_cases h : i = p
  · rw [if_pos h, if_pos (by omega)]
  · rw [if_neg h, if_neg (by omega)]
theorem dot_named : ∀ (v : List Int) (p : Nat), dot (named v.length p) v = v.getD p 0
  | [], p => rfl
  | a :: v, 0 => by
    rw [List.length_cons, named_zero]
    show 1 * a + dot _ v = a
    rw [La.dot_rep0]
    omega
  | a :: v, p + 1 => by
    rw [List.length_cons, named_succ]
    show 0 * a + dot _ v = v.getD p 0
    rw [dot_named v p]
    omega
theorem evF_forms (l : Bool) (x : Int) (s : List Int) : ∀ k, k ≤ s.length → evF (x :: s) (formsF l (s.length + 1) k) = (x :: s).getD (k + 1) 0 :: wF l (coR l x (s.take k).reverse)
  | 0, _ => by
    have h1 := dot_named (x :: s) 1
    have h0 := dot_named (x :: s) 0
    show [dot (named (s.length + 1) 1) (x :: s), dot (named (s.length + 1) 0) (x :: s)] = _
    rw [show s.length + 1 = (x :: s).length from rfl, h1, h0]
    cases l <;> rfl
  | k + 1, hk => by
    have ih := evF_forms l x s k (by omega)
    rw [formsF, evF_next (formsF_row l _ k), ih]
    have h1 := dot_named (x :: s) (k + 2)
    rw [show s.length + 1 = (x :: s).length from rfl, h1]
    congr 2
    have e : s.take (k + 1) = s.take k ++ [s.getD k 0] := by
      rw [List.take_add_one, List.getD_eq_getElem?_getD, List.getElem?_eq_getElem (show k < s.length by omega)]
      rfl
    rw [e, List.reverse_append]
    rfl
/-- what the rows leave -/
theorem rowF_dot {l : Bool} {x len m : Int} {s : List Int} {r : Nat} (last : Int) :
    m ∣ dot (rowF l (s.length + 1) len m r) (x :: s) ↔ m ∣ sumR (fun i => bin len (i + 1) * (coR l x (last :: s.reverse)).getD (r + (i + 1)) 0) (s.length + 1 - r) := by
  obtain ⟨n, hn⟩ : ∃ n, n = s.length + 1 := ⟨_, rfl⟩
  have hv : (x :: s).length = n := hn.symm
  have e0 : rowF l n len m r = md m ((List.range n).map fun p : Nat => dot (timesF len (n - r)) (placeF (formsOf l n) r (n - r) p)) := by
    unfold rowF md
    rw [List.map_map]
    rfl
  rw [← hn, e0, La.dvd_md]
  have e1 : dot ((List.range n).map fun p : Nat => dot (timesF len (n - r)) (placeF (formsOf l n) r (n - r) p)) (x :: s) = sumR (fun i => bin len (i + 1) * dot ((formsOf l n).getD (r + (i + 1)) []) (x :: s)) (n - r) := by
    conv => lhs; rw [as_range hv]
    rw [dot_sumR]
    have e2 : ∀ p, dot (timesF len (n - r)) (placeF (formsOf l n) r (n - r) p) * (x :: s).getD p 0 = sumR (fun i => bin len (i + 1) * (((formsOf l n).getD (r + (i + 1)) []).getD p 0 * (x :: s).getD p 0)) (n - r) := fun p => by
      unfold timesF placeF
      rw [dot_sumR, Int.mul_comm, ← sumR_mul]
      refine sumR_congr fun i _ => ?_
      rw [Int.mul_comm, Int.mul_assoc]
    rw [sumR_congr fun p _ => e2 p, sumR_swap (fun i p => bin len (i + 1) * (((formsOf l n).getD (r + (i + 1)) []).getD p 0 * (x :: s).getD p 0))]
    refine sumR_congr fun i hi => ?_
    rw [sumR_mul]
    congr 1
    have hr : r + (i + 1) < (formsOf l n).length := by
      unfold formsOf
      rw [formsF_len]
      omega
    have hl : ((formsOf l n).getD (r + (i + 1)) []).length = n := by
      rw [List.getD_eq_getElem?_getD, List.getElem?_eq_getElem hr]
      exact formsF_row l n _ _ (List.getElem_mem hr)
    rw [as_range hl]
    conv => rhs; rw [as_range hv]
    rw [dot_sumR]
    refine sumR_congr fun p hp => ?_
    rw [← as_range hl]
  rw [e1]
  have e3 := evF_forms l x s s.length (Nat.le_refl _)
  rw [List.take_length] at e3
  have e4 : ∀ i, dot ((formsOf l n).getD (r + (i + 1)) []) (x :: s) = (coR l x (last :: s.reverse)).getD (r + (i + 1)) 0 := fun i => by
    rw [← evF_at, show formsOf l n = formsF l (s.length + 1) s.length by unfold formsOf; rw [hn, Nat.add_sub_cancel], e3]
    rfl
  rw [sumR_congr fun i _ => by rw [e4 i]]
/-- just those with a period keep the rows -/
theorem period_iff {l : Bool} {m x : Int} (hm : 0 < m) {s : List Int} {last : Int} (hs : La.Red m s) (h0 : 0 ≤ last) (h1 : last < m) (t : Nat) :
    La.KA m (rowsF l (s.length + 1) (t : Nat) m) (x :: s) ↔ walkM l m x (s ++ [last]) t = s ++ [last] := by
  have hr : La.Red m (s ++ [last]) := fun y hy => by
    rcases List.mem_append.mp hy with hy | hy
    · exact hs y hy
    · rw [List.mem_singleton.mp hy]
      exact ⟨h0, h1⟩
  rw [again_iff hm hr, List.reverse_append, List.reverse_singleton, List.singleton_append, md_eq]
  obtain ⟨C, hC⟩ : ∃ C, C = coR l x (last :: s.reverse) := ⟨_, rfl⟩
  have hlen : C.length = s.length + 2 := by rw [hC, coR_len, List.length_cons, List.length_reverse]
  have hrl : ∀ t, (repF shF t C).length = C.length := fun t => by
    induction t with
    | zero => rfl
    | succ t ih =>
      show (shF _).length = _
      rw [shF_len, ih]
  rw [← hC]
  have key : ∀ j, (repF shF t C).getD j 0 - C.getD j 0 = sumR (fun i => bin (t : Nat) (i + 1) * C.getD (j + (i + 1)) 0) (s.length + 1 - j) := fun j => by
    rw [rep_at, hlen, sumR_front, bin_z, Int.one_mul, Nat.add_zero]
    have : sumR (fun i => bin (t : Nat) (i + 1) * C.getD (j + (i + 1)) 0) (s.length + 1) = sumR (fun i => bin (t : Nat) (i + 1) * C.getD (j + (i + 1)) 0) (s.length + 1 - j) := by
      by_cases hj : j ≤ s.length + 1
      · conv => lhs; rw [show s.length + 1 = (s.length + 1 - j) + j by omega]
        exact sumR_trunc fun i hi => by rw [far_zero (by omega), Int.mul_zero]
      · rw [show s.length + 1 - j = 0 by omega]
        conv => lhs; rw [show s.length + 1 = 0 + (s.length + 1) by omega]
        exact sumR_trunc fun i hi => by rw [far_zero (by omega), Int.mul_zero]
    rw [this]
    omega
  constructor
  · intro k
    refine ⟨hrl t, fun j => ?_⟩
    rw [key]
    by_cases hj : j < s.length + 1
    · have := k (rowF l (s.length + 1) (t : Nat) m j) (by unfold rowsF; exact List.mem_map.mpr ⟨j, List.mem_range.mpr hj, rfl⟩)
      rw [rowF_dot last, ← hC] at this
      exact this
    · rw [show s.length + 1 - j = 0 by omega]
      exact Int.dvd_zero m
  · rintro ⟨_, k⟩ v hv
    unfold rowsF at hv
    obtain ⟨j, hj, rfl⟩ := List.mem_map.mp hv
    rw [rowF_dot last, ← hC, ← key]
    exact k j
end My

set_option Elab.async false
set_option linter.all false
set_option maxRecDepth 100000
set_option maxHeartbeats 4000000
namespace My
open G (InR)
structure SumOk (m : Int) (cs : List Int) : Prop where
  two : 2 ≤ m
  most : m ≤ 1000000000000000000000000000000
  inr : InR m cs
  len : cs.length ≤ 13
  fin : cut cs = cs
theorem SumOk.of {m : Int} {xs : List Int} (h1 : 2 ≤ m) (h2 : m ≤ 1000000000000000000000000000000) (h3 : xs.length ≤ 13) : SumOk m (tr m xs) :=
  ⟨h1, h2, tr_in (by omega) xs, Nat.le_trans (tr_len m xs) h3, tr_cut m xs⟩
end My

set_option Elab.async false
set_option linter.all false
set_option maxRecDepth 100000
set_option maxHeartbeats 4000000
namespace My
open G (InR)
/-- one row, and a multiple of another one -/
def ad (s : Int) : List Int → List Int → List Int
  | [], ys => ys.map (s * ·)
  | x :: xs, [] => x :: xs
  | x :: xs, y :: ys => (x + s * y) :: ad s xs ys
theorem ad_at (s : Int) : ∀ (xs ys : List Int) (i : Nat), (ad s xs ys).getD i 0 = xs.getD i 0 + s * ys.getD i 0
  | [], ys, i => by
    show (ys.map (s * ·)).getD i 0 = _
    rw [getD_map (f := (s * ·)) (Int.mul_zero s)]
    exact (Int.zero_add _).symm
  | x :: xs, [], i => by
    show (x :: xs).getD i 0 = _ + s * 0
    rw [Int.mul_zero, Int.add_zero]
  | x :: xs, y :: ys, 0 => rfl
  | x :: xs, y :: ys, i + 1 => ad_at s xs ys i
theorem VK_ad (s n : Int) : ∀ (xs ys : List Int) (k : Nat), VK k (ad s xs ys) n = VK k xs n + s * VK k ys n
  | [], ys, k => by
    have h : ∀ (zs : List Int) (k : Nat), VK k (zs.map (s * ·)) n = s * VK k zs n := fun zs => by
      induction zs with
      | nil => exact fun _ => (Int.mul_zero s).symm
      | cons z zs ih =>
        intro k
        show s * z * bin n k + VK (k + 1) (zs.map (s * ·)) n = s * (z * bin n k + VK (k + 1) zs n)
        rw [ih]
        grind
    show VK k (ys.map (s * ·)) n = 0 + _
    rw [h, Int.zero_add]
  | x :: xs, [], k => by
    show VK k (x :: xs) n = _ + s * 0
    rw [Int.mul_zero, Int.add_zero]
  | x :: xs, y :: ys, k => by
    show (x + s * y) * bin n k + VK (k + 1) (ad s xs ys) n = (x * bin n k + VK (k + 1) xs n) + s * (y * bin n k + VK (k + 1) ys n)
    rw [VK_ad s n xs ys (k + 1)]
    grind
theorem V_ad (s n : Int) (xs ys : List Int) : V (ad s xs ys) n = V xs n + s * V ys n := VK_ad s n xs ys 0
theorem dvd_of_vals {m : Int} : ∀ (cs : List Int), (∀ n : Nat, m ∣ V cs n) → ∀ i : Nat, m ∣ cs.getD i 0
  | [], _, i => by
    have e : ([] : List Int).getD i 0 = 0 := by simp
    rw [e]
    exact Int.dvd_zero m
  | c :: cs, h, i => by
    cases i with
    | zero =>
      have := h 0
      rwa [Int.natCast_zero, V_at0] at this
    | succ i =>
      refine dvd_of_vals cs (fun n => ?_) i
      have h1 := h (n + 1)
      rw [Int.natCast_add, show (((1 : Nat) : Int)) = 1 from rfl, V_up] at h1
      exact (Int.dvd_iff_dvd_of_dvd_add h1).mp (h n)
end My

set_option Elab.async false
set_option linter.all false
set_option maxRecDepth 100000
set_option maxHeartbeats 4000000
namespace My
open G (InR)
/-- the n-th differences are 0 -/
def Dg : Nat → (Int → Int) → Prop
  | 0, f => ∀ x, f x = 0
  | n + 1, f => Dg n (fun x => f (x + 1) - f x)
theorem Dg.zero : ∀ (n : Nat) {f : Int → Int}, (∀ x, f x = 0) → Dg n f
  | 0, _, h => h
  | n + 1, f, h => Dg.zero n fun x => by rw [h, h]; rfl
theorem Dg.add : ∀ (n : Nat) {f g : Int → Int}, Dg n f → Dg n g → Dg n (fun x => f x + g x)
  | 0, f, g, h, k => fun x => by show f x + g x = 0; rw [h, k]; rfl
  | n + 1, f, g, h, k => by
    have e : (fun x => f (x + 1) + g (x + 1) - (f x + g x)) = fun x => (f (x + 1) - f x) + (g (x + 1) - g x) := funext fun x => by omega
    show Dg n (fun x => f (x + 1) + g (x + 1) - (f x + g x))
    rw [e]
    exact Dg.add n h k
theorem Dg.neg : ∀ (n : Nat) {f : Int → Int}, Dg n f → Dg n (fun x => -f x)
  | 0, f, h => fun x => by show -f x = 0; rw [h]; rfl
  | n + 1, f, h => by
    have e : (fun x => -f (x + 1) - -f x) = fun x => -(f (x + 1) - f x) := funext fun x => by omega
    show Dg n (fun x => -f (x + 1) - -f x)
    rw [e]
    exact Dg.neg n h
theorem Dg.up : ∀ (n : Nat) {f : Int → Int}, Dg n f → Dg n (fun x => f (x + 1))
  | 0, f, h => fun x => h (x + 1)
  | n + 1, f, h => Dg.up n h
theorem Dg.mul : ∀ (k a b : Nat) {f g : Int → Int}, a + b = k → Dg (a + 1) f → Dg (b + 1) g → Dg (k + 1) (fun x => f x * g x)
  | k, a, b, f, g, e, hf, hg => by
    have s : (fun x => f (x + 1) * g (x + 1) - f x * g x) = fun x => (f (x + 1) - f x) * g (x + 1) + f x * (g (x + 1) - g x) := funext fun x => by grind
    show Dg k (fun x => f (x + 1) * g (x + 1) - f x * g x)
    rw [s]
    refine Dg.add k ?_ ?_
    · cases a with
      | zero => exact Dg.zero k fun x => by show (f (x + 1) - f x) * g (x + 1) = 0; rw [show f (x + 1) - f x = 0 from hf x, Int.zero_mul]
      | succ a =>
        obtain ⟨k', rfl⟩ : ∃ k', k = k' + 1 := ⟨k - 1, by omega⟩
        exact Dg.mul k' a b (by omega) hf (Dg.up (b + 1) hg)
    · cases b with
      | zero => exact Dg.zero k fun x => by show f x * (g (x + 1) - g x) = 0; rw [show g (x + 1) - g x = 0 from hg x, Int.mul_zero]
      | succ b =>
        obtain ⟨k', rfl⟩ : ∃ k', k = k' + 1 := ⟨k - 1, by omega⟩
        exact Dg.mul k' a b (by omega) hf hg
termination_by k => k
theorem Dg.V : ∀ cs : List Int, Dg cs.length (V cs)
  | [] => fun x => rfl
  | c :: cs => by
    have e : (fun x => My.V (c :: cs) (x + 1) - My.V (c :: cs) x) = My.V cs := funext fun x => by rw [V_up]; omega
    show Dg cs.length (fun x => My.V (c :: cs) (x + 1) - My.V (c :: cs) x)
    rw [e]
    exact Dg.V cs
theorem Dg.more : ∀ (n : Nat) {f : Int → Int}, Dg n f → Dg (n + 1) f
  | 0, f, h => fun x => by show f (x + 1) - f x = 0; rw [h, h]; rfl
  | n + 1, f, h => Dg.more n h
def turn (m : Int) (cs : List Int) : List Int := tr m (dv (row (fun b => V cs (0 - b)) cs.length))
end My

set_option Elab.async false
set_option linter.all false
set_option maxRecDepth 100000
set_option maxHeartbeats 4000000
namespace My
open G (InR)
/-- the terms, told by their places -/
theorem terms_at (n : Int) : ∀ (k : Nat) (cs : List Int), ((List.range cs.length).map fun i => cs.getD i 0 * bin n (k + i)).sum = VK k cs n
  | _, [] => rfl
  | k, c :: cs => by
    rw [List.length_cons, List.range_succ_eq_map, List.map_cons, List.sum_cons, List.map_map]
    have e : ((fun i => (c :: cs).getD i 0 * bin n (k + i)) ∘ Nat.succ) = fun i => cs.getD i 0 * bin n (k + 1 + i) := funext fun i => by
      show cs.getD i 0 * bin n (k + (i + 1)) = _
      rw [show k + (i + 1) = k + 1 + i by omega]
    rw [e, terms_at n (k + 1) cs]
    rfl
theorem drop_getD (cs : List Int) (r i : Nat) : (cs.drop r).getD i 0 = cs.getD (r + i) 0 := by
  rw [List.getD_eq_getElem?_getD, List.getD_eq_getElem?_getD, List.getElem?_drop]
/-- what a row comes to -/
def rowL (cs : List Int) (r : Nat) (N : Int) : Int := VK 1 (cs.drop (r + 1)) N
theorem rowL_terms (cs : List Int) (r : Nat) (N : Int) : ((List.range (cs.length - (r + 1))).map fun i => cs.getD (r + (1 + i)) 0 * bin N (1 + i)).sum = rowL cs r N := by
  have h := terms_at N 1 (cs.drop (r + 1))
  rw [List.length_drop] at h
  rw [show rowL cs r N = VK 1 (cs.drop (r + 1)) N from rfl, ← h]
  refine congrArg List.sum (List.map_congr_left fun i _ => ?_)
  rw [drop_getD, show r + 1 + i = r + (1 + i) by omega]
theorem V_drop (cs : List Int) (r : Nat) (N : Int) : V (cs.drop r) N = cs.getD r 0 + rowL cs r N := by
  unfold rowL
  by_cases h : r < cs.length
  · rw [List.drop_eq_getElem_cons h, V_cons, List.getD_eq_getElem?_getD, List.getElem?_eq_getElem h]
    rfl
  · rw [List.drop_eq_nil_of_le (by omega), List.drop_eq_nil_of_le (by omega), List.getD_eq_getElem?_getD, List.getElem?_eq_none (by omega)]
    rfl
theorem getD_rows (f : Nat → Int) (n i : Nat) : ((List.range n).map f).getD i 0 = if i < n then f i else 0 := by
  rw [List.getD_eq_getElem?_getD]
  by_cases h : i < n
  · rw [if_pos h, List.getElem?_map, List.getElem?_range h]
    rfl
  · rw [if_neg h, List.getElem?_eq_none (by rw [List.length_map, List.length_range]; omega)]
    rfl
theorem rowL_out {cs : List Int} {r : Nat} (h : cs.length ≤ r + 1) (N : Int) : rowL cs r N = 0 := by
  unfold rowL
  rw [List.drop_eq_nil_of_le h]
  rfl
theorem V_ext {xs ys : List Int} (h : ∀ i : Nat, xs.getD i 0 = ys.getD i 0) (n : Int) : V xs n = V ys n := by
  have := V_cg (m := 0) (xs := xs) (ys := ys) (fun i => by rw [h i, Int.sub_self]; exact Int.dvd_zero 0) n
  rwa [Int.emod_zero, Int.emod_zero] at this
/-- the rows are the coefficients of the difference -/
theorem V_rows (cs : List Int) (N n : Int) : V ((List.range (cs.length - 1)).map fun r => rowL cs r N) n = V cs (N + n) - V cs n := by
  rw [← mv_val, show V (mv cs N) n - V cs n = V (mv cs N) n + -1 * V cs n by omega, ← V_ad]
  refine V_ext (fun i => ?_) n
  rw [getD_rows, ad_at, mv_at, V_drop]
  by_cases h : i < cs.length - 1
  · rw [if_pos h]
    omega
  · rw [if_neg h, rowL_out (by omega)]
    omega
end My

set_option Elab.async false
set_option linter.all false
set_option maxRecDepth 100000
set_option maxHeartbeats 4000000
namespace My
open G (InR)
/-- N is a period -/
def Per (M : Nat) (cs : List Int) (N : Int) : Prop := ∀ n : Int, (M : Int) ∣ V cs (n + N) - V cs n
theorem per_rows {M : Nat} {cs : List Int} {N : Int} : Per M cs N ↔ ∀ r : Nat, r + 1 < cs.length → (M : Int) ∣ rowL cs r N := by
  refine ⟨fun h r hr => ?_, fun h n => ?_⟩
  · have := dvd_of_vals (m := (M : Int)) ((List.range (cs.length - 1)).map fun r => rowL cs r N) (fun n => by
      rw [V_rows, Int.add_comm N]
      exact h n) r
    rwa [getD_rows, if_pos (by omega)] at this
  · rw [Int.add_comm n N, ← V_rows]
    have e := V_cg (m := (M : Int)) (xs := (List.range (cs.length - 1)).map fun r => rowL cs r N) (ys := []) (fun i => by
      rw [getD_rows, show ([] : List Int).getD i 0 = 0 by simp, Int.sub_zero]
      by_cases hi : i < cs.length - 1
      · rw [if_pos hi]
        exact h i (by omega)
      · rw [if_neg hi]
        exact Int.dvd_zero _) n
    rw [V_nil, Int.zero_emod] at e
    exact Int.dvd_of_emod_eq_zero e
theorem Per.zero (M : Nat) (cs : List Int) : Per M cs 0 := fun n => by rw [Int.add_zero, Int.sub_self]; exact Int.dvd_zero _
theorem Per.add {M : Nat} {cs : List Int} {a b : Int} (h : Per M cs a) (k : Per M cs b) : Per M cs (a + b) := fun n => by
  have := Int.dvd_add (k (n + a)) (h n)
  rwa [show V cs (n + a + b) - V cs (n + a) + (V cs (n + a) - V cs n) = V cs (n + (a + b)) - V cs n by rw [← Int.add_assoc]; omega] at this
theorem Per.neg {M : Nat} {cs : List Int} {a : Int} (h : Per M cs a) : Per M cs (-a) := fun n => by
  have := Int.dvd_neg.mpr (h (n + -a))
  rwa [show n + -a + a = n by omega, Int.neg_sub] at this
theorem Per.mulN {M : Nat} {cs : List Int} {a : Int} (h : Per M cs a) : ∀ k : Nat, Per M cs (a * k)
  | 0 => by rw [Int.natCast_zero, Int.mul_zero]; exact .zero M cs
  | k + 1 => by
    rw [show a * ((k + 1 : Nat) : Int) = a * k + a by rw [Int.natCast_add, Int.mul_add]; omega]
    exact (h.mulN k).add h
theorem Per.mul {M : Nat} {cs : List Int} {a : Int} (h : Per M cs a) (k : Int) : Per M cs (a * k) := by
  rcases Int.natAbs_eq k with e | e
  · rw [e]
    exact h.mulN _
  · rw [e, Int.mul_neg]
    exact (h.mulN _).neg
theorem Per.dvd {M : Nat} {cs : List Int} {a b : Int} (h : Per M cs a) (k : a ∣ b) : Per M cs b := by
  obtain ⟨c, rfl⟩ := k
  exact h.mul c
theorem Per.mono {M m : Nat} {cs : List Int} {a : Int} (h : Per M cs a) (d : m ∣ M) : Per m cs a := fun n => Int.dvd_trans (Int.ofNat_dvd.mpr d) (h n)
/-- L is the least period: the periods are its multiples -/
def IsLp (M : Nat) (cs : List Int) (L : Nat) : Prop := 1 ≤ L ∧ ∀ N : Int, Per M cs N ↔ (L : Int) ∣ N
theorem IsLp.uniq {M : Nat} {cs : List Int} {L K : Nat} (h : IsLp M cs L) (k : IsLp M cs K) : L = K :=
  Nat.dvd_antisymm (Int.ofNat_dvd.mp ((h.2 K).mp ((k.2 K).mpr (Int.dvd_refl _)))) (Int.ofNat_dvd.mp ((k.2 L).mp ((h.2 L).mpr (Int.dvd_refl _))))
theorem lp_least {M : Nat} {cs : List Int} {L : Nat} (h1 : 1 ≤ L) (h2 : Per M cs L) (h3 : ∀ k : Nat, 1 ≤ k → k < L → ¬ Per M cs k) : IsLp M cs L := by
  refine ⟨h1, fun N => ⟨fun h => ?_, fun h => h2.dvd h⟩⟩
  have hr : Per M cs (N % L) := by
    have := h.add (h2.mul (-(N / L)))
    rwa [show N + (L : Int) * -(N / L) = N % L by have := Int.emod_add_mul_ediv N L; rw [Int.mul_neg]; omega] at this
  have n0 := Int.emod_nonneg N (show (L : Int) ≠ 0 by omega)
  have n1 := Int.emod_lt_of_pos N (show (0 : Int) < L by omega)
  by_cases hz : N % L = 0
  · exact Int.dvd_of_emod_eq_zero hz
  · have e : ((N % L).toNat : Int) = N % L := Int.toNat_of_nonneg n0
    rw [← e] at hr
    exact absurd hr (h3 _ (by omega) (by omega))
theorem lp_exists {M : Nat} {cs : List Int} {k : Nat} (h : Per M cs k) (hk : 1 ≤ k) : ∃ L, IsLp M cs L := by
  induction k using Nat.strongRecOn with
  | _ k ih =>
    by_cases hx : ∃ j : Nat, 1 ≤ j ∧ j < k ∧ Per M cs j
    · obtain ⟨j, j1, j2, j3⟩ := hx
      exact ih j j2 j3 j1
    · exact ⟨k, lp_least hk h fun j j1 j2 j3 => hx ⟨j, j1, j2, j3⟩⟩
theorem cop_dvd {G i : Nat} {x : Int} (h : Nat.Coprime G i) (d : (G : Int) ∣ (i : Int) * x) : (G : Int) ∣ x := by
  have h1 := Int.ofNat_dvd_left.mp d
  rw [Int.natAbs_mul, Int.natAbs_natCast] at h1
  exact Int.ofNat_dvd_left.mpr (h.dvd_of_dvd_mul_left h1)
theorem term_dvd {G : Nat} {N x : Int} {j : Nat} (hj : 1 ≤ j) (h : Nat.Coprime G j) (d : (G : Int) ∣ N * x) : (G : Int) ∣ x * bin N j := by
  obtain ⟨i, rfl⟩ : ∃ i, j = i + 1 := ⟨j - 1, by omega⟩
  refine cop_dvd h ?_
  have e := bin_less N i
  rw [show ((i + 1 : Nat) : Int) * (x * bin N (i + 1)) = x * (((i : Int) + 1) * bin N (i + 1)) by rw [Int.natCast_add]; grind, e, show x * (N * bin (N - 1) i) = N * x * bin (N - 1) i by grind]
  exact Int.dvd_mul_of_dvd_left d
theorem VK_terms {m n : Int} : ∀ (k : Nat) (cs : List Int), (∀ i : Nat, i < cs.length → m ∣ cs.getD i 0 * bin n (k + i)) → m ∣ VK k cs n
  | _, [], _ => Int.dvd_zero m
  | k, c :: cs, h => by
    refine Int.dvd_add (h 0 (Nat.zero_lt_succ _)) (VK_terms (k + 1) cs fun i hi => ?_)
    have := h (i + 1) (Nat.succ_lt_succ hi)
    rwa [show k + (i + 1) = k + 1 + i by omega] at this
theorem great_rows {G : Nat} {N : Int} : ∀ xs : List Int, (∀ j, 1 ≤ j → j ≤ xs.length → Nat.Coprime G j) → ((∀ k : Nat, k < xs.length → (G : Int) ∣ VK 1 (xs.drop k) N) ↔ ∀ x ∈ xs, (G : Int) ∣ N * x)
  | [], _ => ⟨fun _ x hx => (by cases hx), fun _ k hk => absurd hk (Nat.not_lt_zero k)⟩
  | x :: t, hc => by
    have ih := great_rows (N := N) t fun j h1 h2 => hc j h1 (by rw [List.length_cons]; omega)
    have tl : (∀ y ∈ t, (G : Int) ∣ N * y) → (G : Int) ∣ VK 2 t N := fun h => VK_terms 2 t fun i hi => term_dvd (by omega) (hc (2 + i) (by omega) (by rw [List.length_cons]; omega)) (h _ (by
      rw [List.getD_eq_getElem?_getD, List.getElem?_eq_getElem hi, Option.getD_some]
      exact List.getElem_mem hi))
    have e : VK 1 (x :: t) N = x * N + VK 2 t N := by
      show x * bin N 1 + VK 2 t N = _
      rw [show bin N 1 = N by
        show 1 * (N - ((0 : Nat) : Int)) / (((0 : Nat) : Int) + 1) = N
        rw [Int.natCast_zero, Int.sub_zero, Int.one_mul, Int.zero_add, Int.ediv_one]]
    refine ⟨fun h => ?_, fun h k hk => ?_⟩
    · have ht := ih.mp fun k hk => h (k + 1) (by rw [List.length_cons]; omega)
      have h0 := h 0 (Nat.zero_lt_succ _)
      rw [List.drop_zero, e] at h0
      have h1 : (G : Int) ∣ x * N := (Int.dvd_iff_dvd_of_dvd_add h0).mpr (tl ht)
      intro y hy
      rcases List.mem_cons.mp hy with rfl | hy
      · rw [Int.mul_comm]
        exact h1
      · exact ht y hy
    · cases k with
      | zero =>
        rw [List.drop_zero, e]
        refine Int.dvd_add ?_ (tl fun y hy => h y (List.mem_cons_of_mem _ hy))
        rw [Int.mul_comm]
        exact h x List.mem_cons_self
      | succ k => exact ih.mpr (fun y hy => h y (List.mem_cons_of_mem _ hy)) k (by rw [List.length_cons] at hk; omega)
theorem gcdL_mem : ∀ (ns : List Int) (m : Nat) (n : Int), n ∈ ns → gcdL m ns ∣ n.natAbs
  | x :: ns, m, n, h => by
    rw [gcdL_cons]
    rcases List.mem_cons.mp h with rfl | h
    · exact Nat.dvd_trans (gcdL_dvd ns _) (Nat.gcd_dvd_right _ _)
    · exact gcdL_mem ns _ n h
theorem gcdL_times {G k : Nat} : ∀ (ns : List Int) (m : Nat), G ∣ k * m → (∀ n ∈ ns, G ∣ k * n.natAbs) → G ∣ k * gcdL m ns
  | [], _, h, _ => h
  | x :: ns, m, h, hn => by
    rw [gcdL_cons]
    refine gcdL_times ns _ ?_ fun n hm => hn n (List.mem_cons_of_mem _ hm)
    rw [← Nat.gcd_mul_left]
    exact Nat.dvd_gcd h (hn x List.mem_cons_self)
/-- the least period modulo a part that shares nothing with the places -/
theorem lp_great {G : Nat} {cs : List Int} (hG : 1 ≤ G) (hc : ∀ j, 1 ≤ j → j ≤ cs.length - 1 → Nat.Coprime G j) : IsLp G cs (G / gcdL G (cs.drop 1)) := by
  have g1 := gcdL_pos hG (cs.drop 1)
  have gd := gcdL_dvd (cs.drop 1) G
  obtain ⟨q, hq⟩ := gd
  have eq : G / gcdL G (cs.drop 1) = q := by
    refine Nat.div_eq_of_eq_mul_right g1 hq
  rw [eq]
  have q1 : 1 ≤ q := by
    cases q with
    | zero => rw [Nat.mul_zero] at hq; omega
    | succ q => omega
  refine ⟨q1, fun N => ?_⟩
  have key : Per G cs N ↔ ∀ x ∈ cs.drop 1, (G : Int) ∣ N * x := by
    rw [per_rows, ← great_rows (cs.drop 1) (fun j h1 h2 => hc j h1 (by rw [List.length_drop] at h2; exact h2))]
    refine ⟨fun h k hk => ?_, fun h r hr => ?_⟩
    · rw [List.drop_drop]
      have := h k (by rw [List.length_drop] at hk; omega)
      unfold rowL at this
      rwa [Nat.add_comm k 1] at this
    · have := h r (by rw [List.length_drop]; omega)
      rw [List.drop_drop] at this
      unfold rowL
      rwa [Nat.add_comm r 1]
  rw [key]
  refine ⟨fun h => ?_, fun h x hx => ?_⟩
  · have h1 := gcdL_times (G := G) (k := N.natAbs) (cs.drop 1) G (Nat.dvd_mul_left _ _) fun x hx => by
      have := Int.ofNat_dvd_left.mp (h x hx)
      rwa [Int.natAbs_mul] at this
    refine Int.ofNat_dvd_left.mpr ?_
    refine Nat.dvd_of_mul_dvd_mul_left g1 ?_
    rw [← hq, Nat.mul_comm]
    exact h1
  · obtain ⟨d, hd⟩ := gcdL_mem (cs.drop 1) G x hx
    obtain ⟨a, ha⟩ := Int.ofNat_dvd_left.mp h
    refine Int.ofNat_dvd_left.mpr ?_
    rw [Int.natAbs_mul, hd, ha, show q * a * (gcdL G (cs.drop 1) * d) = (gcdL G (cs.drop 1) * q) * (a * d) by
      simp only [Nat.mul_comm, Nat.mul_left_comm, Nat.mul_assoc], ← hq]
    exact Nat.dvd_mul_right _ _
theorem pw_dvd {p : Nat} (hp : p ∈ PR) : ∀ (k d : Nat), d ∣ p ^ k → ∃ j, j ≤ k ∧ d = p ^ j
  | 0, d, h => ⟨0, Nat.le_refl 0, by rw [Nat.pow_zero] at h ⊢; exact Nat.dvd_one.mp h⟩
  | k + 1, d, h => by
    rcases pr_prime hp (Nat.gcd_dvd_right d p) with g | g
    · have h2 : d ∣ p ^ k := by
        rw [Nat.pow_succ] at h
        exact Nat.Coprime.dvd_of_dvd_mul_right g h
      obtain ⟨j, j1, j2⟩ := pw_dvd hp k d h2
      exact ⟨j, by omega, j2⟩
    · have h2 : p ∣ d := by rw [← g]; exact Nat.gcd_dvd_left d p
      obtain ⟨c, rfl⟩ := h2
      have p2 := (pr_two hp).1
      rw [Nat.pow_succ, Nat.mul_comm (p ^ k)] at h
      obtain ⟨j, j1, j2⟩ := pw_dvd hp k c (Nat.dvd_of_mul_dvd_mul_left (by omega) h)
      exact ⟨j + 1, by omega, by rw [j2, Nat.pow_succ, Nat.mul_comm]⟩
theorem pw_le {p : Nat} (hp : p ∈ PR) {i j : Nat} : p ^ i ∣ p ^ j ↔ i ≤ j := by
  have p2 := (pr_two hp).1
  refine ⟨fun h => ?_, fun h => Nat.pow_dvd_pow p h⟩
  have := Nat.le_of_dvd (Nat.pow_pos (by omega)) h
  exact (Nat.pow_le_pow_iff_right (by omega)).mp this
/-- what a power of p divides times a small number, a lesser one divides alone -/
theorem pw_small {p e : Nat} (hp : p ∈ PR) {i : Nat} (h1 : 1 ≤ i) (h2 : i ≤ 12) {x : Int} (h : ((p ^ (e + 3) : Nat) : Int) ∣ (i : Int) * x) : ((p ^ e : Nat) : Int) ∣ x := by
  have p2 := (pr_two hp).1
  have hz : x.natAbs = 0 ∨ 1 ≤ x.natAbs := by omega
  rcases hz with hz | hz
  · rw [Int.natAbs_eq_zero.mp hz]
    exact Int.dvd_zero _
  have h3 := Int.ofNat_dvd_left.mp h
  rw [Int.natAbs_mul, Int.natAbs_natCast] at h3
  obtain ⟨q, e1, q1⟩ := vl_spec p2 h1
  obtain ⟨r, e2, r1⟩ := vl_spec p2 hz
  have hi : vl p i ≤ 3 := by
    refine Nat.le_of_not_lt fun z => ?_
    have : 2 ^ 4 ≤ i := by
      rw [e1]
      refine Nat.le_trans (Nat.pow_le_pow_right (by decide) z) (Nat.le_trans (Nat.pow_le_pow_left p2 _) (Nat.le_mul_of_pos_right _ ?_))
      refine Nat.pos_of_ne_zero fun z2 => q1 ?_
      rw [z2, Nat.zero_mod]
    omega
  refine Int.ofNat_dvd_left.mpr ?_
  have c1 : Nat.Coprime q p := pr_no hp q1
  have c2 : Nat.Coprime r p := pr_no hp r1
  have h4 : p ^ (e + 3) ∣ p ^ (vl p i + vl p x.natAbs) := by
    have e3 : i * x.natAbs = p ^ (vl p i + vl p x.natAbs) * (q * r) := by
      rw [Nat.pow_add]
      calc i * x.natAbs = (p ^ vl p i * q) * (p ^ vl p x.natAbs * r) := by rw [← e1, ← e2]
        _ = _ := by simp only [Nat.mul_comm, Nat.mul_left_comm, Nat.mul_assoc]
    rw [e3] at h3
    exact Nat.Coprime.dvd_of_dvd_mul_right ((Nat.Coprime.mul_left c1 c2).symm.pow_left _) h3
  have h5 := (pw_le hp).mp h4
  rw [e2]
  exact Nat.dvd_trans (Nat.pow_dvd_pow p (by omega)) (Nat.dvd_mul_right _ _)
theorem pw_period {p : Nat} (hp : p ∈ PR) (e : Nat) {cs : List Int} (hl : cs.length ≤ 13) : Per (p ^ e) cs ((p ^ (e + 3) : Nat) : Int) := by
  rw [per_rows]
  intro r hr
  refine VK_terms 1 _ fun i hi => ?_
  rw [List.length_drop] at hi
  refine Int.dvd_mul_of_dvd_right ?_
  refine pw_small hp (i := 1 + i) (by omega) (by omega) ?_
  have e1 := bin_less ((p ^ (e + 3) : Nat) : Int) i
  rw [show ((1 + i : Nat) : Int) = (i : Int) + 1 by omega, show 1 + i = i + 1 by omega, e1]
  exact Int.dvd_mul_right _ _
/-- the least power of p that is a period is the least period -/
theorem lp_pw {p : Nat} (hp : p ∈ PR) {e : Nat} {cs : List Int} (hl : cs.length ≤ 13) {t : Nat} (h1 : Per (p ^ e) cs ((p ^ t : Nat) : Int)) (h2 : ∀ s, s < t → ¬ Per (p ^ e) cs ((p ^ s : Nat) : Int)) : IsLp (p ^ e) cs (p ^ t) ∧ t ≤ e + 3 := by
  have p2 := (pr_two hp).1
  obtain ⟨L, hL⟩ := lp_exists (pw_period hp e hl) (Nat.pow_pos (by omega))
  have d1 := Int.ofNat_dvd.mp ((hL.2 _).mp (pw_period hp e hl))
  obtain ⟨j, j1, rfl⟩ := pw_dvd hp _ _ d1
  have hj : Per (p ^ e) cs ((p ^ j : Nat) : Int) := (hL.2 _).mpr (Int.dvd_refl _)
  have d2 := (pw_le hp).mp (Int.ofNat_dvd.mp ((hL.2 _).mp h1))
  have : j = t := by
    refine Nat.le_antisymm d2 (Nat.le_of_not_lt fun z => h2 j z hj)
  subst this
  exact ⟨hL, j1⟩
theorem per_prod {l : List Nat} (hc : Cop l) {cs : List Int} {N : Int} : Per (prodN l) cs N ↔ ∀ d ∈ l, Per d cs N :=
  ⟨fun h d hd => h.mono (prod_dvd hd), fun h n => dvd_prod hc fun d hd => h d hd n⟩
theorem great_cop {n most : Nat} (hn : 1 ≤ n) (hm : most ≤ 12) {j : Nat} (h1 : 1 ≤ j) (h2 : j ≤ most) : Nat.Coprime (great n most) j := by
  have pr : ∀ p ∈ PR, p ≤ most → Nat.Coprime (great n most) p := fun p hp hle => by
    refine pr_no hp fun z => ?_
    by_cases h : n % p = 0
    · exact great_no hn (x := (p, vl p n)) (by
        unfold small
        exact List.mem_map.mpr ⟨p, List.mem_filter.mpr ⟨hp, by rw [decide_eq_true hle, decide_eq_true h] <;> rfl⟩, rfl⟩) z
    · refine h (Nat.mod_eq_zero_of_dvd (Nat.dvd_trans (Nat.dvd_of_mod_eq_zero z) ?_))
      exact ⟨_, great_mul most hn⟩
  have c : j = 1 ∨ j = 2 ∨ j = 3 ∨ j = 2 * 2 ∨ j = 5 ∨ j = 2 * 3 ∨ j = 7 ∨ j = 2 * (2 * 2) ∨ j = 3 * 3 ∨ j = 2 * 5 ∨ j = 11 ∨ j = 2 * (2 * 3) := by omega
  have P2 : 2 ≤ most → Nat.Coprime (great n most) 2 := pr 2 (by decide)
  have P3 : 3 ≤ most → Nat.Coprime (great n most) 3 := pr 3 (by decide)
  have P5 : 5 ≤ most → Nat.Coprime (great n most) 5 := pr 5 (by decide)
  have P7 : 7 ≤ most → Nat.Coprime (great n most) 7 := pr 7 (by decide)
  have P11 : 11 ≤ most → Nat.Coprime (great n most) 11 := pr 11 (by decide)
  rcases c with rfl | rfl | rfl | rfl | rfl | rfl | rfl | rfl | rfl | rfl | rfl | rfl
  · exact Nat.coprime_one_right _
  · exact P2 h2
  · exact P3 h2
  · exact (P2 (by omega)).mul_right (P2 (by omega))
  · exact P5 h2
  · exact (P2 (by omega)).mul_right (P3 (by omega))
  · exact P7 h2
  · exact (P2 (by omega)).mul_right ((P2 (by omega)).mul_right (P2 (by omega)))
  · exact (P3 (by omega)).mul_right (P3 (by omega))
  · exact (P2 (by omega)).mul_right (P5 (by omega))
  · exact P11 h2
  · exact (P2 (by omega)).mul_right ((P2 (by omega)).mul_right (P3 (by omega)))
theorem cop_sub : ∀ {l m : List Nat}, l.length = m.length → (∀ i x y : Nat, l[i]? = some x → m[i]? = some y → ∀ z : Nat, Nat.Coprime x z → Nat.Coprime y z) → Cop l → Cop m
  | [], [], _, _, h => h
  | [], _ :: _, h, _, _ => by simp at h
  | _ :: _, [], h, _, _ => by simp at h
  | x :: l, y :: m, hl, h, ⟨h1, h2⟩ => by
    refine ⟨fun z hz => ?_, cop_sub (l := l) (m := m) (by simpa using hl) (fun i a b ha hb => h (i + 1) a b ha hb) h2⟩
    obtain ⟨i, hi, rfl⟩ := List.mem_iff_getElem.mp hz
    have hi2 : i < l.length := by
      have := hl
      simp only [List.length_cons] at this
      omega
    have c1 := h1 l[i] (List.getElem_mem hi2)
    have c2 := h 0 x y rfl rfl _ c1
    exact (h (i + 1) l[i] m[i] (by rw [List.getElem?_cons_succ, List.getElem?_eq_getElem hi2]) (by rw [List.getElem?_cons_succ, List.getElem?_eq_getElem hi]) y c2.symm).symm
/-- the least period from those by the pieces -/
theorem lp_pieces {cs : List Int} : ∀ {l m : List Nat}, l.length = m.length → Cop l → Cop m → (∀ i d L : Nat, l[i]? = some d → m[i]? = some L → IsLp d cs L) → IsLp (prodN l) cs (prodN m) := fun {l m} hl hc hm h => by
  have pos : ∀ L ∈ m, 1 ≤ L := fun L hL => by
    obtain ⟨i, hi, rfl⟩ := List.mem_iff_getElem.mp hL
    exact (h i _ _ (List.getElem?_eq_getElem (by omega)) (List.getElem?_eq_getElem hi)).1
  refine ⟨?_, fun N => ?_⟩
  · have : ∀ k : List Nat, (∀ L ∈ k, 1 ≤ L) → 1 ≤ prodN k := fun k => by
      induction k with
      | nil => exact fun _ => Nat.le_refl 1
      | cons a k ih =>
        intro hk
        rw [prodN_cons]
        exact Nat.mul_pos (hk a List.mem_cons_self) (ih fun L hL => hk L (List.mem_cons_of_mem _ hL))
    exact this m pos
  · rw [per_prod hc]
    refine ⟨fun hp => dvd_prod hm fun L hL => ?_, fun hd d hdl => ?_⟩
    · obtain ⟨i, hi, rfl⟩ := List.mem_iff_getElem.mp hL
      have hi2 : i < l.length := by omega
      exact ((h i _ _ (List.getElem?_eq_getElem hi2) (List.getElem?_eq_getElem hi)).2 N).mp (hp _ (List.getElem_mem hi2))
    · obtain ⟨i, hi, rfl⟩ := List.mem_iff_getElem.mp hdl
      have hi2 : i < m.length := by omega
      refine ((h i _ _ (List.getElem?_eq_getElem hi) (List.getElem?_eq_getElem hi2)).2 N).mpr ?_
      exact Int.dvd_trans (Int.ofNat_dvd.mpr (prod_dvd (List.getElem_mem hi2))) hd
end My

set_option Elab.async false
set_option linter.all false
set_option maxRecDepth 100000
set_option maxHeartbeats 4000000
namespace My
open G (InR rgI)
end My

set_option Elab.async false
set_option linter.all false
namespace My
end My

set_option Elab.async false
set_option linter.all false
set_option maxRecDepth 100000
set_option maxHeartbeats 4000000
namespace My
open G (InR)
theorem per_great {M : Nat} {cs : List Int} (hl : cs.length ≤ 13) (t : Int) : Per M cs (27720 * M * t) := fun n => by
  have h := V_per (m := (M : Int)) (t := t) hl n
  exact Int.dvd_of_emod_eq_zero (Int.emod_eq_emod_iff_emod_sub_eq_zero.mp h)
end My

set_option Elab.async false
set_option linter.all false
set_option maxRecDepth 100000
set_option maxHeartbeats 4000000
namespace My
open G (InR)
theorem dml {a b : Int} (c : Int) (h : a ∣ b) : a ∣ c * b := Int.dvd_trans h ⟨c, Int.mul_comm _ _⟩
open Classical in
/-- the least period -/
noncomputable def lpN (M : Nat) (cs : List Int) : Nat := if h : ∃ L, IsLp M cs L then Classical.choose h else 0
theorem lpN_eq {M L : Nat} {cs : List Int} (h : IsLp M cs L) : lpN M cs = L := by
  have hx : ∃ L, IsLp M cs L := ⟨L, h⟩
  unfold lpN
  rw [dif_pos hx]
  exact (Classical.choose_spec hx).uniq h
theorem lpN_ok {M : Nat} {cs : List Int} (hM : 1 ≤ M) (hl : cs.length ≤ 13) : IsLp M cs (lpN M cs) := by
  have h := per_great (M := M) hl 1
  rw [Int.mul_one, show (27720 : Int) * (M : Int) = ((27720 * M : Nat) : Int) by omega] at h
  obtain ⟨L, hL⟩ := lp_exists h (by omega)
  rw [lpN_eq hL]
  exact hL
/-- the least common multiple of all -/
def lcmL (Ls : List Nat) : Nat := Ls.foldl Nat.lcm 1
theorem Per.ad {M : Nat} {xs ys : List Int} {N : Int} (s : Int) (p : Per M xs N) (q : Per M ys N) : Per M (My.ad s xs ys) N := fun n => by
  have := Int.dvd_add (p n) (dml s (q n))
  rwa [show V xs (n + N) - V xs n + s * (V ys (n + N) - V ys n) = V (My.ad s xs ys) (n + N) - V (My.ad s xs ys) n by rw [V_ad, V_ad, Int.mul_sub]; omega] at this
end My

set_option Elab.async false
set_option linter.all false
set_option maxRecDepth 100000
set_option maxHeartbeats 4000000
namespace My
open G (InR)
end My

set_option Elab.async false
set_option linter.all false
set_option maxRecDepth 100000
set_option maxHeartbeats 1000000
namespace My
end My

set_option Elab.async false
set_option linter.all false
set_option maxRecDepth 100000
set_option maxHeartbeats 1000000
namespace My
open G (InR)
theorem dvd_gcdL : ∀ {ns : List Int} {m d : Nat}, d ∣ m → (∀ n ∈ ns, (d : Int) ∣ n) → d ∣ gcdL m ns
  | [], _, _, h, _ => h
  | n :: ns, m, d, h, k => by
    rw [gcdL_cons]
    exact dvd_gcdL (Nat.dvd_gcd h (Int.ofNat_dvd_left.mp (k n List.mem_cons_self))) fun x hx => k x (List.mem_cons_of_mem _ hx)
end My

set_option Elab.async false
set_option linter.all false
set_option maxRecDepth 100000
set_option maxHeartbeats 2000000
namespace My
open La (dot md)
/-- the coefficients of the last rests -/
def cfL (l : Bool) (x : Int) (s : List Int) : List Int := coR l x (0 :: s.reverse)
theorem cfL_len (l : Bool) (x : Int) (s : List Int) : (cfL l x s).length = s.length + 2 := by
  unfold cfL
  rw [coR_len, List.length_cons, List.length_reverse]
theorem cfL_at (l : Bool) (x : Int) (s : List Int) (i : Nat) : dot ((formsOf l (s.length + 1)).getD (i + 1) []) (x :: s) = (cfL l x s).getD (i + 1) 0 := by
  have e3 := evF_forms l x s s.length (Nat.le_refl _)
  rw [List.take_length] at e3
  rw [← evF_at, show formsOf l (s.length + 1) = formsF l (s.length + 1) s.length by unfold formsOf; rw [Nat.add_sub_cancel], e3]
  rfl
theorem row_sum (l : Bool) (x N : Int) (s : List Int) (r : Nat) : rowL (cfL l x s) r N = sumR (fun i => bin N (i + 1) * (cfL l x s).getD (r + (i + 1)) 0) (s.length + 1 - r) := by
  rw [← rowL_terms, cfL_len, show s.length + 2 - (r + 1) = s.length + 1 - r by omega]
  unfold sumR
  congr 1
  refine List.map_congr_left fun i _ => ?_
  rw [Int.mul_comm, Nat.add_comm 1 i]
theorem per_cfL {M : Nat} {l : Bool} {x : Int} {s : List Int} {N : Int} : Per M (cfL l x s) N ↔ La.KA (M : Int) (rowsF l (s.length + 1) N (M : Int)) (x :: s) := by
  rw [per_rows]
  constructor
  · intro h v hv
    obtain ⟨r, hr, rfl⟩ := List.mem_map.mp hv
    have hr := List.mem_range.mp hr
    have := h r (by rw [cfL_len]; omega)
    rw [row_sum] at this
    exact (rowF_dot (l := l) (s := s) (r := r) 0).mpr this
  · intro h r hr
    rw [cfL_len] at hr
    have := h _ (List.mem_map.mpr ⟨r, List.mem_range.mpr (by omega), rfl⟩)
    rw [row_sum]
    exact (rowF_dot (l := l) (s := s) (r := r) 0).mp this
/-- the walk comes home just after the periods -/
theorem walk_per {l : Bool} {M : Nat} {x : Int} (hM : 0 < M) {s : List Int} {last : Int} (hs : La.Red (M : Int) s) (h0 : 0 ≤ last) (h1 : last < M) (t : Nat) :
    walkM l (M : Int) x (s ++ [last]) t = s ++ [last] ↔ Per M (cfL l x s) (t : Int) := by
  rw [per_cfL]
  exact (period_iff (by omega) hs h0 h1 t).symm
theorem dot_cg {d : Int} : ∀ {s u : List Int} (v : List Int), s.length = u.length → (∀ i, d ∣ s.getD i 0 - u.getD i 0) → d ∣ dot v s - dot v u
  | [], [], v, _, _ => by rw [Int.sub_self]; exact Int.dvd_zero _
  | [], _ :: _, _, h, _ => by simp at h
  | _ :: _, [], _, h, _ => by simp at h
  | a :: s, b :: u, [], _, _ => by rw [La.dot_nil, La.dot_nil, Int.sub_self]; exact Int.dvd_zero _
  | a :: s, b :: u, c :: v, h, k => by
    have h1 := k 0
    have h2 := dot_cg v (show s.length = u.length by simpa using h) fun i => k (i + 1)
    show d ∣ (c * a + dot v s) - (c * b + dot v u)
    rw [show (c * a + dot v s) - (c * b + dot v u) = c * (a - b) + (dot v s - dot v u) by rw [Int.mul_sub]; omega]
    exact Int.dvd_add (Int.dvd_mul_of_dvd_right h1) h2
theorem per_cfL_cg {d : Nat} {l : Bool} {x : Int} {s u : List Int} {N : Int} (hl : s.length = u.length) (h : ∀ i, (d : Int) ∣ s.getD i 0 - u.getD i 0) : Per d (cfL l x s) N ↔ Per d (cfL l x u) N := by
  rw [per_cfL, per_cfL, hl]
  have key : ∀ v, (d : Int) ∣ dot v (x :: s) ↔ (d : Int) ∣ dot v (x :: u) := fun v => by
    have h2 := dot_cg (d := (d : Int)) (s := x :: s) (u := x :: u) v (by rw [List.length_cons, List.length_cons, hl]) fun i => by
      cases i with
      | zero => show (d : Int) ∣ x - x; rw [Int.sub_self]; exact Int.dvd_zero _
      | succ i => exact h i
    constructor
    · intro a
      have := Int.dvd_sub a h2
      rwa [Int.sub_sub_self] at this
    · intro a
      have := Int.dvd_add a h2
      rwa [Int.add_comm, Int.sub_add_cancel] at this
  exact ⟨fun a v hv => (key v).mp (a v hv), fun a v hv => (key v).mpr (a v hv)⟩
/-- an input keeps rows with all starts -/
def AllK (m x : Int) (rows : List (List Int)) : Prop := ∀ v ∈ rows, m ∣ v.headD 0 * x ∧ ∀ e ∈ v.tail, m ∣ e
theorem rowsF_len (l : Bool) (n : Nat) (N m : Int) : (rowsF l n N m).length = n := by
  unfold rowsF
  rw [List.length_map, List.length_range]
theorem rowsF_mem {l : Bool} {n : Nat} {N m : Int} : ∀ v ∈ rowsF l n N m, v.length = n := fun v hv => by
  obtain ⟨r, _, rfl⟩ := List.mem_map.mp hv
  unfold rowF
  rw [List.length_map, List.length_range]
theorem dot_head {v : List Int} {x : Int} {s : List Int} : dot v (x :: s) = v.headD 0 * x + dot v.tail s := by
  cases v with
  | nil => show (0 : Int) = 0 * x + dot [] s; rw [La.dot_nil]; omega
  | cons a v => rfl
theorem dvd_dot {m : Int} : ∀ {v : List Int} (s : List Int), (∀ e ∈ v, m ∣ e) → m ∣ dot v s
  | [], s, _ => by rw [La.dot_nil]; exact Int.dvd_zero _
  | _ :: _, [], _ => by rw [La.dot_nilr]; exact Int.dvd_zero _
  | a :: v, b :: s, h => Int.dvd_add (Int.dvd_mul_of_dvd_left (h a List.mem_cons_self)) (dvd_dot s fun e he => h e (List.mem_cons_of_mem _ he))
theorem allK_per {q : Nat} {l : Bool} {x N : Int} {s : List Int} (h : AllK (q : Int) x (rowsF l (s.length + 1) N (q : Int))) : Per q (cfL l x s) N := by
  rw [per_cfL]
  intro v hv
  obtain ⟨h1, h2⟩ := h v hv
  rw [dot_head]
  exact Int.dvd_add h1 (dvd_dot s h2)
theorem rep_dot (v : List Int) (k : Nat) : dot v (List.replicate k 0) = 0 := by rw [La.dot_comm, La.dot_rep0]
/-- what is left by the input alone -/
theorem leave_in {q : Nat} {l : Bool} {x N : Int} {k : Nat} (h : ∃ v ∈ rowsF l (k + 1) N (q : Int), ¬ (q : Int) ∣ v.headD 0 * x) : ¬ Per q (cfL l x (List.replicate k 0)) N := fun z => by
  obtain ⟨v, hv, hn⟩ := h
  rw [per_cfL, List.length_replicate] at z
  have := z v hv
  rw [dot_head, rep_dot, Int.add_zero] at this
  exact hn this
/-- what is left by one start -/
theorem leave_at {q : Nat} {l : Bool} {x N : Int} {k p : Nat} (hp : p < k) (h0 : ∀ v ∈ rowsF l (k + 1) N (q : Int), (q : Int) ∣ v.headD 0 * x) (h : ∃ v ∈ rowsF l (k + 1) N (q : Int), ¬ (q : Int) ∣ v.getD (p + 1) 0) : ¬ Per q (cfL l x (named k p)) N := fun z => by
  obtain ⟨v, hv, hn⟩ := h
  rw [per_cfL, named_len] at z
  have h1 := z v hv
  have hl := rowsF_mem v hv
  have e : dot v.tail (named k p) = v.getD (p + 1) 0 := by
    have ht : v.tail.length = k := by rw [List.length_tail, hl]; omega
    have := dot_named v.tail p
    rw [ht] at this
    rw [La.dot_comm, this]
    cases v with
    | nil => simp at hl
    | cons a v => rfl
  rw [dot_head, e] at h1
  exact hn ((Int.dvd_add_right (h0 v hv)).mp h1)
/-- all starts have a period just if the rows are kept with all starts -/
theorem allK_iff {q : Nat} {l : Bool} {x N : Int} {k : Nat} : AllK (q : Int) x (rowsF l (k + 1) N (q : Int)) ↔ ∀ s : List Int, s.length = k → Per q (cfL l x s) N := by
  constructor
  · intro h s hs
    rw [← hs] at h
    exact allK_per h
  · intro h v hv
    have h0 : ∀ v ∈ rowsF l (k + 1) N (q : Int), (q : Int) ∣ v.headD 0 * x := fun v hv => Classical.byContradiction fun z => leave_in ⟨v, hv, z⟩ (h _ (List.length_replicate ..))
    refine ⟨h0 v hv, fun e he => ?_⟩
    obtain ⟨p, hp, rfl⟩ := List.mem_iff_getElem.mp he
    have hl := rowsF_mem v hv
    rw [List.length_tail] at hp
    refine Classical.byContradiction fun z => leave_at (p := p) (by omega) h0 ⟨v, hv, fun y => z ?_⟩ (h _ (named_len k p))
    rw [List.getD_eq_getElem?_getD, List.getElem?_eq_getElem (by omega)] at y
    rw [List.getElem_tail]
    exact y
/-- the longest exponent modulo a power of a small prime -/
def LgT (p e : Nat) (l : Bool) (x : Int) (k t : Nat) : Prop := (∀ s : List Int, s.length = k → Per (p ^ e) (cfL l x s) ((p ^ t : Nat) : Int)) ∧ ∀ u, u < t → ¬ ∀ s : List Int, s.length = k → Per (p ^ e) (cfL l x s) ((p ^ u : Nat) : Int)
theorem lgT_ex {p e : Nat} (hp : p ∈ PR) (l : Bool) (x : Int) {k : Nat} (hk : k ≤ 11) : ∃ t, LgT p e l x k t ∧ t ≤ e + 3 := by
  have h0 : ∀ s : List Int, s.length = k → Per (p ^ e) (cfL l x s) ((p ^ (e + 3) : Nat) : Int) := fun s hs => pw_period hp e (by rw [cfL_len]; omega)
  have : ∀ n, n ≤ e + 3 → (∀ s : List Int, s.length = k → Per (p ^ e) (cfL l x s) ((p ^ n : Nat) : Int)) → ∃ t, LgT p e l x k t ∧ t ≤ e + 3 := fun n => by
    induction n with
    | zero => exact fun _ h => ⟨0, ⟨h, fun u hu => absurd hu (by omega)⟩, by omega⟩
    | succ n ih =>
      intro hn h
      by_cases z : ∀ s : List Int, s.length = k → Per (p ^ e) (cfL l x s) ((p ^ n : Nat) : Int)
      · exact ih (by omega) z
      · refine ⟨n + 1, ⟨h, fun u hu w => z fun s hs => ?_⟩, hn⟩
        exact (w s hs).dvd (Int.ofNat_dvd.mpr (Nat.pow_dvd_pow p (by omega)))
  exact this (e + 3) (Nat.le_refl _) h0
theorem LgT.iff {p e : Nat} {l : Bool} {x : Int} {k t : Nat} (h : LgT p e l x k t) (u : Nat) : (∀ s : List Int, s.length = k → Per (p ^ e) (cfL l x s) ((p ^ u : Nat) : Int)) ↔ t ≤ u := by
  constructor
  · exact fun w => Nat.le_of_not_lt fun z => h.2 u z w
  · exact fun w s hs => (h.1 s hs).dvd (Int.ofNat_dvd.mpr (Nat.pow_dvd_pow p w))
end My

set_option Elab.async false
set_option linter.all false
set_option maxRecDepth 100000
set_option maxHeartbeats 2000000
namespace My
open La (dot md)
open G (InR)
theorem forms_tri : ∀ (l : Bool) (n k : Fin 7), 1 ≤ k.1 → k.1 < n.1 → ((formsOf l n.1).getD (n.1 - k.1) []).drop k.1 = 1 :: List.replicate (n.1 - 1 - k.1) 0 := by decide +kernel
theorem dot_split : ∀ (v a b : List Int), dot v (a ++ b) = dot v a + dot (v.drop a.length) b
  | v, [], b => by rw [List.nil_append, La.dot_nilr, Int.zero_add] <;> rfl
  | [], x :: a, b => by rw [La.dot_nil, La.dot_nil, List.drop_nil, La.dot_nil] <;> rfl
  | y :: v, x :: a, b => by
    show y * x + dot v (a ++ b) = y * x + dot v a + dot (v.drop a.length) b
    rw [dot_split v a b, Int.add_assoc]
/-- the numbers: the input, and starts one by one -/
def swF (l : Bool) (n : Nat) (x : Int) (m : Nat) (last : Int) : Nat → List Int
  | 0 => [x]
  | k + 1 => swF l n x m last k ++ [((if k + 1 = n - 1 then last else 0) - dot ((formsOf l n).getD (n - (k + 1)) []) (swF l n x m last k)) % (m : Int)]
theorem swF_len (l : Bool) (n : Nat) (x : Int) (m : Nat) (last : Int) : ∀ k, (swF l n x m last k).length = k + 1
  | 0 => rfl
  | k + 1 => by rw [swF, List.length_append, swF_len l n x m last k, List.length_singleton]
theorem swF_head (l : Bool) (n : Nat) (x : Int) (m : Nat) (last : Int) : ∀ k, ∃ s, swF l n x m last k = x :: s ∧ s.length = k
  | 0 => ⟨[], rfl, rfl⟩
  | k + 1 => by
    obtain ⟨s, h1, h2⟩ := swF_head l n x m last k
    refine ⟨s ++ [((if k + 1 = n - 1 then last else 0) - dot ((formsOf l n).getD (n - (k + 1)) []) (swF l n x m last k)) % (m : Int)], ?_, by rw [List.length_append, h2, List.length_singleton]⟩
    rw [swF, ← List.cons_append, ← h1]
theorem swF_more (l : Bool) (n : Nat) (x : Int) (m : Nat) (last : Int) (k : Nat) : ∀ j, ∃ r, swF l n x m last (k + j) = swF l n x m last k ++ r
  | 0 => ⟨[], by rw [Nat.add_zero, List.append_nil]⟩
  | j + 1 => by
    obtain ⟨r, hr⟩ := swF_more l n x m last k j
    have : swF l n x m last (k + (j + 1)) = swF l n x m last (k + j) ++ _ := rfl
    rw [this, hr, List.append_assoc]
    exact ⟨_, rfl⟩
def swS (l : Bool) (n : Nat) (x : Int) (m : Nat) (last : Int) : List Int := (swF l n x m last (n - 1)).tail
theorem swS_eq (l : Bool) (n : Nat) (x : Int) (m : Nat) (last : Int) : swF l n x m last (n - 1) = x :: swS l n x m last := by
  obtain ⟨s, h1, h2⟩ := swF_head l n x m last (n - 1)
  unfold swS
  rw [h1]
  rfl
theorem swS_len (l : Bool) (n : Nat) (x : Int) (m : Nat) (last : Int) : (swS l n x m last).length = n - 1 := by
  unfold swS
  rw [List.length_tail, swF_len]
  omega
theorem rep_dot0 (k : Nat) (u : List Int) : dot (List.replicate k 0) u = 0 := La.dot_rep0 k u
theorem swF_in {l : Bool} {n : Nat} {x : Int} {m : Nat} {last : Int} (hm : 1 ≤ m) : ∀ k, ∀ y ∈ (swF l n x m last k).tail, 0 ≤ y ∧ y < m
  | 0 => fun y hy => by cases hy
  | k + 1 => fun y hy => by
    obtain ⟨s, h1, h2⟩ := swF_head l n x m last k
    have ih := swF_in (l := l) (n := n) (x := x) (last := last) hm k
    rw [swF] at hy
    have e : (swF l n x m last k ++ [((if k + 1 = n - 1 then last else 0) - dot ((formsOf l n).getD (n - (k + 1)) []) (swF l n x m last k)) % (m : Int)]).tail = (swF l n x m last k).tail ++ [((if k + 1 = n - 1 then last else 0) - dot ((formsOf l n).getD (n - (k + 1)) []) (swF l n x m last k)) % (m : Int)] := by
      rw [List.tail_append_of_ne_nil]
      intro z
      rw [z] at h1
      cases h1
    rw [e] at hy
    rcases List.mem_append.mp hy with hy | hy
    · exact ih y hy
    · rw [List.mem_singleton.mp hy]
      exact ⟨Int.emod_nonneg _ (by omega), Int.emod_lt_of_pos _ (by omega)⟩
/-- what the coefficients come to -/
theorem swS_coef {l : Bool} {n : Nat} (hn : n ≤ 6) {x : Int} {m : Nat} {last : Int} {k : Nat} (k1 : 1 ≤ k) (k2 : k < n) :
    (m : Int) ∣ (cfL l x (swS l n x m last)).getD (n - k) 0 - (if k = n - 1 then last else 0) := by
  have hl := swS_len l n x m last
  obtain ⟨j, rfl⟩ : ∃ j, k = j + 1 := ⟨k - 1, by omega⟩
  have e0 := cfL_at l x (swS l n x m last) (n - (j + 1) - 1)
  rw [hl, show n - 1 + 1 = n by omega, show n - (j + 1) - 1 + 1 = n - (j + 1) by omega, ← swS_eq] at e0
  rw [← e0]
  obtain ⟨r, hr⟩ := swF_more l n x m last (j + 1) (n - 1 - (j + 1))
  rw [show j + 1 + (n - 1 - (j + 1)) = n - 1 by omega] at hr
  have ht := forms_tri l ⟨n, by omega⟩ ⟨j + 1, by omega⟩ (by simp) k2
  simp only at ht
  rw [hr, show swF l n x m last (j + 1) = swF l n x m last j ++ _ from rfl, List.append_assoc, dot_split, swF_len, ht, List.singleton_append]
  show (m : Int) ∣ (dot _ (swF l n x m last j) + (1 * _ + dot (List.replicate _ 0) r)) - _
  rw [rep_dot0, Int.add_zero, Int.one_mul]
  have key : ∀ a b : Int, (m : Int) ∣ (a + (b - a) % (m : Int)) - b := fun a b => by
    have := Int.dvd_self_sub_emod (x := b - a) (m := (m : Int))
    obtain ⟨c, hc⟩ := this
    exact ⟨-c, by rw [Int.mul_neg, ← hc]; omega⟩
  exact key _ _
theorem gcdL_of {G d : Nat} {ns : List Int} (h1 : d ∣ G) (h2 : ∀ n ∈ ns, (d : Int) ∣ n) (h3 : ∀ e : Nat, e ∣ G → (∀ n ∈ ns, (e : Int) ∣ n) → e ∣ d) : gcdL G ns = d :=
  Nat.dvd_antisymm (h3 _ (gcdL_dvd ns G) fun n hn => Int.ofNat_dvd_left.mpr (gcdL_mem ns G n hn)) (dvd_gcdL h1 h2)
theorem mem_drop1 {cs : List Int} {i : Nat} (h1 : 1 ≤ i) (h2 : i < cs.length) : cs.getD i 0 ∈ cs.drop 1 := by
  rw [List.getD_eq_getElem?_getD, List.getElem?_eq_getElem h2]
  refine List.mem_iff_getElem.mpr ⟨i - 1, by rw [List.length_drop]; omega, ?_⟩
  rw [List.getElem_drop]
  show cs[1 + (i - 1)] = cs[i]
  congr 1
  omega
/-- with first coefficient 1 nothing is shared -/
theorem gcd_long {G : Nat} (hG : 1 ≤ G) {l : Bool} {n : Nat} (hn : n ≤ 6) (n2 : 2 ≤ n) {x : Int} : gcdL G ((cfL l x (swS l n x G 1)).drop 1) = 1 := by
  have h := swS_coef (l := l) (n := n) hn (x := x) (m := G) (last := 1) (k := n - 1) (by omega) (by omega)
  rw [if_pos rfl, show n - (n - 1) = 1 by omega] at h
  refine gcdL_of (Nat.one_dvd _) (fun _ _ => Int.one_dvd _) fun e he hd => ?_
  have h1 := hd _ (mem_drop1 (Nat.le_refl 1) (by rw [cfL_len]; omega))
  have h2 := Int.dvd_trans (Int.ofNat_dvd.mpr he) h
  have := Int.dvd_sub h1 h2
  rw [Int.sub_sub_self] at this
  exact Int.ofNat_dvd.mp this
theorem gcd_one {G : Nat} {l : Bool} {x : Int} : gcdL G ((cfL l x []).drop 1) = gcdL G [x] := by cases l <;> rfl
/-- the longest length of the great part -/
def lgG (n : Nat) (x : Int) (G : Nat) : Nat := if 1 < n then G else G / gcdL G [x]
theorem great_per {G : Nat} (hG : 1 ≤ G) {l : Bool} {n : Nat} (n1 : 1 ≤ n) (hn : n ≤ 6) (hc : ∀ j, 1 ≤ j → j ≤ n → Nat.Coprime G j) {x : Int} :
    IsLp G (cfL l x (swS l n x G 1)) (lgG n x G) ∧ ∀ s : List Int, s.length = n - 1 → Per G (cfL l x s) ((lgG n x G : Nat) : Int) := by
  have lp : ∀ s : List Int, s.length = n - 1 → IsLp G (cfL l x s) (G / gcdL G ((cfL l x s).drop 1)) := fun s hs => lp_great hG fun j j1 j2 => hc j j1 (by rw [cfL_len] at j2; omega)
  unfold lgG
  by_cases h : 1 < n
  · rw [if_pos h]
    have := lp _ (swS_len l n x G 1)
    rw [gcd_long hG hn h, Nat.div_one] at this
    refine ⟨this, fun s hs => ?_⟩
    have h2 := (lp s hs).2 G
    exact h2.mpr (Int.ofNat_dvd.mpr (Nat.div_dvd_of_dvd (gcdL_dvd _ _)))
  · rw [if_neg h]
    have hn1 : n = 1 := by omega
    have h0 : ∀ s : List Int, s.length = n - 1 → s = [] := fun s hs => List.length_eq_zero_iff.mp (by omega)
    have e := h0 _ (swS_len l n x G 1)
    rw [e]
    have := lp [] (by rw [hn1] <;> rfl)
    rw [gcd_one] at this
    refine ⟨this, fun s hs => ?_⟩
    rw [h0 s hs]
    exact (this.2 _).mpr (Int.dvd_refl _)
/-- starts with which some rows are not kept -/
def leaveF (rows : List (List Int)) (x m : Int) (k : Nat) : List Int :=
  if rows.any (fun v => decide (0 < v.headD 0 * x % m)) then List.replicate k 0
  else named k (((List.range k).find? fun p => rows.any fun v => decide (0 < v.getD (p + 1) 0 % m)).getD 0)
theorem leaveF_len (rows : List (List Int)) (x m : Int) (k : Nat) : (leaveF rows x m k).length = k := by
  unfold leaveF
  split
  · exact List.length_replicate ..
  · exact named_len _ _
theorem leaveF_ok {q : Nat} (hq : 1 ≤ q) {l : Bool} {x N : Int} {k : Nat} (h : ¬ AllK (q : Int) x (rowsF l (k + 1) N (q : Int))) : ¬ Per q (cfL l x (leaveF (rowsF l (k + 1) N (q : Int)) x (q : Int) k)) N := by
  have pos : ∀ z : Int, 0 < z % (q : Int) ↔ ¬ (q : Int) ∣ z := fun z => by
    have h1 := Int.emod_nonneg z (show (q : Int) ≠ 0 by omega)
    constructor
    · intro a b
      rw [Int.emod_eq_zero_of_dvd b] at a
      omega
    · intro a
      have : z % (q : Int) ≠ 0 := fun b => a (Int.dvd_of_emod_eq_zero b)
      omega
  unfold leaveF
  split
  · rename_i hb
    obtain ⟨v, hv, hd⟩ := List.any_eq_true.mp hb
    exact leave_in ⟨v, hv, (pos _).mp (of_decide_eq_true hd)⟩
  · rename_i hb
    have h0 : ∀ v ∈ rowsF l (k + 1) N (q : Int), (q : Int) ∣ v.headD 0 * x := fun v hv => Classical.byContradiction fun z => hb (List.any_eq_true.mpr ⟨v, hv, decide_eq_true ((pos _).mpr z)⟩)
    cases e : (List.range k).find? fun p => (rowsF l (k + 1) N (q : Int)).any fun v => decide (0 < v.getD (p + 1) 0 % (q : Int)) with
    | some p =>
      have h1 := List.find?_some e
      have h2 := List.mem_range.mp (List.mem_of_find?_eq_some e)
      obtain ⟨v, hv, hd⟩ := List.any_eq_true.mp h1
      exact leave_at h2 h0 ⟨v, hv, (pos _).mp (of_decide_eq_true hd)⟩
    | none =>
      refine (h fun v hv => ⟨h0 v hv, fun y hy => ?_⟩).elim
      obtain ⟨p, hp, rfl⟩ := List.mem_iff_getElem.mp hy
      have hl := rowsF_mem v hv
      rw [List.length_tail] at hp
      have h3 := List.find?_eq_none.mp e p (List.mem_range.mpr (by omega))
      have h4 : ¬ 0 < v.getD (p + 1) 0 % (q : Int) := fun z => h3 (List.any_eq_true.mpr ⟨v, hv, decide_eq_true z⟩)
      rw [pos] at h4
      have h5 := Classical.byContradiction h4
      rw [List.getD_eq_getElem?_getD, List.getElem?_eq_getElem (by omega)] at h5
      rw [List.getElem_tail]
      exact h5
/-- starts with the longest exponent -/
def lsF (l : Bool) (n : Nat) (x : Int) (p e t : Nat) : List Int := if t = 0 then List.replicate (n - 1) 0 else leaveF (rowsF l n ((p ^ (t - 1) : Nat) : Int) ((p ^ e : Nat) : Int)) x ((p ^ e : Nat) : Int) (n - 1)
theorem lsF_len (l : Bool) (n : Nat) (x : Int) (p e t : Nat) : (lsF l n x p e t).length = n - 1 := by
  unfold lsF
  split
  · exact List.length_replicate ..
  · exact leaveF_len ..
theorem lsF_lp {p e : Nat} (hp : p ∈ PR) {l : Bool} {n : Nat} (n1 : 1 ≤ n) (hn : n ≤ 6) {x : Int} {t : Nat} (h : LgT p e l x (n - 1) t) : IsLp (p ^ e) (cfL l x (lsF l n x p e t)) (p ^ t) := by
  have p2 := (pr_two hp).1
  refine (lp_pw hp (by rw [cfL_len, lsF_len l n x p e t]; omega) (h.1 (lsF l n x p e t) (lsF_len l n x p e t)) fun s hs hper => ?_).1
  have h1 : ¬ Per (p ^ e) (cfL l x (lsF l n x p e t)) ((p ^ (t - 1) : Nat) : Int) := by
    unfold lsF
    rw [if_neg (by omega)]
    have hk : ¬ AllK ((p ^ e : Nat) : Int) x (rowsF l (n - 1 + 1) ((p ^ (t - 1) : Nat) : Int) ((p ^ e : Nat) : Int)) := fun z => h.2 (t - 1) (by omega) ((allK_iff (l := l)).mp z)
    have := leaveF_ok (l := l) (x := x) (Nat.pow_pos (n := e) (show 0 < p by omega)) hk
    rwa [show n - 1 + 1 = n by omega] at this
  exact h1 (hper.dvd (Int.ofNat_dvd.mpr (Nat.pow_dvd_pow p (by omega))))
/-- the exponents of the small primes -/
def TsOk (l : Bool) (n : Nat) (x : Int) (M : Nat) (ts : List Nat) : Prop := ts.length = (small M n).length ∧ ∀ (i : Nat) (y : Nat × Nat) (t : Nat), (small M n)[i]? = some y → ts[i]? = some t → LgT y.1 y.2 l x (n - 1) t
def lgPs (l : Bool) (n : Nat) (x : Int) (M : Nat) (ts : List Nat) : List (List Int × Nat) := (swS l n x (great M n) 1, great M n) :: List.zipWith (fun y t => (lsF l n x y.1 y.2 t, y.1 ^ y.2)) (small M n) ts
def lgLs (n : Nat) (x : Int) (M : Nat) (ts : List Nat) : List Nat := lgG n x (great M n) :: List.zipWith (fun (y : Nat × Nat) t => y.1 ^ t) (small M n) ts
structure LgOk (l : Bool) (n : Nat) (x : Int) (M : Nat) (L : Nat) (S : List Int) : Prop where
  ts : ∃ ts, TsOk l n x M ts ∧ L = prodN (lgLs n x M ts) ∧ ∀ k, k < n - 1 → Lvs (S.getD k 0) ((lgPs l n x M ts).map fun y => (y.1.getD k 0, y.2))
  len : S.length = n - 1
  inr : InR M S
theorem LgT.uniq {p e : Nat} {l : Bool} {x : Int} {k t u : Nat} (h : LgT p e l x k t) (g : LgT p e l x k u) : t = u := Nat.le_antisymm ((h.iff u).mp g.1) ((g.iff t).mp h.1)
theorem TsOk.uniq {l : Bool} {n : Nat} {x : Int} {M : Nat} {ts us : List Nat} (h : TsOk l n x M ts) (g : TsOk l n x M us) : ts = us := by
  refine List.ext_getElem (by rw [h.1, g.1]) fun i h1 h2 => ?_
  have h3 : i < (small M n).length := by rw [← h.1]; exact h1
  exact (h.2 i _ _ (List.getElem?_eq_getElem h3) (List.getElem?_eq_getElem h1)).uniq (g.2 i _ _ (List.getElem?_eq_getElem h3) (List.getElem?_eq_getElem h2))
theorem lgPs_snd {l : Bool} {n : Nat} {x : Int} {M : Nat} {ts : List Nat} (h : ts.length = (small M n).length) : (lgPs l n x M ts).map (·.2) = pieces M n := by
  unfold lgPs pieces
  rw [List.map_cons]
  congr 1
  have : ∀ (a : List (Nat × Nat)) (b : List Nat), b.length = a.length → (List.zipWith (fun (y : Nat × Nat) t => (lsF l n x y.1 y.2 t, y.1 ^ y.2)) a b).map (·.2) = a.map fun y => y.1 ^ y.2 := fun a => by
    induction a with
    | nil => intro b _; rfl
    | cons y a ih =>
      intro b hb
      cases b with
      | nil => cases hb
      | cons t b => rw [List.zipWith_cons_cons, List.map_cons, List.map_cons, ih b (by simpa using hb)]
  exact this _ _ h
theorem LgOk.uniq {l : Bool} {n : Nat} {x : Int} {M : Nat} {L L' : Nat} {S S' : List Int} (hM : 1 ≤ M) (h : LgOk l n x M L S) (g : LgOk l n x M L' S') : L = L' ∧ S = S' := by
  obtain ⟨⟨ts, t1, t2, t3⟩, hl, hi⟩ := h
  obtain ⟨⟨us, u1, u2, u3⟩, gl, gi⟩ := g
  have e := t1.uniq u1
  subst e
  refine ⟨t2.trans u2.symm, List.ext_getElem (by rw [hl, gl]) fun k h1 h2 => ?_⟩
  have hk : k < n - 1 := by omega
  have e1 : ((lgPs l n x M ts).map fun y => (y.1.getD k 0, y.2)).map (·.2) = pieces M n := by rw [List.map_map]; exact lgPs_snd t1.1
  have c := pieces_cop n hM
  have pp := pieces_prod n hM
  rw [← e1] at c pp
  have a1 := hi _ (List.getElem_mem h1)
  have a2 := gi _ (List.getElem_mem h2)
  have b1 := t3 k hk
  have b2 := u3 k hk
  rw [List.getD_eq_getElem?_getD, List.getElem?_eq_getElem h1] at b1
  rw [List.getD_eq_getElem?_getD, List.getElem?_eq_getElem h2] at b2
  exact lvs_uniq c b1 b2 a1.1 (by rw [pp]; exact a1.2) a2.1 (by rw [pp]; exact a2.2)
theorem lp_cg {d : Nat} {xs ys : List Int} {L : Nat} (h : ∀ N, Per d xs N ↔ Per d ys N) (k : IsLp d ys L) : IsLp d xs L := ⟨k.1, fun N => (h N).trans (k.2 N)⟩
theorem mem_dvd_prod : ∀ {m : List Nat} {a : Nat}, a ∈ m → a ∣ prodN m
  | b :: m, a, h => by
    rw [prodN_cons]
    rcases List.mem_cons.mp h with rfl | h
    · exact Nat.dvd_mul_right _ _
    · exact Nat.dvd_mul_left_of_dvd (mem_dvd_prod h) _
/-- each piece has its length -/
theorem lg_piece {l : Bool} {n : Nat} (n1 : 1 ≤ n) (hn : n ≤ 6) {x : Int} {M : Nat} (hM : 1 ≤ M) {ts : List Nat} (t1 : TsOk l n x M ts) (i d L : Nat) (hd : (pieces M n)[i]? = some d) (hL : (lgLs n x M ts)[i]? = some L) :
    ∃ u, (lgPs l n x M ts)[i]? = some (u, d) ∧ u.length = n - 1 ∧ IsLp d (cfL l x u) L ∧ (∀ s : List Int, s.length = n - 1 → Per d (cfL l x s) (L : Int)) ∧ ∀ z : Nat, Nat.Coprime d z → Nat.Coprime L z := by
  cases i with
  | zero =>
    have e1 : great M n = d := Option.some.inj hd
    have e2 : lgG n x (great M n) = L := Option.some.inj hL
    subst e1 e2
    have g1 := great_pos (n := M) n hM
    obtain ⟨a, b⟩ := great_per g1 (l := l) n1 hn (fun j j1 j2 => great_cop hM (by omega) j1 j2) (x := x)
    refine ⟨_, rfl, swS_len .., a, b, fun z hz => ?_⟩
    unfold lgG
    split
    · exact hz
    · exact Nat.Coprime.coprime_dvd_left (Nat.div_dvd_of_dvd (gcdL_dvd _ _)) hz
  | succ i =>
    have hd2 : ((small M n).map fun x => x.1 ^ x.2)[i]? = some d := hd
    rw [List.getElem?_map] at hd2
    cases hx : (small M n)[i]? with
    | none => rw [hx] at hd2; cases hd2
    | some y =>
      rw [hx] at hd2
      have ed : y.1 ^ y.2 = d := Option.some.inj hd2
      have hi : i < (small M n).length := (List.getElem?_eq_some_iff.mp hx).1
      have ht : ts[i]? = some (ts[i]'(by rw [t1.1]; exact hi)) := List.getElem?_eq_getElem _
      obtain ⟨t, et⟩ : ∃ t, ts[i]'(by rw [t1.1]; exact hi) = t := ⟨_, rfl⟩
      rw [et] at ht
      have hL2 : (List.zipWith (fun (y : Nat × Nat) t => y.1 ^ t) (small M n) ts)[i]? = some L := hL
      rw [List.getElem?_zipWith, hx, ht] at hL2
      have eL : y.1 ^ t = L := Option.some.inj hL2
      subst ed eL
      obtain ⟨m1, _, m3, m4⟩ := small_mem (List.mem_of_getElem? hx)
      have hT := t1.2 i y t hx ht
      refine ⟨lsF l n x y.1 y.2 t, ?_, lsF_len .., lsF_lp m1 n1 hn hT, hT.1, fun z hz => Nat.Coprime.pow_left _ ?_⟩
      · show (List.zipWith (fun (y : Nat × Nat) t => (lsF l n x y.1 y.2 t, y.1 ^ y.2)) (small M n) ts)[i]? = _
        rw [List.getElem?_zipWith, hx, ht]
      · have : y.1 ∣ y.1 ^ y.2 := by
          obtain ⟨q, e1, e2⟩ := vl_spec (pr_two m1).1 hM
          rw [m4]
          cases hv : vl y.1 M with
          | zero =>
            rw [hv, Nat.pow_zero, Nat.one_mul] at e1
            rw [← e1] at e2
            exact absurd m3 e2
          | succ v => exact ⟨y.1 ^ v, by rw [Nat.pow_succ, Nat.mul_comm]⟩
        exact Nat.Coprime.coprime_dvd_left this hz
theorem lgLs_len {n : Nat} {x : Int} {M : Nat} {ts : List Nat} (h : ts.length = (small M n).length) : (lgLs n x M ts).length = (pieces M n).length := by
  unfold lgLs pieces
  rw [List.length_cons, List.length_cons, List.length_zipWith, List.length_map]
  omega
/-- the longest length is told -/
theorem LgOk.lp {l : Bool} {n : Nat} (n1 : 1 ≤ n) (hn : n ≤ 6) {x : Int} {M : Nat} (hM : 1 ≤ M) {L : Nat} {S : List Int} (h : LgOk l n x M L S) : IsLp M (cfL l x S) L ∧ ∀ s : List Int, s.length = n - 1 → Per M (cfL l x s) (L : Int) := by
  obtain ⟨⟨ts, t1, t2, t3⟩, hl, hi⟩ := h
  have pl := lg_piece (l := l) n1 hn hM t1
  have hlen := (lgLs_len (x := x) t1.1).symm
  have pp := pieces_prod n hM
  have pc := pieces_cop n hM
  constructor
  · have fin := lp_pieces (cs := cfL l x S) hlen pc (cop_sub hlen (fun i a b ha hb z hz => (pl i a b ha hb).choose_spec.2.2.2.2 z hz) pc) fun i d L' hd hL' => by
      obtain ⟨u, hu, ul, ulp, _, _⟩ := pl i d L' hd hL'
      refine lp_cg (fun N => per_cfL_cg (by rw [hl, ul]) fun k => ?_) ulp
      by_cases hk : k < n - 1
      · exact t3 k hk _ (List.mem_map.mpr ⟨_, List.mem_of_getElem? hu, rfl⟩)
      · rw [List.getD_eq_getElem?_getD, List.getD_eq_getElem?_getD, List.getElem?_eq_none (by omega), List.getElem?_eq_none (by omega), Int.sub_self]
        exact Int.dvd_zero _
    rw [pp, ← t2] at fin
    exact fin
  · intro s hs
    rw [← pp]
    refine (per_prod pc).mpr fun d hd => ?_
    obtain ⟨i, hi2, rfl⟩ := List.mem_iff_getElem.mp hd
    have hi3 : i < (lgLs n x M ts).length := by rw [← hlen]; exact hi2
    obtain ⟨u, _, _, _, hall, _⟩ := pl i _ _ (List.getElem?_eq_getElem hi2) (List.getElem?_eq_getElem hi3)
    refine (hall s hs).dvd (Int.ofNat_dvd.mpr ?_)
    rw [t2]
    exact mem_dvd_prod (List.getElem_mem hi3)
end My

set_option Elab.async false
set_option linter.all false
set_option maxRecDepth 100000
set_option maxHeartbeats 4000000
namespace G
/-- the carry of r and g -/
def cy (m r g : Int) : Int := if m ≤ r + g then 1 else 0
/-- a beat -/
def bt (l : Bool) (m : Int) : List Int → Int → List Int × List Int
  | [], _ => ([], [])
  | r :: rs, g => ((r + g - cy m r g * m) :: (bt l m rs (if l then r else r + g - cy m r g * m)).1, cy m r g :: (bt l m rs (if l then r else r + g - cy m r g * m)).2)
/-- .. back -/
def bw (r g : Int) : Int := if r < g then 1 else 0
def bk (l : Bool) (m : Int) : List Int → Int → List Int × List Int
  | [], _ => ([], [])
  | r :: rs, g => ((r - g + bw r g * m) :: (bk l m rs (if l then r - g + bw r g * m else r)).1, bw r g :: (bk l m rs (if l then r - g + bw r g * m else r)).2)
theorem cy_in {m r g : Int} (h0 : 0 ≤ r) (h1 : r < m) (h2 : 0 ≤ g) (h3 : g < m) : 0 ≤ r + g - cy m r g * m ∧ r + g - cy m r g * m < m := by
  unfold cy
  split <;> omega
theorem bk_bt (l : Bool) {m : Int} : ∀ {rs : List Int} {g : Int}, InR m rs → 0 ≤ g → g < m → bk l m (bt l m rs g).1 g = (rs, (bt l m rs g).2)
  | [], _, _, _, _ => rfl
  | r :: rs, g, h, h0, h1 => by
    have hr := h.head
    have c := cy_in hr.1 hr.2 h0 h1
    have ih := bk_bt l (rs := rs) (g := if l then r else r + g - cy m r g * m) h.tail (by split; exact hr.1; exact c.1) (by split; exact hr.2; exact c.2)
    have e1 : bw (r + g - cy m r g * m) g = cy m r g := by
      unfold bw cy
      split <;> split <;> omega
    have e2 : r + g - cy m r g * m - g + cy m r g * m = r := by omega
    simp only [bt, bk, e1, e2, ih]
/-- what is handed to the stage i -/
def gv (l : Bool) (rs fs : List Int) (g : Int) : Nat → Int
  | 0 => g
  | i + 1 => if l then rs.getD i 0 else fs.getD i 0
end G

set_option Elab.async false
set_option linter.all false
set_option maxRecDepth 100000
set_option maxHeartbeats 4000000
namespace G
end G

set_option Elab.async false
set_option linter.all false
set_option maxRecDepth 100000
set_option maxHeartbeats 4000000
namespace My
open G (InR bt cy cy_in)
/-- running sums over all integers -/
def sN (f : Int → Int) : Nat → Int
  | 0 => 0
  | n + 1 => sN f n + f ((n : Int) + 1)
def sM (f : Int → Int) : Nat → Int
  | 0 => 0
  | n + 1 => sM f n - f (-(n : Int))
def SmZ (f : Int → Int) : Int → Int
  | .ofNat n => sN f n
  | .negSucc n => sM f (n + 1)
theorem SmZ_up (f : Int → Int) : ∀ n : Int, SmZ f (n + 1) = SmZ f n + f (n + 1)
  | .ofNat n => rfl
  | .negSucc 0 => by
    show sN f 0 = sM f 1 + f (Int.negSucc 0 + 1)
    show (0 : Int) = (0 - f (-((0 : Nat) : Int))) + f (Int.negSucc 0 + 1)
    rw [show Int.negSucc 0 + 1 = 0 from rfl, show (-((0 : Nat) : Int)) = 0 from rfl]
    omega
  | .negSucc (k + 1) => by
    rw [show Int.negSucc (k + 1) + 1 = Int.negSucc k by omega]
    show sM f (k + 1) = sM f (k + 1) - f (-((k + 1 : Nat) : Int)) + f (Int.negSucc k)
    rw [show (-((k + 1 : Nat) : Int)) = Int.negSucc k by omega]
    omega
/-- the rests of the stages, no remainder taken; inp: what the first stage is handed -/
def Uf (l : Bool) (inp : Int → Int) : List Int → List (Int → Int)
  | [] => []
  | s :: ss => (fun n => s + SmZ inp n) :: Uf l (fun n => s + SmZ inp (if l then n - 1 else n)) ss
/-- the rests behind beat n -/
def Rn (l : Bool) (m : Int) (inp : Int → Int) (ss : List Int) (n : Int) : List Int := (Uf l inp ss).map fun u => u n % m
/-- each q-th value, from any place on, is a sum -/
def DgQ (q : Int) (d : Nat) (f : Int → Int) : Prop := ∀ a : Int, Dg d (fun x => f (q * x + a))
theorem Dg.congr {n : Nat} {f g : Int → Int} (e : ∀ x, f x = g x) (h : Dg n f) : Dg n g := by
  have : f = g := funext e
  rwa [← this]
/-- k values behind n -/
def sJ (f : Int → Int) (n : Int) : Nat → Int
  | 0 => 0
  | k + 1 => sJ f n k + f (n + 1 + k)
theorem SmZ_more (f : Int → Int) (n : Int) : ∀ k : Nat, SmZ f (n + k) - SmZ f n = sJ f n k
  | 0 => by
    show SmZ f (n + ((0 : Nat) : Int)) - SmZ f n = 0
    rw [Int.natCast_zero, Int.add_zero, Int.sub_self]
  | k + 1 => by
    show SmZ f (n + ((k + 1 : Nat) : Int)) - SmZ f n = sJ f n k + f (n + 1 + k)
    rw [← SmZ_more f n k, show n + ((k + 1 : Nat) : Int) = n + k + 1 by omega, SmZ_up, show n + (k : Int) + 1 = n + 1 + k by omega]
    omega
theorem DgQ.sJ {q : Int} {d : Nat} {f : Int → Int} (h : DgQ q d f) (a : Int) : ∀ k : Nat, Dg d (fun x => My.sJ f (q * x + a) k)
  | 0 => Dg.zero d fun _ => rfl
  | k + 1 => ((h.sJ a k).add d (h (a + 1 + k))).congr fun x => by
    show My.sJ f (q * x + a) k + f (q * x + (a + 1 + k)) = My.sJ f (q * x + a) k + f (q * x + a + 1 + k)
    rw [show q * x + (a + 1 + (k : Int)) = q * x + a + 1 + k by omega]
theorem DgQ.sum {q : Nat} {d : Nat} {f : Int → Int} (h : DgQ q d f) (s : Int) : DgQ q (d + 1) (fun n => s + SmZ f n) := fun a => by
  show Dg d (fun x => (s + SmZ f ((q : Int) * (x + 1) + a)) - (s + SmZ f ((q : Int) * x + a)))
  refine (h.sJ a q).congr fun x => ?_
  rw [← SmZ_more, show (q : Int) * (x + 1) + a = (q : Int) * x + a + q by rw [Int.mul_add]; omega]
  omega
/-- the input of each beat -/
def inpF (cs : List Int) (n : Int) : Int := cs.getD ((n - 1) % (cs.length : Int)).toNat 0
end My

set_option Elab.async false
set_option linter.all false
set_option maxRecDepth 100000
set_option maxHeartbeats 4000000
namespace My
open G (InR bt bk bk_bt)
end My

set_option Elab.async false
set_option linter.all false
set_option maxRecDepth 100000
set_option maxHeartbeats 4000000
namespace My
open G (InR bt)
/-- the coefficients of one stage at one place of the cycle -/
def cfs (l : Bool) (m : Int) (c st : List Int) (a k : Nat) : List Int := (dv (row (fun x : Int => (Rn l m (inpF c) st (c.length * x + a)).getD k 0) (k + 2))).map (· % m)
end My

set_option Elab.async false
set_option linter.all false
set_option maxRecDepth 100000
set_option maxHeartbeats 4000000
namespace My
open G (InR bt)
section
variable {l : Bool} {m : Int} {c st : List Int}
end
end My

set_option Elab.async false
set_option linter.all false
set_option maxRecDepth 100000
set_option maxHeartbeats 0
namespace My
open PySem PySem.Spec PyProof.Rows L2 G

local macro_rules | `(tactic| walk_at "ws") => `(tactic| first
  | with_reducible refine s_set ?_
  | with_reducible refine s_if ?_
  | with_reducible refine s_ret ?_
  | with_reducible refine s_retN ?_
  | with_reducible refine s_drop ?_
  | with_reducible refine s_next ?_
  | with_reducible refine s_par ?_
  | with_reducible refine s_par3 ?_
  | refine s_fldN (by assumption) (by assumption) ?_
  | with_reducible refine s_asg ?_
  | refine s_raise1 ?_
  | refine s_raise2 ?_)
local macro_rules | `(tactic| walk_at "we") => `(tactic| first
  | ((with_reducible refine w_v (d := ?k2) ?k1 ?_); (case k1 => exact rfl))
  | ((with_reducible refine w_o (j := ?k2) ?k1 ?_); (case k1 => exact rfl))
  | ((guard_target = G.WE _ _ (tFld _ _ _) _ _ _ _); (refine w_fldN (by assumption) (by assumption) ?_))
  | ((guard_target = G.WE _ _ (tC (.ref _)) _ _ _ _); (refine w_ctup (by assumption) ?_))
  | with_reducible refine w_ci ?_
  | with_reducible refine w_op ?_
  | with_reducible refine w_call ?_
  | with_reducible refine w_cty ?_
  | with_reducible refine w_cb ?_
  | with_reducible refine w_cn ?_
  | with_reducible refine w_cs ?_
  | with_reducible refine w_cr ?_
  | with_reducible refine w_un ?_
  | with_reducible refine w_andV ?_
  | with_reducible refine w_orV ?_
  | with_reducible refine w_notV ?_
  | with_reducible refine w_ife ?_
  | with_reducible refine w_chain ?_
  | with_reducible refine w_tup ?_
  | with_reducible refine w_revL ?_
  | with_reducible refine w_slL ?_
  | with_reducible refine w_slT ?_
  | (guard_target = G.WE _ _ (tCall (lift _ (sp_draw _)) _ _ _) _ _ _ _; refine w_fn10 0 ?_)
  | (guard_target = G.WE _ _ (tCall (lift _ (sp_pick _)) _ _ _) _ _ _ _; refine w_fn10 0 ?_)
  | (guard_target = G.WE _ _ (tCall (lift _ (sp_l_right _)) _ _ _) _ _ _ _; refine w_fn10 0 ?_)
  | (guard_target = G.WE _ _ (tCall (lift _ (sp_l_bent _)) _ _ _) _ _ _ _; refine w_fn10 0 ?_)
  | with_reducible refine w_fn0 ?_
  | with_reducible refine w_fnS0 ?_
  | with_reducible refine w_meth0 ?_
  | with_reducible refine w_make0 ?_
  | with_reducible refine w_bmL ?_
  | with_reducible refine w_bmL0 ?_
  | with_reducible refine w_lst ?_
  | with_reducible refine w_callKX ?_
  | with_reducible refine w_makeKX ?_
  | with_reducible refine w_makeX ?_
  | with_reducible refine w_smethX ?_
  | with_reducible refine w_smethK ?_
  | with_reducible refine w_smethK0 ?_
  | with_reducible refine w_fnV ?_
  | with_reducible refine w_fnX ?_
  | with_reducible refine w_fnSX ?_
  | with_reducible refine w_methX ?_
  | with_reducible refine w_callX ?_
  | with_reducible refine w_methK ?_
  | with_reducible refine w_callK2 ?_
  | with_reducible refine w_callI ?_
  | with_reducible refine w_prop ?_
  | with_reducible refine w_dic0 ?_
  | with_reducible refine w_jcons ?_
  | with_reducible refine w_jnil ?_
  | with_reducible refine w_join ?_
  | with_reducible refine w_split ?_
  | with_reducible refine w_smeth ?_
  | with_reducible refine w_fnKr ?_)
local macro_rules | `(tactic| walk_at "wt") => `(tactic| first
  | with_reducible refine w_test ?_
  | with_reducible refine w_B ?_
  | with_reducible refine w_and ?_
  | with_reducible refine w_or ?_
  | with_reducible refine w_not ?_)
local macro_rules | `(tactic| walk_at "wa") => `(tactic| first
  | with_reducible refine w_cons ?_
  | with_reducible refine w_nil ?_
  | with_reducible refine w_star ?_)
local macro_rules | `(tactic| walk_at "wr") => `(tactic| first
  | with_reducible refine w_add ?_
  | with_reducible refine w_sub ?_
  | with_reducible refine w_lt ?_
  | with_reducible refine w_le ?_
  | with_reducible refine w_gt ?_
  | with_reducible refine w_ge ?_
  | with_reducible refine w_eqI ?_
  | with_reducible refine w_neI ?_
  | with_reducible refine w_isN ?_
  | with_reducible refine w_notN ?_
  | ((with_reducible refine w_mod ?k1 ?_); (case k1 => first | decide | omega))
  | ((with_reducible refine w_mul ?k1 ?_); (case k1 => first | exact Or.inl ⟨by decide, by decide⟩ | exact Or.inr ⟨by decide, by decide⟩ | exact Or.inl ⟨by omega, by omega⟩ | exact Or.inr ⟨by omega, by omega⟩))
  | ((with_reducible refine w_pow ?k1 ?_); (case k1 => first | exact ⟨by decide, by decide, by decide⟩ | exact ⟨by omega, by omega, by omega⟩))
  | ((with_reducible refine w_fdivW ?k1 ?_); (case k1 => exact divW_ok (by first | decide | omega) (by first | decide | omega)))
  | ((with_reducible refine w_mulW ?k1 ?_); (case k1 => exact mulW_ok ⟨by omega, by omega⟩ ⟨by omega, by omega⟩))
  | ((guard_target = G.WR _ (rIxT _) _ _ _ _); (refine w_ixT (by first | exact atI_0 | exact atI_1 | exact atI_2 | exact atI_3 | exact atI_4 | exact atI_5 | exact atI_6 | assumption) ?_))
  | ((guard_target = G.WR _ (rIxL _) _ _ _ _); (refine w_ixL (by first | exact lstD_v | exact lstD_o rfl) (by first | exact atI_0 | exact atI_1 | exact atI_2 | exact atI_3 | exact atI_4 | exact atI_5 | exact atI_6 | assumption) ?_)))
local macro_rules | `(tactic| walk_at "wc") => `(tactic| first
  | with_reducible refine c_int ?_
  | with_reducible refine c_intB ?_
  | with_reducible refine c_abs ?_
  | ((guard_target = G.WC _ (G.rLen _) _ _ _); (refine c_lenL (by first | exact lstD_v | exact lstD_o rfl) ?_))
  | with_reducible refine c_lenT ?_
  | ((guard_target = G.WC _ (G.rListOf _) _ _ _); (refine c_listL (by first | exact lstD_v | exact lstD_o rfl) ?_))
  | with_reducible refine c_listT ?_
  | ((guard_target = G.WC _ (G.rTupOf _) _ _ _); (refine c_tupL (by first | exact lstD_v | exact lstD_o rfl) ?_))
  | with_reducible refine c_tupT ?_)
local macro_rules | `(tactic| walk_at "e") => `(tactic| first
  | (guard_target = G.WE _ _ _ _ _ _ _; walk_at "we")
  | (guard_target = G.WS _ _ _ _ _ _; walk_at "ws")
  | (guard_target = G.WA _ _ _ _ _ _ _; walk_at "wa")
  | (guard_target = G.WR _ _ _ _ _ _; walk_at "wr")
  | (guard_target = G.WT _ _ _ _ _ _ _; walk_at "wt")
  | (guard_target = G.WC _ _ _ _ _; walk_at "wc")
  | (guard_target = G.WU _ _ _ _ _; with_reducible refine w_neg ?_)
  | (guard_target = G.WG _ _ _ _ _ _ _; first | with_reducible refine g_name ?_ | with_reducible refine g_setL ?_ | refine g_pair rfl ?_ | refine g_trip rfl ?_ | refine g_quad rfl ?_)
  | (guard_target = G.WO _ _ _ _ _ _ _; first | with_reducible refine o_none ?_ | with_reducible refine o_some ?_)
  | with_reducible refine tt_ ?_
  | with_reducible refine ff_ ?_
  | with_reducible refine ntt_ ?_
  | with_reducible refine nff_ ?_
  | ((guard_target = ((!G.isNon _) = true → _) ∧ _); (first | refine bnF rfl ?_ | refine bnT rfl ?_))
  | ((guard_target = (G.isNon _ = true → _) ∧ _); (first | refine bF rfl ?_ | refine bT rfl ?_))
  | (guard_target = Exists _; first
    | refine ⟨_, rfl, Nat.le_of_ble_eq_true rfl, Nat.le_of_ble_eq_true rfl, ?_⟩
    | refine ⟨_, _, _, _, _, rfl, rfl, rfl, rfl, rfl, ?_⟩
    | refine ⟨_, _, _, rfl, rfl, rfl, Nat.le_of_ble_eq_true rfl, ?_⟩
    | refine ⟨_, _, rfl, rfl, rfl, ?_⟩
    | refine ⟨_, _, _, rfl, ?_⟩
    | refine ⟨_, _, (by first | exact insD_v | exact insD_o rfl), rfl, ?_⟩
    | refine ⟨_, _, rfl, ?_⟩
    | refine ⟨_, rfl, rfl, ?_⟩
    | refine ⟨_, rfl, Nat.le_of_ble_eq_true rfl, ?_⟩
    | refine ⟨_, (by first | exact lstD_v | exact lstD_o rfl), ?_⟩
    | refine ⟨_, rfl, ?_⟩))
local macro_rules | `(tactic| walk_at "o") => `(tactic| first | with_reducible refine w_lstO ?_ | walk_at "e")
local macro_rules | `(tactic| walk_at "g") => `(tactic| first | walk_at "e" | with_reducible refine s_seq ?_)
local macro_rules | `(tactic| walk_at "n") => `(tactic| (with_reducible refine s_seq ?_); (repeat walk_at "e"))

def sp_is_integer (K : PySem.W.Frag) : SpD := fun ts O P _ => ∃ d b, ts = [.v d] ∧ O = [] ∧ IntQ K d b ∧ P (.v (.bl b)) []
theorem sp_is_integer_len {K : PySem.W.Frag} {ts O P X} (h : sp_is_integer K ts O P X) : ts.length = 1 := by
  obtain ⟨d, b, rfl, _⟩ := h
  rfl
theorem u_is_integer {K : PySem.W.Frag} {P : PT'} {X : XX} {d : D} {b : Bool} (h : IntQ K d b) (k : P (.v (.bl b)) []) : sp_is_integer K [.v d] [] P X := ⟨d, b, rfl, rfl, h, k⟩
/-- whether a value is an integer between two bounds -/
def BtwQ (K : PySem.W.Frag) (d : D) (lo hi : Int) (b : Bool) : Prop := (∃ n, d = .int n ∧ b = (decide (lo ≤ n) && decide (n ≤ hi))) ∨ (IntQ K d false ∧ b = false)
theorem btw_int {K : PySem.W.Frag} {n lo hi : Int} (h1 : lo ≤ n) (h2 : n ≤ hi) : BtwQ K (.int n) lo hi true := .inl ⟨n, rfl, by rw [decide_eq_true h1, decide_eq_true h2] <;> rfl⟩
def sp_is_between (K : PySem.W.Frag) : SpD := fun ts O P _ => ∃ d lo hi b, ts = [.v d, .v (.int lo), .v (.int hi)] ∧ O = [] ∧ BtwQ K d lo hi b ∧ P (.v (.bl b)) []
theorem sp_is_between_len {K : PySem.W.Frag} {ts O P X} (h : sp_is_between K ts O P X) : ts.length = 3 := by
  obtain ⟨d, lo, hi, b, rfl, _⟩ := h
  rfl
theorem u_is_between {K : PySem.W.Frag} {P : PT'} {X : XX} {d : D} {lo hi : Int} {b : Bool} (h : BtwQ K d lo hi b) (k : P (.v (.bl b)) []) : sp_is_between K [.v d, .v (.int lo), .v (.int hi)] [] P X := ⟨d, lo, hi, b, rfl, rfl, h, k⟩
theorem u_between {K : PySem.W.Frag} {P : PT'} {X : XX} {n lo hi : Int} (h1 : lo ≤ n) (h2 : n ≤ hi) (k : P (.v (.bl true)) []) : sp_is_between K [.v (.int n), .v (.int lo), .v (.int hi)] [] P X := u_is_between (btw_int h1 h2) k
def sp_fits_modulus (K : PySem.W.Frag) : SpD := fun ts O P _ => ∃ d b, ts = [.v d] ∧ O = [] ∧ BtwQ K d 2 1000000000000000000000000000000 b ∧ P (.v (.bl b)) []
theorem sp_fits_modulus_len {K : PySem.W.Frag} {ts O P X} (h : sp_fits_modulus K ts O P X) : ts.length = 1 := by
  obtain ⟨d, b, rfl, _⟩ := h
  rfl
theorem u_fits_modulus {K : PySem.W.Frag} {P : PT'} {X : XX} {d : D} {b : Bool} (h : BtwQ K d 2 1000000000000000000000000000000 b) (k : P (.v (.bl b)) []) : sp_fits_modulus K [.v d] [] P X := ⟨d, b, rfl, rfl, h, k⟩
def sp_binomial (K : PySem.W.Frag) : SpD := fun ts O P _ => ∃ (n : Int) (j : Nat), ts = [.v (.int n), .v (.int j)] ∧ O = [] ∧ j ≤ 12 ∧ n.natAbs + 12 < 2 ^ 230 ∧ P (.v (.int (bin n j))) []
theorem sp_binomial_len {K : PySem.W.Frag} {ts O P X} (h : sp_binomial K ts O P X) : ts.length = 2 := by
  obtain ⟨n, j, rfl, _⟩ := h
  rfl
def sp_power_of (K : PySem.W.Frag) : SpD := fun ts O P _ => ∃ (b t : Nat), ts = [.v (.int b), .v (.int t)] ∧ O = [] ∧ b < 2 ^ 64 ∧ t ≤ 1000 ∧ P (.v (.int (b ^ t : Nat))) []
theorem sp_power_of_len {K : PySem.W.Frag} {ts O P X} (h : sp_power_of K ts O P X) : ts.length = 2 := by
  obtain ⟨b, t, rfl, _⟩ := h
  rfl
def sp_times_in (K : PySem.W.Frag) : SpD := fun ts O P _ => ∃ (n p : Nat), ts = [.v (.int n), .v (.int p)] ∧ O = [] ∧ 1 ≤ n ∧ 2 ≤ p ∧ p < 2 ^ 64 ∧ P (.v (.int (vl p n))) []
theorem sp_times_in_len {K : PySem.W.Frag} {ts O P X} (h : sp_times_in K ts O P X) : ts.length = 2 := by
  obtain ⟨n, p, rfl, _⟩ := h
  rfl
def smD (x : Nat × Nat) : D := .tup [.int x.1, .int x.2]
def sp_small_in (K : PySem.W.Frag) : SpD := fun ts O P _ => ∃ (n m : Nat), ts = [.v (.int n), .v (.int m)] ∧ O = [] ∧ 1 ≤ n ∧ n < 2 ^ 200 ∧ P (.v (.lst ((small n m).map smD))) []
theorem sp_small_in_len {K : PySem.W.Frag} {ts O P X} (h : sp_small_in K ts O P X) : ts.length = 2 := by
  obtain ⟨n, m, rfl, _⟩ := h
  rfl
def sp_great_in (K : PySem.W.Frag) : SpD := fun ts O P _ => ∃ (n m : Nat), ts = [.v (.int n), .v (.int m)] ∧ O = [] ∧ 1 ≤ n ∧ n < 2 ^ 200 ∧ P (.v (.int (great n m))) []
theorem sp_great_in_len {K : PySem.W.Frag} {ts O P X} (h : sp_great_in K ts O P X) : ts.length = 2 := by
  obtain ⟨n, m, rfl, _⟩ := h
  rfl
def sp_combined (K : PySem.W.Frag) : SpD := fun ts O P _ => ∃ (a b : Nat), ts = [.v (.int a), .v (.int b)] ∧ O = [] ∧ a < 2 ^ 200 ∧ b < 2 ^ 200 ∧ ∀ s t : Int, (Nat.gcd a b : Int) = s * a + t * b → s.natAbs ≤ b + 1 → t.natAbs ≤ a + 1 → P (.v (.tup [.int (Nat.gcd a b), .int s, .int t])) []
theorem sp_combined_len {K : PySem.W.Frag} {ts O P X} (h : sp_combined K ts O P X) : ts.length = 2 := by
  obtain ⟨a, b, rfl, _⟩ := h
  rfl

def sp_shared_in (K : PySem.W.Frag) : SpD := fun ts O P _ => ∃ (m : Nat) (ns : List Int), ts = [.v (.int m), .v (.lst (nums ns))] ∧ O = [] ∧ 1 ≤ m ∧ m ≤ 1000000000000000000000000000000 ∧ ns.length ≤ 100 ∧ ∀ ms, MulOk m ns ms (gcdL m ns) → P (.v (.tup [.int (gcdL m ns), .tup (nums ms)])) []
theorem sp_shared_in_len {K : PySem.W.Frag} {ts O P X} (h : sp_shared_in K ts O P X) : ts.length = 2 := by
  obtain ⟨m, ns, rfl, _⟩ := h
  rfl
def paD (x : Int × Nat) : D := .tup [.int x.1, .int x.2]
def sp_joined (K : PySem.W.Frag) : SpD := fun ts O P _ => ∃ ps : List (Int × Nat), ts = [.v (.lst (ps.map paD))] ∧ O = [] ∧ (∀ x ∈ ps, 1 ≤ x.2 ∧ x.2 ≤ 1000000000000000000000000000000 ∧ x.1.natAbs < 2 ^ 4000) ∧ Cop (ps.map (·.2)) ∧ ps.length ≤ 20 ∧ ∀ f : Int, Lvs f ps → 0 ≤ f → f < (prodN (ps.map (·.2)) : Nat) → P (.v (.int f)) []
theorem sp_joined_len {K : PySem.W.Frag} {ts O P X} (h : sp_joined K ts O P X) : ts.length = 1 := by
  obtain ⟨ps, rfl, _⟩ := h
  rfl

/-- a chain -/
def chD (C : Addr) (s m : Int) : D := .ins C [("stages", .int s), ("modulus", .int m)]
def sp_ch_init (K : PySem.W.Frag) (C : Addr) : SpD := fun ts O P _ => ∃ s m : Int, ts = [.own 0, .v (.int s), .v (.int m)] ∧ O = [.ins C []] ∧ 1 ≤ s ∧ s ≤ 6 ∧ 2 ≤ m ∧ m ≤ 1000000000000000000000000000000 ∧ P (.v .non) [.ins C [("stages", .int s), ("modulus", .int m)]]
theorem sp_ch_init_len {K : PySem.W.Frag} {C : Addr} {ts O P X} (h : sp_ch_init K C ts O P X) : ts.length = 3 := by
  obtain ⟨s, m, rfl, _⟩ := h
  rfl
theorem sc_is_integer : FnScope ["value"] ["value"] (defScope (top 4)) := ⟨rfl, rfl, rfl, by decide +kernel, rfl, by decide +kernel, by decide +kernel⟩
theorem ok_is_integer {P : Program} {w : World} {K : PySem.W.Frag} {mg : Str → Option Value} {base : Heap} (T : Tx K mg)  : Fn P w K mg base 1 (He.fAd K ("is_integer", none)) ["value"] (sp_is_integer K) := by
  obtain ⟨fd, F⟩ := T.d_is_integer
  refine ⟨fd, F.ok sc_is_integer (lift_len ?_) (fun cdv A outer s H vs Q E hr h => ?_), F.bindsN fun _ _ _ _ _ _ us hl => (match us, hl with | [_], _ => rfl), F.kp, lk_of F⟩
  · intro ts O P X h
    exact sp_is_integer_len h
  · have hu := hr.units
    refine ⟨_, (PSs.nox (pss_one (ps_ret (pe_and (pe_callB (call_isiK K) (by rfl) T.n_isinstance boot_isinstance (pa_cons (pv 0) (pa_cons (pe_bltn (v := .ty "int") (by rfl) T.n_int boot_int rfl) pa_nil))) (pe_one (pe_not (pe_callB (call_isiK K) (by rfl) T.n_isinstance boot_isinstance (pa_cons (pv 0) (pa_cons (pe_bltn (v := .ty "bool") (by rfl) T.n_bool boot_bool rfl) pa_nil))))))))), enter h fun ts O P X h _ => ?_⟩
    try dsimp only [cxOf, Cx.nox, Cx.wish]
    
    obtain ⟨d, b, rfl, rfl, ⟨t, b1, b2, ht, h1, h2, rfl⟩, p⟩ := h
    show WS _ _ _ _ [.v d] _
    repeat walk_at "g"
    refine c_isi ht (.ty _) h1 ?_
    refine ⟨_, rfl, fun e => ?_, fun e => ?_⟩
    · subst e
      repeat walk_at "g"
      refine c_isi ht (.ty _) h2 ?_
      refine ⟨_, rfl, ?_⟩
      exact ⟨rfl, p⟩
    · subst e
      exact ⟨rfl, p⟩
theorem sc_is_between : FnScope ["value", "low", "high"] ["value", "low", "high"] (defScope (top 5)) := ⟨rfl, rfl, rfl, by decide +kernel, rfl, by decide +kernel, by decide +kernel⟩
theorem ok_is_between {P : Program} {w : World} {K : PySem.W.Frag} {mg : Str → Option Value} {base : Heap} (T : Tx K mg) (h_is_integer : Fn P w K mg base 1 (He.fAd K ("is_integer", none)) ["value"] (sp_is_integer K)) : Fn P w K mg base 2 (He.fAd K ("is_between", none)) ["value", "low", "high"] (sp_is_between K) := by
  obtain ⟨_, F_is_integer, b_is_integer, kp_is_integer, lk_is_integer⟩ := h_is_integer
  obtain ⟨fd, F⟩ := T.d_is_between
  refine ⟨fd, F.ok sc_is_between (lift_len ?_) (fun cdv A outer s H vs Q E hr h => ?_), F.bindsN fun _ _ _ _ _ _ us hl => (match us, hl with | [_, _, _], _ => rfl), F.kp, lk_of F⟩
  · intro ts O P X h
    exact sp_is_between_len h
  · have hu := hr.units
    refine ⟨_, (PSs.nox (pss_one (ps_ret (pe_and (pe_call F_is_integer (hr.mono (by decide)) (by rfl) T.g_is_integer kp_is_integer b_is_integer .nil passL (pa_cons (pv 0) pa_nil)) (pe_one (pe_chain op_le op_le (pv 1) (pv 0) (pv 2))))))), enter h fun ts O P X h _ => ?_⟩
    try dsimp only [cxOf, Cx.nox, Cx.wish]
    
    obtain ⟨d, lo, hi, b, rfl, rfl, hb, p⟩ := h
    show WS _ _ _ _ [.v d, .v (.int lo), .v (.int hi)] _
    repeat walk_at "g"
    rcases hb with ⟨n, rfl, rfl⟩ | ⟨hd, rfl⟩
    · refine u_is_integer intQ_int ⟨⟨_, rfl⟩, ?_⟩
      refine ⟨_, rfl, tt_ ?_⟩
      repeat walk_at "g"
      refine br (fun h1 => ?_) (fun h1 => ?_)
      · repeat walk_at "g"
        rw [decide_eq_true h1, Bool.true_and] at p
        exact ⟨rfl, p⟩
      · rw [decide_eq_false h1, Bool.false_and] at p
        exact ⟨rfl, p⟩
    · refine u_is_integer hd ⟨⟨_, rfl⟩, ?_⟩
      refine ⟨_, rfl, ff_ ?_⟩
      exact ⟨rfl, p⟩
theorem sc_fits_modulus : FnScope ["value"] ["value"] (defScope (top 6)) := ⟨rfl, rfl, rfl, by decide +kernel, rfl, by decide +kernel, by decide +kernel⟩
theorem ok_fits_modulus {P : Program} {w : World} {K : PySem.W.Frag} {mg : Str → Option Value} {base : Heap} (T : Tx K mg) (h_is_between : Fn P w K mg base 2 (He.fAd K ("is_between", none)) ["value", "low", "high"] (sp_is_between K)) : Fn P w K mg base 3 (He.fAd K ("fits_modulus", none)) ["value"] (sp_fits_modulus K) := by
  obtain ⟨_, F_is_between, b_is_between, kp_is_between, lk_is_between⟩ := h_is_between
  obtain ⟨fd, F⟩ := T.d_fits_modulus
  obtain ⟨_, T_i_MOST_MODULUS⟩ := T.i_MOST_MODULUS_
  refine ⟨fd, F.ok sc_fits_modulus (lift_len ?_) (fun cdv A outer s H vs Q E hr h => ?_), F.bindsN fun _ _ _ _ _ _ us hl => (match us, hl with | [_], _ => rfl), F.kp, lk_of F⟩
  · intro ts O P X h
    exact sp_fits_modulus_len h
  · have hu := hr.units
    refine ⟨_, (PSs.nox (pss_one (ps_ret (pe_call F_is_between (hr.mono (by decide)) (by rfl) T.g_is_between kp_is_between b_is_between .nil passL (pa_cons (pv 0) (pa_cons pe_int (pa_cons (pe_glob (v := .int 1000000000000000000000000000000) (by rfl) T_i_MOST_MODULUS ⟨_, rfl⟩) pa_nil))))))), enter h fun ts O P X h _ => ?_⟩
    try dsimp only [cxOf, Cx.nox, Cx.wish]
    
    obtain ⟨d, b, rfl, rfl, hb, p⟩ := h
    show WS _ _ _ _ [.v d] _
    repeat walk_at "g"
    refine u_is_between hb ⟨⟨_, rfl⟩, ?_⟩
    exact ⟨rfl, p⟩
theorem sc_law_pen : FnScope ["_law_script"] ["_law_script"] (defScope (top 66)) := ⟨rfl, rfl, rfl, by decide +kernel, rfl, by decide +kernel, by decide +kernel⟩
theorem ok_law_pen {P : Program} {w : World} {K : PySem.W.Frag} {mg : Str → Option Value} {base : Heap} (T : Tx K mg)  : FnRaw P w K mg base 1 (He.fAd K ("_law_pen", none)) ["_law_script"] (penSp K 63) := by
  obtain ⟨fd, F⟩ := T.d_law_pen
  refine ⟨fd, F.ok sc_law_pen ?_ (fun cdv A outer s H vs Q E hr h => ?_), F.bindsN fun _ _ _ _ _ _ us hl => (match us, hl with | [_], _ => rfl), F.kp, lk_of F⟩
  · intro vs H Q E h
    exact penSp_len h
  · have hu := hr.units
    refine ⟨_, (PSs.nox (pss_one (ps_ret (pe_lst (pa_cons (pe_callTy (cr_listK K) (by rfl) T.n_list boot_list (pa_cons (pe_slice (sl_listK K) (pv 0) po_none (po_some pe_int)) pa_nil)) (pa_cons pe_int (pa_cons pe_int pa_nil))))))), ?_⟩
    try dsimp only [cxOf, Cx.nox, Cx.wish]
    
    obtain ⟨a, cs, rfl, hs, q⟩ := h
    refine ⟨.ref a, rfl, 63, rfl, a, _, rfl, hs, fun s0 e0 => ⟨s0, _, rfl, .inl (SqL.of upd_same), fun l e1 => ⟨Nat.le_of_ble_eq_true rfl, fun p e2 => q s0 l p e0 e1 e2⟩⟩⟩
theorem sc_law_draw : FnScope ["_law_pen_here", "_law_many", "_law_digit", "_law_at", "_law_cell", "_law_great", "_law_mixed"] ["_law_pen_here", "_law_many"] (defScope (top 67)) := ⟨rfl, rfl, rfl, by decide +kernel, rfl, by decide +kernel, by decide +kernel⟩
theorem ok_law_draw {P : Program} {w : World} {K : PySem.W.Frag} {mg : Str → Option Value} {base : Heap} (T : Tx K mg)  : Fn P w K mg base 1 (He.fAd K ("_law_draw", none)) ["_law_pen_here", "_law_many"] (sp_draw K) := by
  obtain ⟨fd, F⟩ := T.d_law_draw
  refine ⟨fd, F.ok sc_law_draw (lift_len ?_) (fun cdv A outer s H vs Q E hr h => ?_), F.bindsN fun _ _ _ _ _ _ us hl => (match us, hl with | [_, _], _ => rfl), F.kp, lk_of F⟩
  · intro ts O P X h
    exact sp_draw_len h
  · have hu := hr.units
    refine ⟨_, (PSs.nox (pss_cons (ps_if (pt_cmpR op_gt (pe_ix (ix_listK K) (pv 0) pe_int (fun _ _ => rfl)) pe_int (nomark _))
    (pss_cons (ps_set (i := 2) sc_law_draw.nd rfl (.inl rfl) (pe_op op_mod (pe_callTy call_int1 (by rfl) T.n_int boot_int (pa_cons (pe_ix (ix_listK K) (pv 0) pe_int (fun _ _ => rfl)) pa_nil)) (pv 1)))
    (pss_cons (ps_asg (pe_op op_fdivW (pe_callTy call_int1 (by rfl) T.n_int boot_int (pa_cons (pe_ix (ix_listK K) (pv 0) pe_int (fun _ _ => rfl)) pa_nil)) (pv 1)) (pg_sub (pv 0) pe_int set_list))
    (pss_one (ps_ret (pv 2)))))
    pss_nil)
    (pss_cons (ps_set (i := 3) sc_law_draw.nd rfl (.inl rfl) (pe_ix (ix_listK K) (pv 0) pe_int (fun _ _ => rfl)))
    (pss_cons (ps_asg (pe_op op_add (pv 3) pe_int) (pg_sub (pv 0) pe_int set_list))
    (pss_cons (ps_set (i := 4) sc_law_draw.nd rfl (.inl rfl) (pe_op op_add (pe_op op_mul pe_int (pv 3)) pe_int))
    (pss_cons (ps_if (pt_cmpR (op_neDK K hu) (pe_ix (ix_listK K) (pv 0) pe_int (fun _ _ => rfl)) (pe_lst pa_nil) (nomark _))
    (pss_one (ps_set (i := 4) sc_law_draw.nd rfl (.inl rfl) (pe_ix (ix_listK K) (pe_ix (ix_listK K) (pv 0) pe_int (fun _ _ => rfl)) (pe_op op_mod (pe_callTy call_int1 (by rfl) T.n_int boot_int (pa_cons (pv 3) pa_nil)) (pe_callB (cr_lenK K) (by rfl) T.n_len boot_len (pa_cons (pe_ix (ix_listK K) (pv 0) pe_int (fun _ _ => rfl)) pa_nil))) (fun _ _ => rfl))))
    pss_nil)
    (pss_cons (ps_if (PW.pt (pw_and (pt_cmpR op_lt (pv 3) (pe_callB (cr_lenK K) (by rfl) T.n_len boot_len (pa_cons (pe_ix (ix_listK K) (pv 0) pe_int (fun _ _ => rfl)) pa_nil)) (nomark _)) (pw_and1 (pt_cmpR op_ge (pe_callB call_abs (by rfl) T.n_abs boot_abs (pa_cons (pv 4) pa_nil)) (pe_op op_pow pe_int pe_int) (nomark _)))))
    (pss_cons (ps_set (i := 5) sc_law_draw.nd rfl (.inl rfl) (pe_op op_add (pe_op op_mul pe_int (pe_op op_sub (pe_callB call_abs (by rfl) T.n_abs boot_abs (pa_cons (pv 4) pa_nil)) (pe_op op_pow pe_int pe_int))) (pe_callTy call_int1 (by rfl) T.n_int boot_int (pa_cons (pe_cmpR op_lt (pv 4) pe_int (nomark _)) pa_nil))))
    (pss_cons (ps_asg (pe_op op_fdivW (pe_callTy call_int1 (by rfl) T.n_int boot_int (pa_cons (pv 5) pa_nil)) (pv 1)) (pg_sub (pv 0) pe_int set_list))
    (pss_one (ps_ret (pe_op op_mod (pe_callTy call_int1 (by rfl) T.n_int boot_int (pa_cons (pv 5) pa_nil)) (pv 1))))))
    pss_nil)
    (pss_cons (ps_set (i := 6) sc_law_draw.nd rfl (.inl rfl) (pe_op op_mod (pe_callTy call_int1 (by rfl) T.n_int boot_int (pa_cons (pe_op op_pow (pe_op op_add (pe_op op_add (pe_op op_mod (pe_callTy call_int1 (by rfl) T.n_int boot_int (pa_cons (pv 4) pa_nil)) pe_int) (pe_op op_mul pe_int (pv 3))) pe_int) pe_int) pa_nil)) pe_int))
    (pss_cons (ps_set (i := 6) sc_law_draw.nd rfl (.inl rfl) (pe_op op_mod (pe_callTy call_int1 (by rfl) T.n_int boot_int (pa_cons (pe_op op_pow (pe_op op_add (pe_op op_add (pe_op op_mulW (pv 6) (pe_op op_add (pe_op op_mul pe_int (pv 3)) pe_int)) (pe_op op_mulW (pe_op op_mul pe_int (pv 3)) (pv 3))) pe_int) pe_int) pa_nil)) pe_int))
    (pss_one (ps_ret (pe_op op_mod (pe_callTy call_int1 (by rfl) T.n_int boot_int (pa_cons (pe_op op_fdivW (pv 6) pe_int) pa_nil)) (pv 1))))))))))))), enter h fun ts O P X h _ => ?_⟩
    try dsimp only [cxOf, Cx.nox, Cx.wish]
    
    obtain ⟨n, p, m, rfl, rfl, hp, hn, h1, h2, k⟩ := h
    obtain ⟨cs, at_, g, rfl, ha, han, hg⟩ := hp
    show WS _ _ _ _ [.own 0, .v (.int m), .no, .no, .no, .no, .no] _
    repeat walk_at "g"
    refine br (fun hgt => ?_) (fun hgt => ?_)
    · repeat walk_at "g"
      exact ⟨rfl, k _ _ ⟨cs, at_, g / m, rfl, ha, by omega, Int.ediv_nonneg hg (by omega)⟩ (Int.emod_nonneg _ (by omega)) (Int.emod_lt_of_pos _ (by omega))⟩
    · repeat walk_at "e"
      walk_at "n"
      walk_at "n"
      walk_at "n"
      refine s_cut (fun ts' O' => ∃ c, ts' = [.own 0, .v (.int m), .no, .v (.int at_), .v (.int c), .no, .no] ∧ O' = [.lst [.lst (nums cs), .int (at_ + 1), .int g]]) ?_ ?_
      · repeat walk_at "g"
        refine w_neD valD_v valD_v pl_numsL pl_nilL ?_
        rw [eqD_nilL]
        refine ⟨_, rfl, nbr (fun hc => ?_) (fun hc => ?_)⟩
        · repeat walk_at "g"
          have hl : (0 : Int) < (nums cs).length := by
            rw [nums_len]
            have := List.length_pos_iff.mpr hc
            omega
          repeat walk_at "g"
          obtain ⟨x, hx, _⟩ := atI_nums (ns := cs) (i := at_ % ((nums cs).length : Int)) (Int.emod_nonneg _ (by omega)) (by rw [← nums_len]; exact Int.emod_lt_of_pos _ hl)
          refine w_ixL lstD_v hx ?_
          exact ⟨_, rfl, rfl⟩
        · repeat walk_at "g"
          exact rfl
      · rintro _ _ ⟨c, rfl, rfl⟩
        refine s_cut (fun ts' O' => ts' = [.own 0, .v (.int m), .no, .v (.int at_), .v (.int c), .no, .no] ∧ O' = [.lst [.lst (nums cs), .int (at_ + 1), .int g]]) ?_ ?_
        · repeat walk_at "e"
          refine br (fun _ => ?_) (fun _ => ff_ ?_)
          · repeat walk_at "e"
            refine br (fun hc => ?_) (fun _ => ?_)
            · repeat walk_at "g"
              have hgr : 0 ≤ 2 * ((if c < 0 then -c else c) - 10 ^ Int.toNat 18) + (if decide (c < 0) = true then 1 else 0) := by
                have e18 : (10 : Int) ^ Int.toNat 18 = 1000000000000000000 := by decide
                rw [e18] at hc ⊢
                split <;> split <;> omega
              exact ⟨rfl, k _ _ ⟨cs, at_ + 1, _, rfl, by omega, by omega, Int.ediv_nonneg hgr (by omega)⟩ (Int.emod_nonneg _ (by omega)) (Int.emod_lt_of_pos _ (by omega))⟩
            · repeat walk_at "e"
              exact ⟨rfl, rfl⟩
          · repeat walk_at "e"
            exact ⟨rfl, rfl⟩
        · rintro _ _ ⟨rfl, rfl⟩
          refine s_cut (fun ts' O' => ∃ x, 0 ≤ x ∧ x < 2147483549 ∧ ts' = [.own 0, .v (.int m), .no, .v (.int at_), .v (.int c), .no, .v (.int x)] ∧ O' = [.lst [.lst (nums cs), .int (at_ + 1), .int g]]) ?_ ?_
          · repeat walk_at "e"
            exact ⟨_, Int.emod_nonneg _ (by decide), Int.emod_lt_of_pos _ (by decide), rfl, rfl⟩
          · rintro _ _ ⟨x, hx0, hx1, rfl, rfl⟩
            have b1 := mulB (x := x) (y := 2 * at_ + 253) hx0 (Int.le_of_lt hx1) (by omega) (show 2 * at_ + 253 ≤ 2000000 + 253 by omega)
            have b2 := mulB (x := 54862 * at_) (y := at_) (by omega) (show 54862 * at_ ≤ 54862 * 1000000 by omega) ha (show at_ ≤ 1000000 by omega)
            refine s_cut (fun ts' O' => ∃ x, 0 ≤ x ∧ x < 2147483497 ∧ ts' = [.own 0, .v (.int m), .no, .v (.int at_), .v (.int c), .no, .v (.int x)] ∧ O' = [.lst [.lst (nums cs), .int (at_ + 1), .int g]]) ?_ ?_
            · repeat walk_at "e"
              exact ⟨_, Int.emod_nonneg _ (by decide), Int.emod_lt_of_pos _ (by decide), rfl, rfl⟩
            · rintro _ _ ⟨y, hy0, hy1, rfl, rfl⟩
              repeat walk_at "e"
              exact ⟨rfl, k _ _ ⟨cs, at_ + 1, g, rfl, by omega, by omega, hg⟩ (Int.emod_nonneg _ (by omega)) (Int.emod_lt_of_pos _ (by omega))⟩
theorem sc_law_pick : FnScope ["_law_pen_here", "_law_some"] ["_law_pen_here", "_law_some"] (defScope (top 68)) := ⟨rfl, rfl, rfl, by decide +kernel, rfl, by decide +kernel, by decide +kernel⟩
theorem ok_law_pick {P : Program} {w : World} {K : PySem.W.Frag} {mg : Str → Option Value} {base : Heap} (T : Tx K mg) (h_law_draw : Fn P w K mg base 1 (He.fAd K ("_law_draw", none)) ["_law_pen_here", "_law_many"] (sp_draw K)) : Fn P w K mg base 2 (He.fAd K ("_law_pick", none)) ["_law_pen_here", "_law_some"] (sp_pick K) := by
  obtain ⟨_, F_law_draw, b_law_draw, kp_law_draw, lk_law_draw⟩ := h_law_draw
  obtain ⟨fd, F⟩ := T.d_law_pick
  refine ⟨fd, F.ok sc_law_pick (lift_len ?_) (fun cdv A outer s H vs Q E hr h => ?_), F.bindsN fun _ _ _ _ _ _ us hl => (match us, hl with | [_, _], _ => rfl), F.kp, lk_of F⟩
  · intro ts O P X h
    exact sp_pick_len h
  · have hu := hr.units
    refine ⟨_, (PSs.nox (pss_one (ps_ret (pe_ix (ix_listK K) (pv 1) (pe_call F_law_draw (hr.mono (by decide)) (by rfl) T.g__law_draw kp_law_draw b_law_draw .nil passL (pa_cons (pv 0) (pa_cons (pe_callB (cr_lenK K) (by rfl) T.n_len boot_len (pa_cons (pv 1) pa_nil)) pa_nil))) (fun _ _ => rfl))))), enter h fun ts O P X h _ => ?_⟩
    try dsimp only [cxOf, Cx.nox, Cx.wish]
    
    obtain ⟨n, p, ds, rfl, rfl, hp, hn, h1, h2, k⟩ := h
    show WS _ _ _ _ [.own 0, .v (.lst ds)] _
    repeat walk_at "g"
    refine u_draw hp hn ?_ ?_ fun p' r hp' h3 h4 => ⟨_, rfl, nno, ?_⟩
    · omega
    · omega
    obtain ⟨d, e1, e2⟩ := atI_pos h3 h4
    refine w_ixL lstD_v e1 ?_
    exact ⟨rfl, k _ _ _ hp' e2⟩
theorem sc_binomial : FnScope ["n", "j", "found", "k"] ["n", "j"] (defScope (top 20)) := ⟨rfl, rfl, rfl, by decide +kernel, rfl, by decide +kernel, by decide +kernel⟩
theorem ok_binomial {P : Program} {w : World} {K : PySem.W.Frag} {mg : Str → Option Value} {base : Heap} (T : Tx K mg)  : Fn P w K mg base 1 (He.fAd K ("binomial", none)) ["n", "j"] (sp_binomial K) := by
  obtain ⟨fd, F⟩ := T.d_binomial
  refine ⟨fd, F.ok sc_binomial (lift_len ?_) (fun cdv A outer s H vs Q E hr h => ?_), F.bindsN fun _ _ _ _ _ _ us hl => (match us, hl with | [_, _], _ => rfl), F.kp, lk_of F⟩
  · intro ts O P X h
    exact sp_binomial_len h
  · have hu := hr.units
    refine ⟨_, (PSs.nox (pss_cons (ps_set (i := 2) sc_binomial.nd rfl (.inl rfl) pe_int)
    (pss_cons (ps_for PassesOwn.never rfl (pi_range1 (by rfl) T.n_range (pa_cons (pv 1) pa_nil)) (pg_name (i := 3) sc_binomial.nd rfl (.inl rfl))
    (pss_one (ps_set (i := 2) sc_binomial.nd rfl (.inl rfl) (pe_op op_fdivW (pe_op op_mulW (pv 2) (pe_op op_sub (pv 0) (pv 3))) (pe_op op_add (pv 3) pe_int)))))
    (pss_one (ps_ret (pv 2)))))), enter h fun ts O P X h _ => ?_⟩
    try dsimp only [cxOf, Cx.nox, Cx.wish]
    
    obtain ⟨n, j, rfl, rfl, hj, hn, p⟩ := h
    show WS _ _ _ _ [.v (.int n), .v (.int j), .no, .no] _
    walk_at "n"
    refine s_seq ?_
    refine s_forE ?_
    refine i_rng1 ?_
    repeat walk_at "e"
    refine ⟨by omega, ?_⟩
    rw [Int.toNat_natCast]
    refine for_R1 (fun i ts' O' => ∃ a : G.T, O' = [] ∧ ts' = [.v (.int n), .v (.int j), .v (.int (bin n i)), a]) ⟨_, rfl, rfl⟩ ?_ ?_
    · rintro i _ _ hi ⟨a, rfl, rfl⟩
      refine g_name ?_
      have hb := bin_bd hn i (by omega)
      repeat walk_at "e"
      refine w_mulW (mul_okP hb (b := 231) (by omega) (by omega)) ?_
      repeat walk_at "e"
      exact ⟨_, rfl, rfl⟩
    · rintro _ _ ⟨a, rfl, rfl⟩
      repeat walk_at "e"
      exact ⟨rfl, p⟩
theorem sc_power_of : FnScope ["number", "times", "found", "turn"] ["number", "times"] (defScope (top 21)) := ⟨rfl, rfl, rfl, by decide +kernel, rfl, by decide +kernel, by decide +kernel⟩
theorem ok_power_of {P : Program} {w : World} {K : PySem.W.Frag} {mg : Str → Option Value} {base : Heap} (T : Tx K mg)  : Fn P w K mg base 1 (He.fAd K ("power_of", none)) ["number", "times"] (sp_power_of K) := by
  obtain ⟨fd, F⟩ := T.d_power_of
  refine ⟨fd, F.ok sc_power_of (lift_len ?_) (fun cdv A outer s H vs Q E hr h => ?_), F.bindsN fun _ _ _ _ _ _ us hl => (match us, hl with | [_, _], _ => rfl), F.kp, lk_of F⟩
  · intro ts O P X h
    exact sp_power_of_len h
  · have hu := hr.units
    refine ⟨_, (PSs.nox (pss_cons (ps_set (i := 2) sc_power_of.nd rfl (.inl rfl) pe_int)
    (pss_cons (ps_for PassesOwn.never rfl (pi_range1 (by rfl) T.n_range (pa_cons (pv 1) pa_nil)) (pg_name (i := 3) sc_power_of.nd rfl (.inl rfl))
    (pss_one (ps_set (i := 2) sc_power_of.nd rfl (.inl rfl) (pe_op op_mulW (pv 2) (pv 0)))))
    (pss_one (ps_ret (pv 2)))))), enter h fun ts O P X h _ => ?_⟩
    try dsimp only [cxOf, Cx.nox, Cx.wish]
    
    obtain ⟨b, t, rfl, rfl, hb, ht, p⟩ := h
    show WS _ _ _ _ [.v (.int b), .v (.int t), .no, .no] _
    walk_at "n"
    refine s_seq ?_
    refine s_forE ?_
    refine i_rng1 ?_
    repeat walk_at "e"
    refine ⟨by omega, ?_⟩
    rw [Int.toNat_natCast]
    refine for_R1 (fun i ts' O' => ∃ a : G.T, O' = [] ∧ ts' = [.v (.int b), .v (.int t), .v (.int (b ^ i : Nat)), a]) ⟨_, rfl, rfl⟩ ?_ ?_
    · rintro i _ _ hi ⟨a, rfl, rfl⟩
      refine g_name ?_
      repeat walk_at "e"
      refine w_mulW (mul_okP (a := 64 * i + 1) (b := 64) (by rw [Int.natAbs_natCast]; exact pow_lt2 hb i) (by omega) (by omega)) ?_
      rw [← Int.natCast_mul, ← Nat.pow_succ]
      exact ⟨_, rfl, rfl⟩
    · rintro _ _ ⟨a, rfl, rfl⟩
      repeat walk_at "e"
      exact ⟨rfl, p⟩
theorem sc_times_in : FnScope ["number", "prime", "found"] ["number", "prime"] (defScope (top 22)) := ⟨rfl, rfl, rfl, by decide +kernel, rfl, by decide +kernel, by decide +kernel⟩
theorem ok_times_in {P : Program} {w : World} {K : PySem.W.Frag} {mg : Str → Option Value} {base : Heap} (T : Tx K mg)  : Fn P w K mg base 1 (He.fAd K ("times_in", none)) ["number", "prime"] (sp_times_in K) := by
  obtain ⟨fd, F⟩ := T.d_times_in
  refine ⟨fd, F.ok sc_times_in (lift_len ?_) (fun cdv A outer s H vs Q E hr h => ?_), F.bindsN fun _ _ _ _ _ _ us hl => (match us, hl with | [_, _], _ => rfl), F.kp, lk_of F⟩
  · intro ts O P X h
    exact sp_times_in_len h
  · have hu := hr.units
    refine ⟨_, (PSs.nox (pss_cons (ps_set (i := 2) sc_times_in.nd rfl (.inl rfl) pe_int)
    (pss_cons (ps_while PassesOwn.never (pt_cmpR op_eq (pe_op op_mod (pv 0) (pv 1)) pe_int (nomark _))
    (pss_one (ps_par (i := 0) (j := 2) rfl sc_times_in.nd rfl rfl (by decide) rfl rfl (pa_cons (pe_op op_fdivW (pv 0) (pv 1)) (pa_cons (pe_op op_add (pv 2) pe_int) pa_nil)) rfl)))
    (pss_one (ps_ret (pv 2)))))), enter h fun ts O P X h _ => ?_⟩
    try dsimp only [cxOf, Cx.nox, Cx.wish]
    
    obtain ⟨n, p', rfl, rfl, hn, hp, hp2, p⟩ := h
    show WS _ _ _ _ [.v (.int n), .v (.int p'), .no] _
    walk_at "n"
    refine s_seq ?_
    refine s_while (fun m ts' O' => ∃ t : Nat, O' = [] ∧ ts' = [.v (.int m), .v (.int p'), .v (.int t)] ∧ n = p' ^ t * m ∧ 1 ≤ m) n ⟨0, rfl, rfl, by simp, hn⟩ ?_
    rintro m _ _ ⟨t, rfl, rfl, he, hm⟩
    repeat walk_at "e"
    refine br (fun h0 => ?_) (fun h0 => ?_)
    · obtain ⟨k, rfl⟩ : p' ∣ m := by
        have := Int.dvd_of_emod_eq_zero h0
        exact Int.natCast_dvd_natCast.mp this
      repeat walk_at "e"
      have hk : 1 ≤ k := by
        rcases Nat.eq_zero_or_pos k with rfl | hk
        · rw [Nat.mul_zero] at hm; omega
        · exact hk
      refine ⟨k, ?_, t + 1, rfl, ?_, ?_, hk⟩
      · have := Nat.mul_le_mul_right k hp
        omega
      · rw [Int.natCast_mul, Int.mul_ediv_cancel_left _ (show (p' : Int) ≠ 0 by omega)]
        exact rfl
      · rw [he, Nat.pow_succ, Nat.mul_assoc]
    · repeat walk_at "e"
      have e := vl_eq hp hn he (fun z => h0 (by rw [← Int.natCast_emod, z]; exact rfl))
      rw [e] at p
      exact ⟨rfl, p⟩
theorem sc_small_in : FnScope ["number", "most", ".0", "prime"] ["number", "most"] (defScope (top 23)) := ⟨rfl, rfl, rfl, by decide +kernel, rfl, by decide +kernel, by decide +kernel⟩
theorem ok_small_in {P : Program} {w : World} {K : PySem.W.Frag} {mg : Str → Option Value} {base : Heap} (T : Tx K mg) (h_times_in : Fn P w K mg base 1 (He.fAd K ("times_in", none)) ["number", "prime"] (sp_times_in K)) : Fn P w K mg base 2 (He.fAd K ("small_in", none)) ["number", "most"] (sp_small_in K) := by
  obtain ⟨_, F_times_in, b_times_in, kp_times_in, lk_times_in⟩ := h_times_in
  obtain ⟨fd, F⟩ := T.d_small_in
  have ct_PRIMES := T.ct_PRIMES
  refine ⟨fd, F.ok sc_small_in (lift_len ?_) (fun cdv A outer s H vs Q E hr h => ?_), F.bindsN fun _ _ _ _ _ _ us hl => (match us, hl with | [_, _], _ => rfl), F.kp, lk_of F⟩
  · intro ts O P X h
    exact sp_small_in_len h
  · have hu := hr.units
    refine ⟨_, (PSs.nox (pss_one (ps_ret (pe_lc (own := [(".0", 2), ("prime", 3)]) rfl sc_small_in.nd (pi_tupK K (pe_glob (v := .ref (He.ga K "PRIMES")) (by rfl) T.g_PRIMES rfl)) (blkOk_by (own := [(".0", 2), ("prime", 3)]) (N := ["number", "most", ".0", "prime"]) (sc := defScope (top 23)) (by decide +kernel)) (fun _ _ _ _ _ => (pg_name (i := 3) sc_small_in.nd rfl (.inl rfl))) (fun _ _ _ _ _ => (pts_one (PW.pt (pw_and (pt_cmpR op_le (pv 3) (pv 1) (nomark _)) (pw_and1 (pt_cmpR op_eq (pe_op op_mod (pv 0) (pv 3)) pe_int (nomark _))))))) (fun _ _ _ _ _ => (pe_tup (pa_cons (pv 3) (pa_cons (pe_call F_times_in (hr.mono (by decide)) (by rfl) T.g_times_in kp_times_in b_times_in .nil passL (pa_cons (pv 0) (pa_cons (pv 3) pa_nil))) pa_nil)))))))), enter h fun ts O P X h _ => ?_⟩
    try dsimp only [cxOf, Cx.nox, Cx.wish]
    
    obtain ⟨n, m, rfl, rfl, hn, hn2, p⟩ := h
    show WS _ _ _ _ [.v (.int n), .v (.int m), .no, .no] _
    repeat walk_at "e"
    refine w_lcF1 ?_ (by decide)
    refine i_tup ?_
    repeat walk_at "e"
    refine lcF_A PR (fun p => .int (p : Nat)) (fun p => decide (p ≤ m) && decide (n % p = 0)) (fun p => smD (p, vl p n)) (by decide) (fun q acc hq => ?_) ?_
    · obtain ⟨q1, q2⟩ := pr_two hq
      refine g_name ?_
      have e1 : decide ((n : Int) % (q : Nat) = 0) = decide (n % q = 0) := by
        rw [← Int.natCast_emod]
        by_cases h : n % q = 0
        · rw [decide_eq_true h, h]
          exact rfl
        · rw [decide_eq_false h]
          exact decide_eq_false (by omega)
      have e2 : decide ((q : Int) ≤ (m : Nat)) = decide (q ≤ m) := by
        by_cases h : q ≤ m
        · rw [decide_eq_true h]
          exact decide_eq_true (by omega)
        · rw [decide_eq_false h]
          exact decide_eq_false (by omega)
      repeat walk_at "e"
      rw [e2]
      by_cases hqm : q ≤ m
      · rw [decide_eq_true hqm]
        repeat walk_at "e"
        rw [e1]
        refine ⟨(Bool.true_and _).symm, rfl, fun _ => ?_⟩
        repeat walk_at "e"
        refine ⟨n, q, rfl, rfl, hn, q1, by omega, ⟨⟨_, rfl⟩, ?_⟩⟩
        repeat walk_at "e"
        exact ⟨rfl, rfl⟩
      · rw [decide_eq_false hqm]
        repeat walk_at "e"
        exact ⟨(Bool.false_and _).symm, rfl, fun z => (by rw [Bool.false_and] at z; cases z)⟩
    · have e : ((PR.filter fun p => decide (p ≤ m) && decide (n % p = 0)).map fun p => smD (p, vl p n)) = (small n m).map smD := by
        unfold small
        rw [List.map_map]
        exact rfl
      rw [e]
      exact ⟨rfl, p⟩
theorem sc_great_in : FnScope ["number", "most", "prime", "times"] ["number", "most"] (defScope (top 24)) := ⟨rfl, rfl, rfl, by decide +kernel, rfl, by decide +kernel, by decide +kernel⟩
theorem ok_great_in {P : Program} {w : World} {K : PySem.W.Frag} {mg : Str → Option Value} {base : Heap} (T : Tx K mg) (h_small_in : Fn P w K mg base 2 (He.fAd K ("small_in", none)) ["number", "most"] (sp_small_in K)) (h_power_of : Fn P w K mg base 1 (He.fAd K ("power_of", none)) ["number", "times"] (sp_power_of K)) : Fn P w K mg base 3 (He.fAd K ("great_in", none)) ["number", "most"] (sp_great_in K) := by
  obtain ⟨_, F_small_in, b_small_in, kp_small_in, lk_small_in⟩ := h_small_in
  obtain ⟨_, F_power_of, b_power_of, kp_power_of, lk_power_of⟩ := h_power_of
  obtain ⟨fd, F⟩ := T.d_great_in
  refine ⟨fd, F.ok sc_great_in (lift_len ?_) (fun cdv A outer s H vs Q E hr h => ?_), F.bindsN fun _ _ _ _ _ _ us hl => (match us, hl with | [_, _], _ => rfl), F.kp, lk_of F⟩
  · intro ts O P X h
    exact sp_great_in_len h
  · have hu := hr.units
    refine ⟨_, (PSs.nox (pss_cons (ps_for PassesOwn.never rfl (pi_listK K (pe_call F_small_in (hr.mono (by decide)) (by rfl) T.g_small_in kp_small_in b_small_in .nil passL (pa_cons (pv 0) (pa_cons (pv 1) pa_nil)))) (pg_tupK K (n := 2) rfl (pgs_cons (pg_name (i := 2) sc_great_in.nd rfl (.inl rfl)) (pgs_cons (pg_name (i := 3) sc_great_in.nd rfl (.inl rfl)) pgs_nil)))
    (pss_one (ps_set (i := 0) sc_great_in.nd rfl (.inl rfl) (pe_op op_fdivW (pv 0) (pe_call F_power_of (hr.mono (by decide)) (by rfl) T.g_power_of kp_power_of b_power_of .nil passL (pa_cons (pv 2) (pa_cons (pv 3) pa_nil)))))))
    (pss_one (ps_ret (pv 0))))), enter h fun ts O P X h _ => ?_⟩
    try dsimp only [cxOf, Cx.nox, Cx.wish]
    
    obtain ⟨n, m, rfl, rfl, hn, hn2, p⟩ := h
    show WS _ _ _ _ [.v (.int n), .v (.int m), .no, .no] _
    refine s_seq ?_
    refine s_forE ?_
    refine i_list ?_
    repeat walk_at "e"
    refine ⟨n, m, rfl, rfl, hn, hn2, ⟨⟨_, rfl⟩, ?_⟩⟩
    repeat walk_at "e"
    refine for_A (fun i ts' O' => ∃ (a b : G.T), O' = [] ∧ ts' = [.v (.int (((small n m).take i).foldl cutP n : Nat)), .v (.int m), a, b]) ⟨_, _, rfl, rfl⟩ ?_ ?_
    · rintro i x _ _ hi hx ⟨a, b, rfl, rfl⟩
      have hm := List.mem_of_getElem? hx
      obtain ⟨d1, d2⟩ := small_dvd hn hm
      obtain ⟨k1, _, _, k4⟩ := small_mem hm
      have k2 := pr_two k1
      have hle := Nat.le_of_dvd hn d2
      have ht : x.2 ≤ 1000 := by
        have : x.2 < 2 ^ x.2 := Nat.lt_two_pow_self
        have h2 : 2 ^ x.2 ≤ x.1 ^ x.2 := Nat.pow_le_pow_left k2.1 _
        have h3 : 2 ^ x.2 < 2 ^ 200 := by omega
        have := (Nat.pow_lt_pow_iff_right (show 1 < 2 by decide)).mp h3
        omega
      refine g_pair rfl ?_
      repeat walk_at "e"
      refine ⟨x.1, x.2, rfl, rfl, by omega, ht, ⟨⟨_, rfl⟩, ?_⟩⟩
      repeat walk_at "e"
      rw [← Int.natCast_ediv, List.take_succ, hx, Option.toList_some, List.foldl_append]
      exact ⟨_, _, rfl, rfl⟩
    · rintro _ _ ⟨a, b, rfl, rfl⟩
      rw [List.take_length]
      repeat walk_at "e"
      exact ⟨rfl, p⟩
theorem sc_combined : FnScope ["one", "other", "first", "second", "mine", "its", "times"] ["one", "other"] (defScope (top 25)) := ⟨rfl, rfl, rfl, by decide +kernel, rfl, by decide +kernel, by decide +kernel⟩
theorem ok_combined {P : Program} {w : World} {K : PySem.W.Frag} {mg : Str → Option Value} {base : Heap} (T : Tx K mg)  : Fn P w K mg base 1 (He.fAd K ("combined", none)) ["one", "other"] (sp_combined K) := by
  obtain ⟨fd, F⟩ := T.d_combined
  refine ⟨fd, F.ok sc_combined (lift_len ?_) (fun cdv A outer s H vs Q E hr h => ?_), F.bindsN fun _ _ _ _ _ _ us hl => (match us, hl with | [_, _], _ => rfl), F.kp, lk_of F⟩
  · intro ts O P X h
    exact sp_combined_len h
  · have hu := hr.units
    refine ⟨_, (PSs.nox (pss_cons (ps_asg (pe_tup (pa_cons pe_int (pa_cons pe_int (pa_cons pe_int (pa_cons pe_int pa_nil))))) (pg_tupK K (n := 4) rfl (pgs_cons (pg_name (i := 2) sc_combined.nd rfl (.inl rfl)) (pgs_cons (pg_name (i := 3) sc_combined.nd rfl (.inl rfl)) (pgs_cons (pg_name (i := 4) sc_combined.nd rfl (.inl rfl)) (pgs_cons (pg_name (i := 5) sc_combined.nd rfl (.inl rfl)) pgs_nil))))))
    (pss_cons (ps_while PassesOwn.never (pt_cmpR op_gt (pv 1) pe_int (nomark _))
    (pss_cons (ps_set (i := 6) sc_combined.nd rfl (.inl rfl) (pe_op op_fdivW (pv 0) (pv 1)))
    (pss_cons (ps_par (i := 0) (j := 1) rfl sc_combined.nd rfl rfl (by decide) rfl rfl (pa_cons (pv 1) (pa_cons (pe_op op_sub (pv 0) (pe_op op_mulW (pv 6) (pv 1))) pa_nil)) rfl)
    (pss_cons (ps_par (i := 2) (j := 4) rfl sc_combined.nd rfl rfl (by decide) rfl rfl (pa_cons (pv 4) (pa_cons (pe_op op_sub (pv 2) (pe_op op_mulW (pv 6) (pv 4))) pa_nil)) rfl)
    (pss_one (ps_par (i := 3) (j := 5) rfl sc_combined.nd rfl rfl (by decide) rfl rfl (pa_cons (pv 5) (pa_cons (pe_op op_sub (pv 3) (pe_op op_mulW (pv 6) (pv 5))) pa_nil)) rfl))))))
    (pss_one (ps_ret (pe_tup (pa_cons (pv 0) (pa_cons (pv 2) (pa_cons (pv 3) pa_nil))))))))), enter h fun ts O P X h _ => ?_⟩
    try dsimp only [cxOf, Cx.nox, Cx.wish]
    
    obtain ⟨a, b, rfl, rfl, ha, hb, p⟩ := h
    show WS _ _ _ _ [.v (.int a), .v (.int b), .no, .no, .no, .no, .no] _
    walk_at "n"
    refine s_seq ?_
    refine s_while (fun m ts' O' => ∃ (x : Nat) (s t u v : Int) (c : G.T), O' = [] ∧ ts' = [.v (.int x), .v (.int m), .v (.int s), .v (.int t), .v (.int u), .v (.int v), c] ∧ Bz a b x m s t u v ∧ x < 2 ^ 200 ∧ m < 2 ^ 200) b ⟨a, 1, 0, 0, 1, _, rfl, rfl, Bz.start a b, ha, hb⟩ ?_
    rintro m _ _ ⟨x, s', t', u, v, c, rfl, rfl, hz, hx, hm⟩
    repeat walk_at "e"
    refine br (fun h0 => ?_) (fun h0 => ?_)
    · have hq : x / m ≤ x := Nat.div_le_self x m
      have hq2 : x % m < m := Nat.mod_lt _ (by omega)
      have hb1 := hz.m1.2.2
      have e1 : (x : Int) / (m : Nat) = ((x / m : Nat) : Int) := (Int.natCast_ediv x m).symm
      have e2 : (x : Int) - ((x / m : Nat) : Int) * (m : Nat) = ((x % m : Nat) : Int) := by
        have := Nat.div_add_mod x m
        rw [Nat.mul_comm] at this
        have h2 : ((x / m * m + x % m : Nat) : Int) = (x : Int) := by rw [this]
        rw [Int.natCast_add, Int.natCast_mul] at h2
        omega
      walk_at "n"
      rw [e1]
      generalize hqd : ((x / m : Nat) : Int) = q
      have hq0 : 0 ≤ q ∧ q < 2 ^ 200 := by
        rw [← hqd]
        exact ⟨Int.natCast_nonneg _, by have : x / m < 2 ^ 200 := by omega
                                        exact_mod_cast this⟩
      walk_at "n"
      walk_at "n"
      repeat walk_at "e"
      rw [← hqd, e2]
      exact ⟨x % m, hq2, m, _, _, _, _, _, rfl, rfl, hz.step (by omega), hm, by omega⟩
    · repeat walk_at "e"
      obtain rfl : m = 0 := by omega
      have e := hz.end_ rfl
      have e1 := hz.e1
      have m1 := hz.m1
      rw [e] at e1 ⊢
      exact ⟨rfl, p s' t' e1 m1.1 m1.2.1⟩
theorem sc_shared_in : FnScope ["modulus", "numbers", "divisor", "found", "number", "old", "new", ".0", "many"] ["modulus", "numbers"] (defScope (top 26)) := ⟨rfl, rfl, rfl, by decide +kernel, rfl, by decide +kernel, by decide +kernel⟩
theorem ok_shared_in {P : Program} {w : World} {K : PySem.W.Frag} {mg : Str → Option Value} {base : Heap} (T : Tx K mg) (h_combined : Fn P w K mg base 1 (He.fAd K ("combined", none)) ["one", "other"] (sp_combined K)) : Fn P w K mg base 2 (He.fAd K ("shared_in", none)) ["modulus", "numbers"] (sp_shared_in K) := by
  obtain ⟨_, F_combined, b_combined, kp_combined, lk_combined⟩ := h_combined
  obtain ⟨fd, F⟩ := T.d_shared_in
  refine ⟨fd, F.ok sc_shared_in (lift_len ?_) (fun cdv A outer s H vs Q E hr h => ?_), F.bindsN fun _ _ _ _ _ _ us hl => (match us, hl with | [_, _], _ => rfl), F.kp, lk_of F⟩
  · intro ts O P X h
    exact sp_shared_in_len h
  · have hu := hr.units
    refine ⟨_, (PSs.nox (pss_cons (ps_par (i := 2) (j := 3) rfl sc_shared_in.nd rfl rfl (by decide) rfl rfl (pa_cons (pv 0) (pa_cons (pe_lst pa_nil) pa_nil)) rfl)
    (pss_cons (ps_for PassesOwn.never rfl (pi_listK K (pv 1)) (pg_name (i := 4) sc_shared_in.nd rfl (.inl rfl))
    (pss_cons (ps_asg (pe_call F_combined (hr.mono (by decide)) (by rfl) T.g_combined kp_combined b_combined .nil passL (pa_cons (pv 2) (pa_cons (pe_op op_mod (pv 4) (pv 0)) pa_nil))) (pg_tupK K (n := 3) rfl (pgs_cons (pg_name (i := 2) sc_shared_in.nd rfl (.inl rfl)) (pgs_cons (pg_name (i := 5) sc_shared_in.nd rfl (.inr rfl)) (pgs_cons (pg_name (i := 6) sc_shared_in.nd rfl (.inl rfl)) pgs_nil)))))
    (pss_one (ps_set (i := 3) sc_shared_in.nd rfl (.inl rfl) (pe_op op_cat (pe_lc (own := [(".0", 7), ("many", 8)]) rfl sc_shared_in.nd (pi_listK K (pv 3)) (blkOk_by (own := [(".0", 7), ("many", 8)]) (N := ["modulus", "numbers", "divisor", "found", "number", "old", "new", ".0", "many"]) (sc := defScope (top 26)) (by decide +kernel)) (fun _ _ _ _ _ => (pg_name (i := 8) sc_shared_in.nd rfl (.inl rfl))) (fun _ _ _ _ _ => pts_nil) (fun _ _ _ _ _ => (pe_op op_mod (pe_op op_mulW (pv 8) (pv 5)) (pv 0)))) (pe_lst (pa_cons (pe_op op_mod (pv 6) (pv 0)) pa_nil)))))))
    (pss_one (ps_ret (pe_tup (pa_cons (pv 2) (pa_cons (pe_callTy (cr_tupK K) (by rfl) T.n_tuple boot_tuple (pa_cons (pv 3) pa_nil)) pa_nil)))))))), enter h fun ts O P X h _ => ?_⟩
    try dsimp only [cxOf, Cx.nox, Cx.wish]
    
    obtain ⟨m, ns, rfl, rfl, hm, hm2, hl, p⟩ := h
    show WS _ _ _ _ [.v (.int m), .v (.lst (nums ns)), .no, .no, .no, .no, .no, .no, .no] _
    walk_at "n"
    refine s_seq ?_
    refine s_forE ?_
    refine i_list ?_
    repeat walk_at "e"
    refine for_N (fun i ts' O' => ∃ (g : Nat) (ms : List Int) (a b c d e : G.T), O' = [] ∧ ts' = [.v (.int m), .v (.lst (nums ns)), .v (.int g), .v (.lst (nums ms)), a, b, c, d, e] ∧ g = gcdL m (ns.take i) ∧ MulOk m (ns.take i) ms g) ⟨m, [], _, _, _, _, _, rfl, rfl, rfl, rfl, fun x hx => (by cases hx), ⟨-1, by show (0 : Int) - m = m * -1; omega⟩⟩ ?_ ?_
    · rintro i r _ _ hi er ⟨g, ms, a, b, c, d, e, rfl, rfl, hg, h1, h2, h3⟩
      have et : ns.take (i + 1) = ns.take i ++ [r] := by rw [List.take_succ, er] <;> rfl
      have hgd : g ∣ m := by rw [hg]; exact gcdL_dvd _ m
      have hgm : g ≤ m := Nat.le_of_dvd hm hgd
      have hr0 := Int.emod_nonneg r (show (m : Int) ≠ 0 by omega)
      have hr1 := Int.emod_lt_of_pos r (show (0 : Int) < m by omega)
      obtain ⟨k, hk⟩ : ∃ k : Nat, r % (m : Int) = k := ⟨(r % (m : Int)).toNat, by omega⟩
      refine g_name ?_
      walk_at "n"
      rw [hk]
      refine ⟨g, k, rfl, rfl, by omega, by omega, fun s' t' hst hs ht => ⟨⟨_, rfl⟩, ?_⟩⟩
      refine g_trip rfl ?_
      repeat walk_at "e"
      refine w_lc1 ?_ (by decide)
      refine i_list ?_
      repeat walk_at "e"
      have hml : ms.length ≤ 100 := by rw [h1, List.length_take]; omega
      refine lc_A ms D.int (fun x => .int (x * s' % m)) (by omega) (fun x acc hx => ?_) ?_
      · obtain ⟨x1, x2⟩ := h2 x hx
        refine g_name ?_
        repeat walk_at "e"
        exact ⟨rfl, rfl⟩
      repeat walk_at "e"
      refine w_catL lstD_v lstD_v (by rw [List.length_map, List.length_singleton]; omega) ?_
      have hg2 : Nat.gcd g k = gcdL m (ns.take (i + 1)) := by
        rw [et, gcdL_app, ← hg, gcdL_cons, gcdL_nil]
        exact gcd_mod hgd hk
      rw [show ms.map (fun x => D.int (x * s' % m)) ++ [D.int (t' % m)] = nums (ms.map (fun x => x * s' % m) ++ [t' % m]) by unfold nums; rw [List.map_append, List.map_map] <;> rfl]
      exact ⟨Nat.gcd g k, _, _, _, _, _, _, rfl, rfl, hg2, by rw [et]; exact mulOk_step hm h1 h2 h3 hst hk⟩
    · rintro _ _ ⟨g, ms, a, b, c, d, e, rfl, rfl, hg, hok⟩
      rw [List.take_length] at hg hok
      subst hg
      repeat walk_at "e"
      exact ⟨rfl, p _ hok⟩
theorem sc_joined : FnScope ["parts", "found", "whole", "rest", "divisor", "inverse"] ["parts"] (defScope (top 27)) := ⟨rfl, rfl, rfl, by decide +kernel, rfl, by decide +kernel, by decide +kernel⟩
theorem ok_joined {P : Program} {w : World} {K : PySem.W.Frag} {mg : Str → Option Value} {base : Heap} (T : Tx K mg) (h_combined : Fn P w K mg base 1 (He.fAd K ("combined", none)) ["one", "other"] (sp_combined K)) : Fn P w K mg base 2 (He.fAd K ("joined", none)) ["parts"] (sp_joined K) := by
  obtain ⟨_, F_combined, b_combined, kp_combined, lk_combined⟩ := h_combined
  obtain ⟨fd, F⟩ := T.d_joined
  refine ⟨fd, F.ok sc_joined (lift_len ?_) (fun cdv A outer s H vs Q E hr h => ?_), F.bindsN fun _ _ _ _ _ _ us hl => (match us, hl with | [_], _ => rfl), F.kp, lk_of F⟩
  · intro ts O P X h
    exact sp_joined_len h
  · have hu := hr.units
    refine ⟨_, (PSs.nox (pss_cons (ps_asg (pe_tup (pa_cons pe_int (pa_cons pe_int pa_nil))) (pg_tupK K (n := 2) rfl (pgs_cons (pg_name (i := 1) sc_joined.nd rfl (.inl rfl)) (pgs_cons (pg_name (i := 2) sc_joined.nd rfl (.inl rfl)) pgs_nil))))
    (pss_cons (ps_for PassesOwn.never rfl (pi_listK K (pv 0)) (pg_tupK K (n := 2) rfl (pgs_cons (pg_name (i := 3) sc_joined.nd rfl (.inl rfl)) (pgs_cons (pg_name (i := 4) sc_joined.nd rfl (.inl rfl)) pgs_nil)))
    (pss_cons (ps_set (i := 5) sc_joined.nd rfl (.inl rfl) (pe_ix (ix_tupK K) (pe_call F_combined (hr.mono (by decide)) (by rfl) T.g_combined kp_combined b_combined .nil passL (pa_cons (pv 4) (pa_cons (pe_op op_mod (pv 2) (pv 4)) pa_nil))) pe_int (fun _ _ => rfl)))
    (pss_cons (ps_set (i := 1) sc_joined.nd rfl (.inl rfl) (pe_op op_add (pv 1) (pe_op op_mulW (pv 2) (pe_op op_mod (pe_op op_mulW (pe_op op_sub (pv 3) (pv 1)) (pv 5)) (pv 4)))))
    (pss_one (ps_set (i := 2) sc_joined.nd rfl (.inl rfl) (pe_op op_mulW (pv 2) (pv 4)))))))
    (pss_one (ps_ret (pv 1)))))), enter h fun ts O P X h _ => ?_⟩
    try dsimp only [cxOf, Cx.nox, Cx.wish]
    
    obtain ⟨ps, rfl, rfl, hp, hc, hl, p⟩ := h
    show WS _ _ _ _ [.v (.lst (ps.map paD)), .no, .no, .no, .no, .no] _
    walk_at "n"
    refine s_seq ?_
    refine s_forE ?_
    refine i_list ?_
    repeat walk_at "e"
    refine for_A (fun i ts' O' => ∃ (f : Int) (a b c : G.T), O' = [] ∧ ts' = [.v (.lst (ps.map paD)), .v (.int f), .v (.int (prodN ((ps.take i).map (·.2)))), a, b, c] ∧ Lvs f (ps.take i) ∧ 0 ≤ f ∧ f < (prodN ((ps.take i).map (·.2)) : Nat)) ⟨0, _, _, _, rfl, rfl, fun x hx => (by cases hx), by omega, (by show (0 : Int) < ((1 : Nat) : Int); decide)⟩ ?_ ?_
    · rintro i x _ _ hi hx ⟨f, a, b, c, rfl, rfl, f1, f2, f3⟩
      obtain ⟨r, d⟩ := x
      have et : ps.take (i + 1) = ps.take i ++ [(r, d)] := by rw [List.take_succ, hx] <;> rfl
      obtain ⟨d1, d2, r1⟩ := hp _ (List.mem_of_getElem? hx)
      have d1 : 1 ≤ d := d1
      have d2 : d ≤ 1000000000000000000000000000000 := d2
      have r1 : r.natAbs < 2 ^ 4000 := r1
      have hw := prod_bd (ps := ps.take i) (fun x hx => (hp x (List.mem_of_mem_take hx)).2.1)
      generalize hW : prodN ((ps.take i).map (·.2)) = w at *
      have hwb : w < 2 ^ 2000 := Nat.lt_of_lt_of_le (Nat.lt_of_le_of_lt hw (pw_lt (by rw [List.length_take]; omega))) (Nat.le_refl _)
      have hcop : Nat.gcd d (w % d) = 1 := by
        have := cop_at hc hx
        rw [← List.map_take, hW] at this
        rw [Nat.gcd_comm d, ← Nat.gcd_rec, Nat.gcd_comm]
        exact this
      refine g_pair (a := .int r) (b := .int d) rfl ?_
      walk_at "n"
      rw [← Int.natCast_emod]
      have hmd : w % d < d := Nat.mod_lt _ d1
      refine ⟨d, w % d, rfl, rfl, by omega, by omega, fun s' t' hst hs ht => ⟨⟨_, rfl⟩, ?_⟩⟩
      repeat walk_at "e"
      have hfb : f.natAbs < 2 ^ 2000 := Nat.lt_trans (show f.natAbs < w by omega) hwb
      have hrf : (r - f).natAbs < 2 ^ 4001 := by
        have : (2 : Nat) ^ 4001 = 2 ^ 4000 + 2 ^ 4000 := by rw [Nat.pow_succ]; omega
        have : (2 : Nat) ^ 2000 < 2 ^ 4000 := Nat.pow_lt_pow_right (by decide) (by decide)
        generalize (2 : Nat) ^ 4001 = A at *
        generalize (2 : Nat) ^ 4000 = B at *
        generalize (2 : Nat) ^ 2000 = C at *
        omega
      walk_at "n"
      refine w_mulW (mul_okP hrf (b := 200) (by omega) (by omega)) ?_
      repeat walk_at "e"
      have m0 := Int.emod_nonneg ((r - f) * t') (show (d : Int) ≠ 0 by omega)
      have m1 := Int.emod_lt_of_pos ((r - f) * t') (show (0 : Int) < d by omega)
      refine w_mulW (mul_okP (a := 2000) (b := 200) (by rw [Int.natAbs_natCast]; exact hwb) (by omega) (by omega)) ?_
      repeat walk_at "e"
      refine w_mulW (mul_okP (a := 2000) (b := 200) (by rw [Int.natAbs_natCast]; exact hwb) (by omega) (by omega)) ?_
      have hinv : (d : Int) ∣ t' * w - 1 := inv_ok hst hcop
      obtain ⟨g1, g2, g3⟩ := put_step (ps := ps.take i) (x := f) (w := w) (r := r) (d := d) (i := t') hW.symm f1 f2 f3 d1 hinv
      have ep : prodN ((ps.take i ++ [(r, d)]).map (·.2)) = w * d := by
        rw [List.map_append, prodN_app, hW]
        show w * prodN [d] = w * d
        rw [prodN_cons, prodN_nil, Nat.mul_one]
      rw [et, ep, ← Int.natCast_mul w d]
      exact ⟨_, _, _, _, rfl, rfl, g1, g2, g3⟩
    · rintro _ _ ⟨f, a, b, c, rfl, rfl, f1, f2, f3⟩
      rw [List.take_length] at f1 f3
      repeat walk_at "e"
      exact ⟨rfl, p f f1 f2 f3⟩
theorem sc_PromptU_initU : FnScope ["self", "stages", "modulus"] ["self", "stages", "modulus"] (defScope (inClass (top 32) 2)) := ⟨rfl, rfl, rfl, by decide +kernel, rfl, by decide +kernel, by decide +kernel⟩
theorem ok_PromptU_initU {P : Program} {w : World} {K : PySem.W.Frag} {mg : Str → Option Value} {base : Heap} (T : Tx K mg) (h_is_between : Fn P w K mg base 2 (He.fAd K ("is_between", none)) ["value", "low", "high"] (sp_is_between K)) (h_fits_modulus : Fn P w K mg base 3 (He.fAd K ("fits_modulus", none)) ["value"] (sp_fits_modulus K)) : Fn P w K mg base 4 (He.fAd K ("Prompt", some "__init__")) ["self", "stages", "modulus"] (sp_ch_init K (He.ga K "Prompt")) := by
  obtain ⟨_, F_is_between, b_is_between, kp_is_between, lk_is_between⟩ := h_is_between
  obtain ⟨_, F_fits_modulus, b_fits_modulus, kp_fits_modulus, lk_fits_modulus⟩ := h_fits_modulus
  obtain ⟨fd, F⟩ := T.d_PromptU_initU
  obtain ⟨_, T_i_MOST_STAGES⟩ := T.i_MOST_STAGES_
  have hc_Prompt := T.cl_Prompt
  have hn_Prompt_modulus := T.na_Prompt_modulus
  have hc_Prompt := T.cl_Prompt
  have hn_Prompt_stages := T.na_Prompt_stages
  refine ⟨fd, F.ok sc_PromptU_initU (lift_len ?_) (fun cdv A outer s H vs Q E hr h => ?_), F.bindsN fun _ _ _ _ _ _ us hl => (match us, hl with | [_, _, _], _ => rfl), F.kp, lk_of F⟩
  · intro ts O P X h
    exact sp_ch_init_len h
  · have hu := hr.units
    refine ⟨_, (PSs.nox (pss_cons (ps_if (pt_not (pt_val (pe_call F_is_between (hr.mono (by decide)) (by rfl) T.g_is_between kp_is_between b_is_between .nil passL (pa_cons (pv 1) (pa_cons pe_int (pa_cons (pe_glob (v := .int 6) (by rfl) T_i_MOST_STAGES ⟨_, rfl⟩) pa_nil))))))
    (pss_one ps_never)
    pss_nil)
    (pss_cons (ps_if (pt_not (pt_val (pe_call F_fits_modulus (hr.mono (by decide)) (by rfl) T.g_fits_modulus kp_fits_modulus b_fits_modulus .nil passL (pa_cons (pv 2) pa_nil))))
    (pss_one ps_never)
    pss_nil)
    (pss_cons (ps_fld (pv 0) (pv 1) rfl)
    (pss_one (ps_fld (pv 0) (pv 2) rfl)))))), enter h fun ts O P X h _ => ?_⟩
    try dsimp only [cxOf, Cx.nox, Cx.wish]
    
    obtain ⟨s', m, rfl, rfl, h1, h2, h3, h4, p⟩ := h
    show WS _ _ _ _ [.own 0, .v (.int s'), .v (.int m)] _
    walk_at "n"
    refine u_between h1 h2 ⟨⟨_, rfl⟩, ?_⟩
    repeat walk_at "e"
    walk_at "n"
    refine u_fits_modulus (btw_int h3 h4) ⟨⟨_, rfl⟩, ?_⟩
    repeat walk_at "e"
    walk_at "n"
    repeat walk_at "e"
    exact ⟨rfl, p⟩
theorem sc_LateU_initU : FnScope ["self", "stages", "modulus"] ["self", "stages", "modulus"] (defScope (inClass (top 32) 2)) := ⟨rfl, rfl, rfl, by decide +kernel, rfl, by decide +kernel, by decide +kernel⟩
theorem ok_LateU_initU {P : Program} {w : World} {K : PySem.W.Frag} {mg : Str → Option Value} {base : Heap} (T : Tx K mg) (h_is_between : Fn P w K mg base 2 (He.fAd K ("is_between", none)) ["value", "low", "high"] (sp_is_between K)) (h_fits_modulus : Fn P w K mg base 3 (He.fAd K ("fits_modulus", none)) ["value"] (sp_fits_modulus K)) : Fn P w K mg base 4 (He.fAd K ("Late", some "__init__")) ["self", "stages", "modulus"] (sp_ch_init K (He.ga K "Late")) := by
  obtain ⟨_, F_is_between, b_is_between, kp_is_between, lk_is_between⟩ := h_is_between
  obtain ⟨_, F_fits_modulus, b_fits_modulus, kp_fits_modulus, lk_fits_modulus⟩ := h_fits_modulus
  obtain ⟨fd, F⟩ := T.d_LateU_initU
  obtain ⟨_, T_i_MOST_STAGES⟩ := T.i_MOST_STAGES_
  have hc_Late := T.cl_Late
  have hn_Late_modulus := T.na_Late_modulus
  have hc_Late := T.cl_Late
  have hn_Late_stages := T.na_Late_stages
  refine ⟨fd, F.ok sc_LateU_initU (lift_len ?_) (fun cdv A outer s H vs Q E hr h => ?_), F.bindsN fun _ _ _ _ _ _ us hl => (match us, hl with | [_, _, _], _ => rfl), F.kp, lk_of F⟩
  · intro ts O P X h
    exact sp_ch_init_len h
  · have hu := hr.units
    refine ⟨_, (PSs.nox (pss_cons (ps_if (pt_not (pt_val (pe_call F_is_between (hr.mono (by decide)) (by rfl) T.g_is_between kp_is_between b_is_between .nil passL (pa_cons (pv 1) (pa_cons pe_int (pa_cons (pe_glob (v := .int 6) (by rfl) T_i_MOST_STAGES ⟨_, rfl⟩) pa_nil))))))
    (pss_one ps_never)
    pss_nil)
    (pss_cons (ps_if (pt_not (pt_val (pe_call F_fits_modulus (hr.mono (by decide)) (by rfl) T.g_fits_modulus kp_fits_modulus b_fits_modulus .nil passL (pa_cons (pv 2) pa_nil))))
    (pss_one ps_never)
    pss_nil)
    (pss_cons (ps_fld (pv 0) (pv 1) rfl)
    (pss_one (ps_fld (pv 0) (pv 2) rfl)))))), enter h fun ts O P X h _ => ?_⟩
    try dsimp only [cxOf, Cx.nox, Cx.wish]
    
    obtain ⟨s', m, rfl, rfl, h1, h2, h3, h4, p⟩ := h
    show WS _ _ _ _ [.own 0, .v (.int s'), .v (.int m)] _
    walk_at "n"
    refine u_between h1 h2 ⟨⟨_, rfl⟩, ?_⟩
    repeat walk_at "e"
    walk_at "n"
    refine u_fits_modulus (btw_int h3 h4) ⟨⟨_, rfl⟩, ?_⟩
    repeat walk_at "e"
    walk_at "n"
    repeat walk_at "e"
    exact ⟨rfl, p⟩
end My

set_option Elab.async false
set_option linter.all false
set_option maxRecDepth 100000
set_option maxHeartbeats 4000000
namespace My
open G (InR bt bk)
/-- the remainders come again -/
def Pm (m N : Int) (f : Int → Int) : Prop := ∀ n, f (n + N) % m = f n % m
theorem Pm.sub {m N : Int} {f g : Int → Int} (h : Pm m N f) (k : Pm m N g) : Pm m N (fun n => f n - g n) := fun n => by
  show (f (n + N) - g (n + N)) % m = (f n - g n) % m
  rw [Int.sub_emod, h n, k n, ← Int.sub_emod]
/-- the least period of a run's rests -/
noncomputable def perR (l : Bool) (m : Int) (c st : List Int) : Nat := c.length * lcmL ((List.range c.length).map fun a => lpN m.toNat (cfs l m c st a (st.length - 1)))
end My

set_option Elab.async false
set_option linter.all false
set_option maxRecDepth 100000
set_option maxHeartbeats 0
namespace My
open PySem PySem.Spec PyProof.Rows L2 G

theorem atI_getD {xs : List Int} {i : Nat} (h : i < xs.length) : atI (nums xs) (i : Int) = some (.int (xs.getD i 0)) := by
  obtain ⟨x, h1, h2⟩ := atI_nums (ns := xs) (i := (i : Int)) (by omega) (by omega)
  rw [h1, List.getD_eq_getElem?_getD, show xs[i]? = some x from h2] <;> rfl
theorem cut_tail (cs : List Int) : cutD (nums cs) (some 1) none = nums (cs.drop 1) := by
  cases cs with
  | nil => rfl
  | cons c r => exact (cutD_drop (n := 1) (by rw [nums_len, List.length_cons]; omega)).trans (by unfold nums; rw [List.map_drop])
def Sml (b : Nat) (xs : List Int) : Prop := ∀ x ∈ xs, x.natAbs < 2 ^ b
theorem getD_sml {b : Nat} {xs : List Int} (h : Sml b xs) (i : Nat) : (xs.getD i 0).natAbs < 2 ^ b := by
  rw [List.getD_eq_getElem?_getD]
  cases e : xs[i]? with
  | none => exact Nat.pow_pos (by decide)
  | some x => exact h x (List.mem_of_getElem? e)
def sp_p_leftin (K : PySem.W.Frag) : SpD := fun ts O P _ => ∃ (cs : List Int) (r : Nat) (N : Int), ts = [.v (.lst (nums cs)), .v (.int (r : Nat)), .v (.int N)] ∧ O = [] ∧ cs.length ≤ 13 ∧ Sml 140 cs ∧ r < 1000 ∧ N.natAbs + 12 < 2 ^ 230 ∧ P (.v (.int (My.rowL cs r N))) []
theorem sp_p_leftin_len {K : PySem.W.Frag} {ts O P X} (h : sp_p_leftin K ts O P X) : ts.length = 3 := by
  obtain ⟨cs, r, N, rfl, _⟩ := h
  rfl

open My (Per IsLp rowL)
def perB (M : Nat) (cs : List Int) (N : Int) : Bool := ((List.range (cs.length - 1)).map fun r => decide (rowL cs r N % (M : Int) = 0)).all id
theorem perB_iff {M : Nat} {cs : List Int} {N : Int} : perB M cs N = true ↔ Per M cs N := by
  unfold perB
  rw [List.all_eq_true, My.per_rows]
  refine ⟨fun h r hr => ?_, fun h b hb => ?_⟩
  · have := h _ (List.mem_map.mpr ⟨r, List.mem_range.mpr (by omega), rfl⟩)
    exact Int.dvd_of_emod_eq_zero (of_decide_eq_true this)
  · obtain ⟨r, hr, rfl⟩ := List.mem_map.mp hb
    have := List.mem_range.mp hr
    exact decide_eq_true (Int.emod_eq_zero_of_dvd (h r (by omega)))
theorem perB_no {M : Nat} {cs : List Int} {N : Int} (h : ¬ Per M cs N) : perB M cs N = false := by
  cases e : perB M cs N with
  | false => rfl
  | true => exact absurd (perB_iff.mp e) h
def sp_p_keeps (K : PySem.W.Frag) : SpD := fun ts O P _ => ∃ (cs : List Int) (M : Nat) (N : Int), ts = [.v (.lst (nums cs)), .v (.int (M : Nat)), .v (.int N)] ∧ O = [] ∧ 1 ≤ M ∧ cs.length ≤ 13 ∧ Sml 140 cs ∧ N.natAbs + 12 < 2 ^ 230 ∧ P (.v (.bl (perB M cs N))) []
theorem sp_p_keeps_len {K : PySem.W.Frag} {ts O P X} (h : sp_p_keeps K ts O P X) : ts.length = 3 := by
  obtain ⟨cs, M, N, rfl, _⟩ := h
  rfl
/-- the first row that leaves something -/
def FirstRow (M : Nat) (cs : List Int) (N : Int) (r : Nat) : Prop := r + 1 < cs.length ∧ ¬ (M : Int) ∣ rowL cs r N ∧ ∀ s, s < r → (M : Int) ∣ rowL cs s N
theorem first_row {M : Nat} {cs : List Int} {N : Int} (h : ¬ Per M cs N) : ∃ r, FirstRow M cs N r := by
  rw [My.per_rows] at h
  have : ∃ r, r + 1 < cs.length ∧ ¬ (M : Int) ∣ rowL cs r N := Classical.byContradiction fun z => h fun r hr => Classical.byContradiction fun w => z ⟨r, hr, w⟩
  obtain ⟨r, h1, h2⟩ := this
  induction r using Nat.strongRecOn with
  | _ r ih =>
    by_cases hx : ∃ s, s < r ∧ ¬ (M : Int) ∣ rowL cs s N
    · obtain ⟨s, s1, s2⟩ := hx
      exact ih s s1 (by omega) s2
    · exact ⟨r, h1, h2, fun s hs => Classical.byContradiction fun w => hx ⟨s, hs, w⟩⟩
/-- p ^ t is the least period modulo p ^ e -/
def LpT (p e : Nat) (cs : List Int) (t : Nat) : Prop := IsLp (p ^ e) cs (p ^ t) ∧ t ≤ e + 3
theorem lpT_exists {p e : Nat} (hp : p ∈ My.PR) {cs : List Int} (hl : cs.length ≤ 13) : ∃ t, LpT p e cs t := by
  have p2 := (My.pr_two hp).1
  obtain ⟨L, hL⟩ := My.lp_exists (My.pw_period hp e hl) (Nat.pow_pos (by omega))
  have d1 := Int.ofNat_dvd.mp ((hL.2 _).mp (My.pw_period hp e hl))
  obtain ⟨j, j1, rfl⟩ := My.pw_dvd hp _ _ d1
  exact ⟨j, hL, j1⟩
theorem lpT_per {p e t s : Nat} (hp : p ∈ My.PR) {cs : List Int} (h : LpT p e cs t) : Per (p ^ e) cs ((p ^ s : Nat) : Int) ↔ t ≤ s := by
  rw [h.1.2, Int.ofNat_dvd, My.pw_le hp]
def PwOk (p e : Nat) : Prop := p ∈ My.PR ∧ p ^ e ≤ 1000000000000000000000000000000
theorem PwOk.e {p e : Nat} (h : PwOk p e) : e < 100 := by
  refine Nat.lt_of_not_le fun z => ?_
  have p2 := (My.pr_two h.1).1
  have : 2 ^ 100 ≤ p ^ e := Nat.le_trans (Nat.pow_le_pow_right (by decide) z) (Nat.pow_le_pow_left p2 e)
  have h2 := h.2
  omega
theorem PwOk.far {p e s : Nat} (h : PwOk p e) (hs : s ≤ e + 3) : p ^ s < 2 ^ 120 := by
  have p2 := My.pr_two h.1
  have h1 : p ^ s ≤ p ^ e * p ^ 3 := by
    rw [← Nat.pow_add]
    exact Nat.pow_le_pow_right (by omega) hs
  have h3 : p ^ 3 ≤ 11 ^ 3 := Nat.pow_le_pow_left p2.2 3
  have h4 := Nat.mul_le_mul h.2 h3
  have h5 : (11 : Nat) ^ 3 = 1331 := rfl
  rw [h5] at h4
  omega
theorem pw_far {p e s : Nat} (h : PwOk p e) (hs : s ≤ e + 3) : (((p ^ s : Nat) : Int)).natAbs + 12 < 2 ^ 230 := by
  have := h.far hs
  exact Nat.lt_of_lt_of_le (show (((p ^ s : Nat) : Int)).natAbs + 12 < 2 ^ 121 by omega) (Nat.pow_le_pow_right (by decide) (by decide))
def sp_p_power (K : PySem.W.Frag) : SpD := fun ts O P _ => ∃ (cs : List Int) (p e : Nat), ts = [.v (.lst (nums cs)), .v (.int (p : Nat)), .v (.int (e : Nat))] ∧ O = [] ∧ PwOk p e ∧ cs.length ≤ 13 ∧ Sml 140 cs ∧ ∀ t, LpT p e cs t → P (.v (.int (t : Nat))) []
theorem sp_p_power_len {K : PySem.W.Frag} {ts O P X} (h : sp_p_power K ts O P X) : ts.length = 3 := by
  obtain ⟨cs, p, e, rfl, _⟩ := h
  rfl
/-- what shows that p ^ t is the least -/
def ShowW (p e : Nat) (cs : List Int) (t : Nat) (w : D) : Prop := (t = 0 ∧ w = .non) ∨ ∃ s r : Nat, t = s + 1 ∧ w = .int (r : Nat) ∧ FirstRow (p ^ e) cs ((p ^ s : Nat) : Int) r
/-- the triples of the small primes -/
def SmsOk (cs : List Int) : List (Nat × Nat) → List D → List Nat → Prop
  | [], sm, Ls => sm = [] ∧ Ls = []
  | x :: xs, sm, Ls => ∃ t w sm' Ls', sm = .tup [.int (x.1 : Nat), .int (t : Nat), w] :: sm' ∧ Ls = x.1 ^ t :: Ls' ∧ LpT x.1 x.2 cs t ∧ ShowW x.1 x.2 cs t w ∧ SmsOk cs xs sm' Ls'
theorem SmsOk.snoc {cs : List Int} {x : Nat × Nat} {t : Nat} {w : D} (h1 : LpT x.1 x.2 cs t) (h2 : ShowW x.1 x.2 cs t w) : ∀ {xs : List (Nat × Nat)} {sm : List D} {Ls : List Nat}, SmsOk cs xs sm Ls → SmsOk cs (xs ++ [x]) (sm ++ [.tup [.int (x.1 : Nat), .int (t : Nat), w]]) (Ls ++ [x.1 ^ t])
  | [], _, _, ⟨e1, e2⟩ => by
    subst e1 e2
    exact ⟨t, w, [], [], rfl, rfl, h1, h2, rfl, rfl⟩
  | y :: xs, _, _, ⟨t', w', sm', Ls', e1, e2, a, b, c⟩ => by
    subst e1 e2
    exact ⟨t', w', _, _, rfl, rfl, a, b, SmsOk.snoc h1 h2 c⟩
theorem SmsOk.at {cs : List Int} : ∀ {xs : List (Nat × Nat)} {sm : List D} {Ls : List Nat}, SmsOk cs xs sm Ls → Ls.length = xs.length ∧ ∀ (i : Nat) (x : Nat × Nat) (L : Nat), xs[i]? = some x → Ls[i]? = some L → ∃ t, L = x.1 ^ t ∧ LpT x.1 x.2 cs t
  | [], _, _, ⟨e1, e2⟩ => by
    subst e1 e2
    exact ⟨rfl, fun i x L h _ => by simp at h⟩
  | y :: xs, _, _, ⟨t', w', sm', Ls', e1, e2, a, b, c⟩ => by
    subst e1 e2
    obtain ⟨h1, h2⟩ := SmsOk.at c
    refine ⟨by rw [List.length_cons, List.length_cons, h1], fun i x L hx hL => ?_⟩
    cases i with
    | zero =>
      have ex : y = x := Option.some.inj hx
      have eL : y.1 ^ t' = L := Option.some.inj hL
      subst ex eL
      exact ⟨t', rfl, a⟩
    | succ i => exact h2 i x L hx hL
/-- the end of the reckoning -/
theorem lp_end {M : Nat} {cs : List Int} (hM : 1 ≤ M) (hl : cs.length ≤ 13) {sm : List D} {Ls : List Nat} (h : SmsOk cs (My.small M (cs.length - 1)) sm Ls) :
    IsLp M cs (My.prodN (My.great M (cs.length - 1) / My.gcdL (My.great M (cs.length - 1)) (cs.drop 1) :: Ls)) := by
  obtain ⟨h1, h2⟩ := h.at
  have g1 := My.great_pos (cs.length - 1) hM
  have e := My.pieces_prod (cs.length - 1) hM
  have cp := My.pieces_cop (cs.length - 1) hM
  have lpG := My.lp_great (G := My.great M (cs.length - 1)) (cs := cs) g1 fun j j1 j2 => My.great_cop hM (by omega) j1 j2
  have key : ∀ (i : Nat) (d L : Nat), (My.pieces M (cs.length - 1))[i]? = some d → (My.great M (cs.length - 1) / My.gcdL (My.great M (cs.length - 1)) (cs.drop 1) :: Ls)[i]? = some L → IsLp d cs L ∧ ∀ z : Nat, Nat.Coprime d z → Nat.Coprime L z := fun i d L hd hL => by
    cases i with
    | zero =>
      have e1 : My.great M (cs.length - 1) = d := Option.some.inj hd
      have e2 : My.great M (cs.length - 1) / My.gcdL (My.great M (cs.length - 1)) (cs.drop 1) = L := Option.some.inj hL
      subst e1 e2
      exact ⟨lpG, fun z hz => Nat.Coprime.coprime_dvd_left (Nat.div_dvd_of_dvd (My.gcdL_dvd _ _)) hz⟩
    | succ i =>
      have hd2 : ((My.small M (cs.length - 1)).map fun x => x.1 ^ x.2)[i]? = some d := hd
      rw [List.getElem?_map] at hd2
      cases hx : (My.small M (cs.length - 1))[i]? with
      | none =>
        rw [hx] at hd2
        cases hd2
      | some x =>
        rw [hx] at hd2
        have ed : x.1 ^ x.2 = d := Option.some.inj hd2
        subst ed
        obtain ⟨t, rfl, ht⟩ := h2 i x L hx hL
        refine ⟨ht.1, fun z hz => Nat.Coprime.pow_left _ ?_⟩
        obtain ⟨m1, _, m3, m4⟩ := My.small_mem (List.mem_of_getElem? hx)
        have : x.1 ∣ x.1 ^ x.2 := by
          obtain ⟨q, e1, e2⟩ := My.vl_spec (My.pr_two m1).1 hM
          rw [m4]
          cases hv : My.vl x.1 M with
          | zero =>
            rw [hv, Nat.pow_zero, Nat.one_mul] at e1
            rw [← e1] at e2
            exact absurd m3 e2
          | succ v => exact ⟨x.1 ^ v, by rw [Nat.pow_succ, Nat.mul_comm]⟩
        exact Nat.Coprime.coprime_dvd_left this hz
  have hlen : (My.pieces M (cs.length - 1)).length = (My.great M (cs.length - 1) / My.gcdL (My.great M (cs.length - 1)) (cs.drop 1) :: Ls).length := by
    unfold My.pieces
    rw [List.length_cons, List.length_cons, List.length_map, h1]
  have fin := My.lp_pieces (cs := cs) hlen cp (My.cop_sub hlen (fun i x y hx hy z hz => (key i x y hx hy).2 z hz) cp) fun i d L hd hL => (key i d L hd hL).1
  rwa [e] at fin
open My (perR)
theorem showW_ex {p e t : Nat} {cs : List Int} (hp : p ∈ My.PR) (h : LpT p e cs t) : ∃ w, ShowW p e cs t w := by
  cases t with
  | zero => exact ⟨.non, .inl ⟨rfl, rfl⟩⟩
  | succ s =>
    obtain ⟨r, hr⟩ := first_row (M := p ^ e) (cs := cs) (N := ((p ^ s : Nat) : Int)) (fun z => (by have := (lpT_per hp h).mp z; omega))
    exact ⟨.int (r : Nat), .inr ⟨s, r, rfl, rfl, hr⟩⟩
def sp_p_lin (K : PySem.W.Frag) : SpD := fun ts O P _ => ∃ (M : Nat) (cs : List Int), ts = [.v (.int (M : Nat)), .v (.lst (nums cs))] ∧ O = [] ∧ 1 ≤ M ∧ M ≤ 1000000000000000000000000000000 ∧ 1 ≤ cs.length ∧ cs.length ≤ 13 ∧ Sml 140 cs ∧ P (.v (.int (lpN M cs : Nat))) []
theorem sp_p_lin_len {K : PySem.W.Frag} {ts O P X} (h : sp_p_lin K ts O P X) : ts.length = 2 := by
  obtain ⟨M, cs, rfl, _⟩ := h
  rfl
local macro_rules | `(tactic| walk_at "ws") => `(tactic| first
  | with_reducible refine s_set ?_
  | with_reducible refine s_if ?_
  | with_reducible refine s_ret ?_
  | with_reducible refine s_retN ?_
  | with_reducible refine s_drop ?_
  | with_reducible refine s_next ?_
  | with_reducible refine s_par ?_
  | with_reducible refine s_par3 ?_
  | refine s_fldN (by assumption) (by assumption) ?_
  | with_reducible refine s_asg ?_
  | refine s_raise1 ?_
  | refine s_raise2 ?_)
local macro_rules | `(tactic| walk_at "we") => `(tactic| first
  | ((with_reducible refine w_v (d := ?k2) ?k1 ?_); (case k1 => exact rfl))
  | ((with_reducible refine w_o (j := ?k2) ?k1 ?_); (case k1 => exact rfl))
  | ((guard_target = G.WE _ _ (tFld _ _ _) _ _ _ _); (refine w_fldN (by assumption) (by assumption) ?_))
  | ((guard_target = G.WE _ _ (tC (.ref _)) _ _ _ _); (refine w_ctup (by assumption) ?_))
  | with_reducible refine w_ci ?_
  | with_reducible refine w_op ?_
  | with_reducible refine w_call ?_
  | with_reducible refine w_cty ?_
  | with_reducible refine w_cb ?_
  | with_reducible refine w_cn ?_
  | with_reducible refine w_cs ?_
  | with_reducible refine w_cr ?_
  | with_reducible refine w_un ?_
  | with_reducible refine w_andV ?_
  | with_reducible refine w_orV ?_
  | with_reducible refine w_notV ?_
  | with_reducible refine w_ife ?_
  | with_reducible refine w_chain ?_
  | with_reducible refine w_tup ?_
  | with_reducible refine w_revL ?_
  | with_reducible refine w_slL ?_
  | with_reducible refine w_slT ?_
  | (guard_target = G.WE _ _ (tCall (lift _ (sp_draw _)) _ _ _) _ _ _ _; refine w_fn10 0 ?_)
  | (guard_target = G.WE _ _ (tCall (lift _ (sp_pick _)) _ _ _) _ _ _ _; refine w_fn10 0 ?_)
  | (guard_target = G.WE _ _ (tCall (lift _ (sp_l_right _)) _ _ _) _ _ _ _; refine w_fn10 0 ?_)
  | (guard_target = G.WE _ _ (tCall (lift _ (sp_l_bent _)) _ _ _) _ _ _ _; refine w_fn10 0 ?_)
  | with_reducible refine w_fn0 ?_
  | with_reducible refine w_fnS0 ?_
  | with_reducible refine w_meth0 ?_
  | with_reducible refine w_make0 ?_
  | with_reducible refine w_bmL ?_
  | with_reducible refine w_bmL0 ?_
  | with_reducible refine w_lst ?_
  | with_reducible refine w_callKX ?_
  | with_reducible refine w_makeKX ?_
  | with_reducible refine w_makeX ?_
  | with_reducible refine w_smethX ?_
  | with_reducible refine w_smethK ?_
  | with_reducible refine w_smethK0 ?_
  | with_reducible refine w_fnV ?_
  | with_reducible refine w_fnX ?_
  | with_reducible refine w_fnSX ?_
  | with_reducible refine w_methX ?_
  | with_reducible refine w_callX ?_
  | with_reducible refine w_methK ?_
  | with_reducible refine w_callK2 ?_
  | with_reducible refine w_callI ?_
  | with_reducible refine w_prop ?_
  | with_reducible refine w_dic0 ?_
  | with_reducible refine w_jcons ?_
  | with_reducible refine w_jnil ?_
  | with_reducible refine w_join ?_
  | with_reducible refine w_split ?_
  | with_reducible refine w_smeth ?_
  | with_reducible refine w_fnKr ?_)
local macro_rules | `(tactic| walk_at "wt") => `(tactic| first
  | with_reducible refine w_test ?_
  | with_reducible refine w_B ?_
  | with_reducible refine w_and ?_
  | with_reducible refine w_or ?_
  | with_reducible refine w_not ?_)
local macro_rules | `(tactic| walk_at "wa") => `(tactic| first
  | with_reducible refine w_cons ?_
  | with_reducible refine w_nil ?_
  | with_reducible refine w_star ?_)
local macro_rules | `(tactic| walk_at "wr") => `(tactic| first
  | with_reducible refine w_add ?_
  | with_reducible refine w_sub ?_
  | with_reducible refine w_lt ?_
  | with_reducible refine w_le ?_
  | with_reducible refine w_gt ?_
  | with_reducible refine w_ge ?_
  | with_reducible refine w_eqI ?_
  | with_reducible refine w_neI ?_
  | with_reducible refine w_isN ?_
  | with_reducible refine w_notN ?_
  | ((with_reducible refine w_mod ?k1 ?_); (case k1 => first | decide | omega))
  | ((with_reducible refine w_mul ?k1 ?_); (case k1 => first | exact Or.inl ⟨by decide, by decide⟩ | exact Or.inr ⟨by decide, by decide⟩ | exact Or.inl ⟨by omega, by omega⟩ | exact Or.inr ⟨by omega, by omega⟩))
  | ((with_reducible refine w_pow ?k1 ?_); (case k1 => first | exact ⟨by decide, by decide, by decide⟩ | exact ⟨by omega, by omega, by omega⟩))
  | ((with_reducible refine w_fdivW ?k1 ?_); (case k1 => exact divW_ok (by first | decide | omega) (by first | decide | omega)))
  | ((with_reducible refine w_mulW ?k1 ?_); (case k1 => exact mulW_ok ⟨by omega, by omega⟩ ⟨by omega, by omega⟩))
  | ((guard_target = G.WR _ (rIxT _) _ _ _ _); (refine w_ixT (by first | exact atI_0 | exact atI_1 | exact atI_2 | exact atI_3 | exact atI_4 | exact atI_5 | exact atI_6 | assumption) ?_))
  | ((guard_target = G.WR _ (rIxL _) _ _ _ _); (refine w_ixL (by first | exact lstD_v | exact lstD_o rfl) (by first | exact atI_0 | exact atI_1 | exact atI_2 | exact atI_3 | exact atI_4 | exact atI_5 | exact atI_6 | assumption) ?_)))
local macro_rules | `(tactic| walk_at "wc") => `(tactic| first
  | with_reducible refine c_int ?_
  | with_reducible refine c_intB ?_
  | with_reducible refine c_abs ?_
  | ((guard_target = G.WC _ (G.rLen _) _ _ _); (refine c_lenL (by first | exact lstD_v | exact lstD_o rfl) ?_))
  | with_reducible refine c_lenT ?_
  | ((guard_target = G.WC _ (G.rListOf _) _ _ _); (refine c_listL (by first | exact lstD_v | exact lstD_o rfl) ?_))
  | with_reducible refine c_listT ?_
  | ((guard_target = G.WC _ (G.rTupOf _) _ _ _); (refine c_tupL (by first | exact lstD_v | exact lstD_o rfl) ?_))
  | with_reducible refine c_tupT ?_)
local macro_rules | `(tactic| walk_at "e") => `(tactic| first
  | (guard_target = G.WE _ _ _ _ _ _ _; walk_at "we")
  | (guard_target = G.WS _ _ _ _ _ _; walk_at "ws")
  | (guard_target = G.WA _ _ _ _ _ _ _; walk_at "wa")
  | (guard_target = G.WR _ _ _ _ _ _; walk_at "wr")
  | (guard_target = G.WT _ _ _ _ _ _ _; walk_at "wt")
  | (guard_target = G.WC _ _ _ _ _; walk_at "wc")
  | (guard_target = G.WU _ _ _ _ _; with_reducible refine w_neg ?_)
  | (guard_target = G.WG _ _ _ _ _ _ _; first | with_reducible refine g_name ?_ | with_reducible refine g_setL ?_ | refine g_pair rfl ?_ | refine g_trip rfl ?_ | refine g_quad rfl ?_)
  | (guard_target = G.WO _ _ _ _ _ _ _; first | with_reducible refine o_none ?_ | with_reducible refine o_some ?_)
  | with_reducible refine tt_ ?_
  | with_reducible refine ff_ ?_
  | with_reducible refine ntt_ ?_
  | with_reducible refine nff_ ?_
  | ((guard_target = ((!G.isNon _) = true → _) ∧ _); (first | refine bnF rfl ?_ | refine bnT rfl ?_))
  | ((guard_target = (G.isNon _ = true → _) ∧ _); (first | refine bF rfl ?_ | refine bT rfl ?_))
  | (guard_target = Exists _; first
    | refine ⟨_, rfl, Nat.le_of_ble_eq_true rfl, Nat.le_of_ble_eq_true rfl, ?_⟩
    | refine ⟨_, _, _, _, _, rfl, rfl, rfl, rfl, rfl, ?_⟩
    | refine ⟨_, _, _, rfl, rfl, rfl, Nat.le_of_ble_eq_true rfl, ?_⟩
    | refine ⟨_, _, rfl, rfl, rfl, ?_⟩
    | refine ⟨_, _, _, rfl, ?_⟩
    | refine ⟨_, _, (by first | exact insD_v | exact insD_o rfl), rfl, ?_⟩
    | refine ⟨_, _, rfl, ?_⟩
    | refine ⟨_, rfl, rfl, ?_⟩
    | refine ⟨_, rfl, Nat.le_of_ble_eq_true rfl, ?_⟩
    | refine ⟨_, (by first | exact lstD_v | exact lstD_o rfl), ?_⟩
    | refine ⟨_, rfl, ?_⟩))
local macro_rules | `(tactic| walk_at "o") => `(tactic| first | with_reducible refine w_lstO ?_ | walk_at "e")
local macro_rules | `(tactic| walk_at "g") => `(tactic| first | walk_at "e" | with_reducible refine s_seq ?_)
local macro_rules | `(tactic| walk_at "n") => `(tactic| (with_reducible refine s_seq ?_); (repeat walk_at "e"))
theorem sc_left_in : FnScope ["coefs", "row", "length", ".0", "i"] ["coefs", "row", "length"] (defScope (top 38)) := ⟨rfl, rfl, rfl, by decide +kernel, rfl, by decide +kernel, by decide +kernel⟩
theorem ok_left_in {P : Program} {w : World} {K : PySem.W.Frag} {mg : Str → Option Value} {base : Heap} (T : Tx K mg) (h_binomial : Fn P w K mg base 1 (He.fAd K ("binomial", none)) ["n", "j"] (sp_binomial K)) : Fn P w K mg base 2 (He.fAd K ("left_in", none)) ["coefs", "row", "length"] (sp_p_leftin K) := by
  obtain ⟨_, F_binomial, b_binomial, kp_binomial, lk_binomial⟩ := h_binomial
  obtain ⟨fd, F⟩ := T.d_left_in
  refine ⟨fd, F.ok sc_left_in (lift_len ?_) (fun cdv A outer s H vs Q E hr h => ?_), F.bindsN fun _ _ _ _ _ _ us hl => (match us, hl with | [_, _, _], _ => rfl), F.kp, lk_of F⟩
  · intro ts O P X h
    exact sp_p_leftin_len h
  · have hu := hr.units
    refine ⟨_, (PSs.nox (pss_one (ps_ret (pe_callB (cr_sumK K rfl) (by rfl) T.n_sum boot_sum (pa_cons (pe_lc (own := [(".0", 3), ("i", 4)]) rfl sc_left_in.nd (pi_range2 (by rfl) T.n_range (pa_cons pe_int (pa_cons (pe_op op_sub (pe_callB (cr_lenK K) (by rfl) T.n_len boot_len (pa_cons (pv 0) pa_nil)) (pv 1)) pa_nil))) (blkOk_by (own := [(".0", 3), ("i", 4)]) (N := ["coefs", "row", "length", ".0", "i"]) (sc := defScope (top 38)) (by decide +kernel)) (fun _ _ _ _ _ => (pg_name (i := 4) sc_left_in.nd rfl (.inl rfl))) (fun _ _ _ _ _ => pts_nil) (fun _ _ _ _ _ => (pe_op op_mulW (pe_ix (ix_listK K) (pv 0) (pe_op op_add (pv 1) (pv 4)) (fun _ _ => rfl)) (pe_call F_binomial (hr.mono (by decide)) (by rfl) T.g_binomial kp_binomial b_binomial .nil passL (pa_cons (pv 2) (pa_cons (pv 4) pa_nil)))))) pa_nil))))), enter h fun ts O P X h _ => ?_⟩
    try dsimp only [cxOf, Cx.nox, Cx.wish]
    
    obtain ⟨cs, r, N, rfl, rfl, hl, hs, hr, hN, p⟩ := h
    show WS _ _ _ _ [.v (.lst (nums cs)), .v (.int (r : Nat)), .v (.int N), .no, .no] _
    repeat walk_at "e"
    refine w_lc1 ?_ (by decide)
    refine i_rng2 ?_
    repeat walk_at "e"
    rw [nums_len]
    refine ⟨by omega, ?_⟩
    rw [show (((cs.length : Nat) : Int) - (r : Nat) - 1).toNat = cs.length - (r + 1) by omega]
    refine lc_R2 (fun i => .int (cs.getD (r + i.toNat) 0 * bin N i.toNat)) (by omega) (fun i acc hi => ?_) ?_
    · rw [show (1 : Int) + (i : Int) = ((1 + i : Nat) : Int) by omega]
      refine g_name ?_
      repeat walk_at "e"
      rw [show ((r : Nat) : Int) + ((1 + i : Nat) : Int) = ((r + (1 + i) : Nat) : Int) by omega]
      refine w_ixL lstD_v (atI_getD (by omega)) ?_
      repeat walk_at "e"
      refine ⟨N, 1 + i, rfl, rfl, by omega, hN, ⟨⟨_, rfl⟩, ?_⟩⟩
      refine w_mulW (mul_okP (getD_sml hs _) (bin_bd hN (1 + i) (by omega)) (by omega)) ?_
      exact ⟨rfl, rfl⟩
    have e : ((List.range (cs.length - (r + 1))).map fun i : Nat => D.int (cs.getD (r + ((1 : Int) + i).toNat) 0 * bin N ((1 : Int) + i).toNat)) = nums ((List.range (cs.length - (r + 1))).map fun i => cs.getD (r + (1 + i)) 0 * bin N (1 + i)) := by
      unfold nums
      rw [List.map_map]
      refine List.map_congr_left fun i _ => ?_
      rw [show ((1 : Int) + (i : Int)).toNat = 1 + i by omega] <;> rfl
    rw [e]
    repeat walk_at "e"
    refine c_sum lstD_v ?_
    rw [My.rowL_terms]
    exact ⟨rfl, p⟩
theorem sc_keeps : FnScope ["coefs", "modulus", "length", ".0", "row"] ["coefs", "modulus", "length"] (defScope (top 39)) := ⟨rfl, rfl, rfl, by decide +kernel, rfl, by decide +kernel, by decide +kernel⟩
theorem ok_keeps {P : Program} {w : World} {K : PySem.W.Frag} {mg : Str → Option Value} {base : Heap} (T : Tx K mg) (h_left_in : Fn P w K mg base 2 (He.fAd K ("left_in", none)) ["coefs", "row", "length"] (sp_p_leftin K)) : Fn P w K mg base 3 (He.fAd K ("keeps", none)) ["coefs", "modulus", "length"] (sp_p_keeps K) := by
  obtain ⟨_, F_left_in, b_left_in, kp_left_in, lk_left_in⟩ := h_left_in
  obtain ⟨fd, F⟩ := T.d_keeps
  refine ⟨fd, F.ok sc_keeps (lift_len ?_) (fun cdv A outer s H vs Q E hr h => ?_), F.bindsN fun _ _ _ _ _ _ us hl => (match us, hl with | [_, _, _], _ => rfl), F.kp, lk_of F⟩
  · intro ts O P X h
    exact sp_p_keeps_len h
  · have hu := hr.units
    refine ⟨_, (PSs.nox (pss_one (ps_ret (pe_callB (cr_allK K rfl) (by rfl) T.n_all boot_all (pa_cons (pe_lc (own := [(".0", 3), ("row", 4)]) rfl sc_keeps.nd (pi_range1 (by rfl) T.n_range (pa_cons (pe_op op_sub (pe_callB (cr_lenK K) (by rfl) T.n_len boot_len (pa_cons (pv 0) pa_nil)) pe_int) pa_nil)) (blkOk_by (own := [(".0", 3), ("row", 4)]) (N := ["coefs", "modulus", "length", ".0", "row"]) (sc := defScope (top 39)) (by decide +kernel)) (fun _ _ _ _ _ => (pg_name (i := 4) sc_keeps.nd rfl (.inl rfl))) (fun _ _ _ _ _ => pts_nil) (fun _ _ _ _ _ => (pe_cmpR op_eq (pe_op op_mod (pe_call F_left_in (hr.mono (by decide)) (by rfl) T.g_left_in kp_left_in b_left_in .nil passL (pa_cons (pv 0) (pa_cons (pv 4) (pa_cons (pv 2) pa_nil)))) (pv 1)) pe_int (nomark _)))) pa_nil))))), enter h fun ts O P X h _ => ?_⟩
    try dsimp only [cxOf, Cx.nox, Cx.wish]
    
    obtain ⟨cs, M, N, rfl, rfl, hM, hl, hs, hN, p⟩ := h
    show WS _ _ _ _ [.v (.lst (nums cs)), .v (.int (M : Nat)), .v (.int N), .no, .no] _
    repeat walk_at "e"
    refine w_lc1 ?_ (by decide)
    refine i_rng1 ?_
    repeat walk_at "e"
    rw [nums_len]
    refine ⟨by omega, ?_⟩
    rw [show (((cs.length : Nat) : Int) - 1).toNat = cs.length - 1 by omega]
    refine lc_R (fun r => .bl (decide (rowL cs r N % (M : Int) = 0))) (by omega) (fun r acc hr => ?_) ?_
    · refine g_name ?_
      repeat walk_at "e"
      refine ⟨cs, r, N, rfl, rfl, hl, hs, by omega, hN, ⟨⟨_, rfl⟩, ?_⟩⟩
      repeat walk_at "e"
      exact ⟨rfl, rfl⟩
    have e : ((List.range (cs.length - 1)).map fun r => D.bl (decide (rowL cs r N % (M : Int) = 0))) = ((List.range (cs.length - 1)).map fun r => decide (rowL cs r N % (M : Int) = 0)).map D.bl := by rw [List.map_map] <;> rfl
    rw [e]
    repeat walk_at "e"
    refine c_all lstD_v ?_
    exact ⟨rfl, p⟩
theorem sc_small_power : FnScope ["coefs", "prime", "times", "found"] ["coefs", "prime", "times"] (defScope (top 40)) := ⟨rfl, rfl, rfl, by decide +kernel, rfl, by decide +kernel, by decide +kernel⟩
theorem ok_small_power {P : Program} {w : World} {K : PySem.W.Frag} {mg : Str → Option Value} {base : Heap} (T : Tx K mg) (h_keeps : Fn P w K mg base 3 (He.fAd K ("keeps", none)) ["coefs", "modulus", "length"] (sp_p_keeps K)) (h_power_of : Fn P w K mg base 1 (He.fAd K ("power_of", none)) ["number", "times"] (sp_power_of K)) : Fn P w K mg base 4 (He.fAd K ("small_power", none)) ["coefs", "prime", "times"] (sp_p_power K) := by
  obtain ⟨_, F_keeps, b_keeps, kp_keeps, lk_keeps⟩ := h_keeps
  obtain ⟨_, F_power_of, b_power_of, kp_power_of, lk_power_of⟩ := h_power_of
  obtain ⟨fd, F⟩ := T.d_small_power
  refine ⟨fd, F.ok sc_small_power (lift_len ?_) (fun cdv A outer s H vs Q E hr h => ?_), F.bindsN fun _ _ _ _ _ _ us hl => (match us, hl with | [_, _, _], _ => rfl), F.kp, lk_of F⟩
  · intro ts O P X h
    exact sp_p_power_len h
  · have hu := hr.units
    refine ⟨_, (PSs.nox (pss_cons (ps_set (i := 3) sc_small_power.nd rfl (.inl rfl) pe_int)
    (pss_cons (ps_while PassesOwn.never (pt_not (pt_val (pe_call F_keeps (hr.mono (by decide)) (by rfl) T.g_keeps kp_keeps b_keeps .nil passL (pa_cons (pv 0) (pa_cons (pe_call F_power_of (hr.mono (by decide)) (by rfl) T.g_power_of kp_power_of b_power_of .nil passL (pa_cons (pv 1) (pa_cons (pv 2) pa_nil))) (pa_cons (pe_call F_power_of (hr.mono (by decide)) (by rfl) T.g_power_of kp_power_of b_power_of .nil passL (pa_cons (pv 1) (pa_cons (pv 3) pa_nil))) pa_nil))))))
    (pss_one (ps_aug (i := 3) sc_small_power.nd rfl (.inl rfl) pe_int ip_add)))
    (pss_one (ps_ret (pv 3)))))), enter h fun ts O P X h _ => ?_⟩
    try dsimp only [cxOf, Cx.nox, Cx.wish]
    
    obtain ⟨cs, q, e, rfl, rfl, hq, hl, hs, p⟩ := h
    obtain ⟨t, ht⟩ := lpT_exists (e := e) hq.1 hl
    have q2 := My.pr_two hq.1
    have e1 := hq.e
    show WS _ _ _ _ [.v (.lst (nums cs)), .v (.int (q : Nat)), .v (.int (e : Nat)), .no] _
    walk_at "n"
    refine s_seq ?_
    refine s_while (fun j ts' O' => ∃ i : Nat, j + i = t ∧ O' = [] ∧ ts' = [.v (.lst (nums cs)), .v (.int (q : Nat)), .v (.int (e : Nat)), .v (.int (i : Nat))]) t ⟨0, rfl, rfl, rfl⟩ ?_
    rintro j _ _ ⟨i, hij, rfl, rfl⟩
    have hi3 : i ≤ e + 3 := by have := ht.2; omega
    repeat walk_at "e"
    refine ⟨q, e, rfl, rfl, by omega, by omega, ⟨⟨_, rfl⟩, ?_⟩⟩
    repeat walk_at "e"
    refine ⟨q, i, rfl, rfl, by omega, by omega, ⟨⟨_, rfl⟩, ?_⟩⟩
    repeat walk_at "e"
    refine ⟨cs, q ^ e, ((q ^ i : Nat) : Int), rfl, rfl, Nat.pow_pos (by omega), hl, hs, pw_far hq hi3, ⟨⟨_, rfl⟩, ?_⟩⟩
    by_cases hi : i = t
    · subst hi
      rw [perB_iff.mpr ((lpT_per hq.1 ht).mpr (Nat.le_refl _))]
      repeat walk_at "e"
      exact ⟨rfl, p i ht⟩
    · rw [perB_no (fun z => (by have := (lpT_per hq.1 ht).mp z; omega))]
      repeat walk_at "e"
      refine s_aug rfl ?_
      repeat walk_at "e"
      exact ⟨j - 1, by omega, i + 1, by omega, rfl, rfl⟩
theorem sc_length_in : FnScope ["modulus", "coefs", "degree", "great", "found", "prime", "times"] ["modulus", "coefs"] (defScope (top 41)) := ⟨rfl, rfl, rfl, by decide +kernel, rfl, by decide +kernel, by decide +kernel⟩
theorem ok_length_in {P : Program} {w : World} {K : PySem.W.Frag} {mg : Str → Option Value} {base : Heap} (T : Tx K mg) (h_great_in : Fn P w K mg base 3 (He.fAd K ("great_in", none)) ["number", "most"] (sp_great_in K)) (h_shared_in : Fn P w K mg base 2 (He.fAd K ("shared_in", none)) ["modulus", "numbers"] (sp_shared_in K)) (h_small_in : Fn P w K mg base 2 (He.fAd K ("small_in", none)) ["number", "most"] (sp_small_in K)) (h_power_of : Fn P w K mg base 1 (He.fAd K ("power_of", none)) ["number", "times"] (sp_power_of K)) (h_small_power : Fn P w K mg base 4 (He.fAd K ("small_power", none)) ["coefs", "prime", "times"] (sp_p_power K)) : Fn P w K mg base 5 (He.fAd K ("length_in", none)) ["modulus", "coefs"] (sp_p_lin K) := by
  obtain ⟨_, F_great_in, b_great_in, kp_great_in, lk_great_in⟩ := h_great_in
  obtain ⟨_, F_shared_in, b_shared_in, kp_shared_in, lk_shared_in⟩ := h_shared_in
  obtain ⟨_, F_small_in, b_small_in, kp_small_in, lk_small_in⟩ := h_small_in
  obtain ⟨_, F_power_of, b_power_of, kp_power_of, lk_power_of⟩ := h_power_of
  obtain ⟨_, F_small_power, b_small_power, kp_small_power, lk_small_power⟩ := h_small_power
  obtain ⟨fd, F⟩ := T.d_length_in
  refine ⟨fd, F.ok sc_length_in (lift_len ?_) (fun cdv A outer s H vs Q E hr h => ?_), F.bindsN fun _ _ _ _ _ _ us hl => (match us, hl with | [_, _], _ => rfl), F.kp, lk_of F⟩
  · intro ts O P X h
    exact sp_p_lin_len h
  · have hu := hr.units
    refine ⟨_, (PSs.nox (pss_cons (ps_set (i := 2) sc_length_in.nd rfl (.inl rfl) (pe_op op_sub (pe_callB (cr_lenK K) (by rfl) T.n_len boot_len (pa_cons (pv 1) pa_nil)) pe_int))
    (pss_cons (ps_set (i := 3) sc_length_in.nd rfl (.inl rfl) (pe_call F_great_in (hr.mono (by decide)) (by rfl) T.g_great_in kp_great_in b_great_in .nil passL (pa_cons (pv 0) (pa_cons (pv 2) pa_nil))))
    (pss_cons (ps_set (i := 4) sc_length_in.nd rfl (.inl rfl) (pe_op op_fdivW (pv 3) (pe_ix (ix_tupK K) (pe_call F_shared_in (hr.mono (by decide)) (by rfl) T.g_shared_in kp_shared_in b_shared_in .nil passL (pa_cons (pv 3) (pa_cons (pe_slice (sl_listK K) (pv 1) (po_some pe_int) po_none) pa_nil))) pe_int (fun _ _ => rfl))))
    (pss_cons (ps_for PassesOwn.never rfl (pi_listK K (pe_call F_small_in (hr.mono (by decide)) (by rfl) T.g_small_in kp_small_in b_small_in .nil passL (pa_cons (pv 0) (pa_cons (pv 2) pa_nil)))) (pg_tupK K (n := 2) rfl (pgs_cons (pg_name (i := 5) sc_length_in.nd rfl (.inl rfl)) (pgs_cons (pg_name (i := 6) sc_length_in.nd rfl (.inl rfl)) pgs_nil)))
    (pss_one (ps_set (i := 4) sc_length_in.nd rfl (.inl rfl) (pe_op op_mulW (pv 4) (pe_call F_power_of (hr.mono (by decide)) (by rfl) T.g_power_of kp_power_of b_power_of .nil passL (pa_cons (pv 5) (pa_cons (pe_call F_small_power (hr.mono (by decide)) (by rfl) T.g_small_power kp_small_power b_small_power .nil passL (pa_cons (pv 1) (pa_cons (pv 5) (pa_cons (pv 6) pa_nil)))) pa_nil)))))))
    (pss_one (ps_ret (pv 4)))))))), enter h fun ts O P X h _ => ?_⟩
    try dsimp only [cxOf, Cx.nox, Cx.wish]
    
    obtain ⟨M, cs, rfl, rfl, ok1, ok2, hc1, okl, sc, p⟩ := h
    obtain ⟨gr, hG⟩ : ∃ gr, gr = My.great M (cs.length - 1) := ⟨_, rfl⟩
    have G1 : 1 ≤ gr := by rw [hG]; exact My.great_pos _ (by omega)
    have GM : gr ≤ M := by
      rw [hG]
      exact Nat.le_of_dvd (by omega) ⟨_, My.great_mul (cs.length - 1) (by omega)⟩
    obtain ⟨g, hg⟩ : ∃ g, g = My.gcdL gr (cs.drop 1) := ⟨_, rfl⟩
    have g1 : 1 ≤ g := by rw [hg]; exact My.gcdL_pos G1 _
    have gG : g ≤ gr := by rw [hg]; exact My.gcdL_le G1 _
    show WS _ _ _ _ [.v (.int (M : Nat)), .v (.lst (nums cs)), .no, .no, .no, .no, .no] _
    walk_at "n"
    rw [nums_len]
    repeat walk_at "e"
    try dsimp only
    walk_at "n"
    refine ⟨M, cs.length - 1, by rw [show ((cs.length : Nat) : Int) - 1 = ((cs.length - 1 : Nat) : Int) by omega] <;> rfl, rfl, by omega, by omega, ⟨⟨_, rfl⟩, ?_⟩⟩
    rw [← hG]
    walk_at "n"
    rw [cut_tail cs]
    refine ⟨gr, cs.drop 1, rfl, rfl, G1, by omega, by rw [List.length_drop]; omega, fun ms hms => ⟨⟨_, rfl⟩, ?_⟩⟩
    rw [← hg]
    repeat walk_at "e"
    refine s_seq ?_
    refine s_forE ?_
    refine i_list ?_
    repeat walk_at "e"
    refine ⟨M, cs.length - 1, by rw [show ((cs.length : Nat) : Int) - 1 = ((cs.length - 1 : Nat) : Int) by omega] <;> rfl, rfl, by omega, by omega, ⟨⟨_, rfl⟩, ?_⟩⟩
    refine ⟨_, rfl, ?_⟩
    have sl := My.small_len M (cs.length - 1)
    refine for_A (fun i ts' O' => ∃ (sm : List D) (Ls : List Nat) (a b : G.T), SmsOk cs ((My.small M (cs.length - 1)).take i) sm Ls ∧ sm.length = i ∧ My.prodN (gr / g :: Ls) < 2 ^ (100 + 120 * i) ∧ O' = [] ∧ ts' = [.v (.int (M : Nat)), .v (.lst (nums cs)), .v (.int ((cs.length : Nat) - 1 : Int)), .v (.int (gr : Nat)), .v (.int (My.prodN (gr / g :: Ls) : Nat)), a, b]) ⟨[], [], G.T.no, G.T.no, ⟨rfl, rfl⟩, rfl, ?_, rfl, ?_⟩ ?_ ?_
    · rw [My.prodN_cons, My.prodN_nil, Nat.mul_one]
      have := Nat.div_le_self gr g
      omega
    · rw [My.prodN_cons, My.prodN_nil, Nat.mul_one, Int.natCast_ediv]
      rfl
    · rintro i x _ _ hi hx ⟨sm, Ls, a, b, hsm, hsl, hbd, rfl, rfl⟩
      obtain ⟨x1, x2, x3, x4⟩ := My.small_mem (List.mem_of_getElem? hx)
      have xd := My.small_dvd (n := M) (by omega) (List.mem_of_getElem? hx)
      have hpw : PwOk x.1 x.2 := ⟨x1, by have := Nat.le_of_dvd (by omega) xd.2; omega⟩
      have q2 := My.pr_two x1
      unfold smD
      refine g_pair rfl ?_
      repeat walk_at "e"
      refine ⟨cs, x.1, x.2, rfl, rfl, hpw, okl, sc, fun t ht => ⟨⟨_, rfl⟩, ?_⟩⟩
      obtain ⟨w, hw⟩ := showW_ex x1 ht
      have tb := hpw.far ht.2
      have te := hpw.e
      repeat walk_at "e"
      refine ⟨x.1, t, rfl, rfl, by omega, by have := ht.2; omega, ⟨⟨_, rfl⟩, ?_⟩⟩
      refine w_mulW (mul_okP (a := 100 + 120 * i) (b := 120) (by rw [Int.natAbs_natCast]; exact hbd) (by rw [Int.natAbs_natCast]; exact tb) (by omega)) ?_
      have e1 : ((My.prodN (gr / g :: Ls) : Nat) : Int) * ((x.1 ^ t : Nat) : Int) = ((My.prodN (gr / g :: (Ls ++ [x.1 ^ t])) : Nat) : Int) := by
        rw [← Int.natCast_mul, My.prodN_cons, My.prodN_cons, My.prodN_app, My.prodN_cons, My.prodN_nil, Nat.mul_one, Nat.mul_assoc]
      rw [e1]
      refine ⟨sm ++ [.tup [.int (x.1 : Nat), .int (t : Nat), w]], Ls ++ [x.1 ^ t], _, _, ?_, by rw [List.length_append, hsl] <;> rfl, ?_, rfl, rfl⟩
      · rw [List.take_succ, hx]
        exact hsm.snoc ht hw
      · rw [show My.prodN (gr / g :: (Ls ++ [x.1 ^ t])) = My.prodN (gr / g :: Ls) * x.1 ^ t by rw [My.prodN_cons, My.prodN_cons, My.prodN_app, My.prodN_cons, My.prodN_nil, Nat.mul_one, Nat.mul_assoc], show 100 + 120 * (i + 1) = (100 + 120 * i) + 120 by omega, Nat.pow_add]
        exact Nat.mul_lt_mul'' hbd tb
    · rintro _ _ ⟨sm, Ls, a, b, hsm, hsl, hbd, rfl, rfl⟩
      rw [List.take_length] at hsm
      have fin := lp_end (M := M) (cs := cs) (by omega) okl hsm
      rw [← hG, ← hg] at fin
      repeat walk_at "e"
      rw [My.lpN_eq fin] at p
      exact ⟨rfl, p⟩
end My

set_option Elab.async false
set_option linter.all false
set_option maxRecDepth 100000
set_option maxHeartbeats 1000000
namespace G
open PySem PySem.Spec PyProof.Rows L2
end G

set_option Elab.async false
set_option linter.all false
set_option maxRecDepth 100000
set_option maxHeartbeats 4000000
namespace G
open PySem PySem.Spec PyProof.Rows L2
end G

set_option Elab.async false
set_option linter.all false
set_option maxRecDepth 100000
set_option maxHeartbeats 4000000
namespace G
open PySem PySem.Spec PyProof.Rows L2
end G

set_option Elab.async false
set_option linter.all false
set_option maxRecDepth 100000
set_option maxHeartbeats 4000000
namespace G
open PySem PySem.Spec PyProof.Rows L2
theorem cr_mostK (K : PySem.W.Frag) {X : Cx} (hc : X.calm = true) (hK : X.K = K := by rfl) : CallR X (.builtin "max") (rMax K) := hK ▸ cr_max hc
theorem c_most {K : PySem.W.Frag} {O : List OD} {P : PT'} {x : T} {ns : List Int} (hx : LstD x O (ns.map D.int)) (h0 : 0 < ns.length) (k : ∀ m, m ∈ ns → (∀ y, y ∈ ns → y ≤ m) → P (.v (.int m)) O) : WC K (rMax K) [x] O P := fun b A H Q vs s r kv => by
  obtain ⟨v, _, rfl, r1, rfl⟩ := r
  obtain ⟨a, us, rfl, h1, h2⟩ := lstD_at hx s r1
  rw [ints_of h2] at h1
  exact ⟨a, ns, rfl, h1, h0, fun m hm hl => kv _ _ A O H (k m hm hl) s Nxt.refl ⟨_, rfl, rfl⟩⟩
variable {K : PySem.W.Frag} {W : WX} {O : List OD} {ts : List T}
end G

set_option Elab.async false
set_option linter.all false
set_option maxRecDepth 100000
set_option maxHeartbeats 2000000
namespace G
open PySem PySem.Spec PyProof.Rows L2
/-- neither a table nor a locked dict -/
def NU (o : HO) : Prop := NT o ∧ ∀ ob kvs, o ≠ .frz ob (.dK kvs)
theorem nu_lst {vs : List V} : NU (.lst vs) := ⟨fun _ z => (by cases z), fun _ _ z => (by cases z)⟩
theorem nu_tup {vs : List V} : NU (.tup vs) := ⟨fun _ z => (by cases z), fun _ _ z => (by cases z)⟩
theorem nu_fl {o : Obj} {vs : List V} : NU (.frz o (.lst vs)) := ⟨fun _ z => (by cases z), fun _ _ z => (by cases z)⟩
theorem nu_ft {o : Obj} {vs : List V} : NU (.frz o (.tup vs)) := ⟨fun _ z => (by cases z), fun _ _ z => (by cases z)⟩
theorem nu_ins {C dx : Addr} {vs : List (Str × V)} : NU (.ins C dx vs) := ⟨fun _ z => (by cases z), fun _ _ z => (by cases z)⟩
theorem nu_dK {vs : List (Key × V)} : NU (.dK vs) := ⟨fun _ z => (by cases z), fun _ _ z => (by cases z)⟩
theorem nu_xd {vs : List (Str × V)} : NU (.xd vs) := ⟨fun _ z => (by cases z), fun _ _ z => (by cases z)⟩
theorem nu_exc {a C : Addr} {d : Option Addr} : NU (excH a C d) := ⟨nt_exc, fun _ _ z => (by unfold excH at z; cases z)⟩
/-- these all stay -/
def ExU (H H' : Hp) : Prop := ∀ a o, H a = some o → NU o → H' a = some o
theorem ExU.l {K : PySem.W.Frag} {H H' : Hp} {a : Addr} {xs : List V} (e : ExU H H') (h : SqL K H a xs) : SqL K H' a xs := by
  rcases h with (h | ⟨o, h⟩) | h
  · exact .inl (.inl (e _ _ h nu_lst))
  · exact .inl (.inr ⟨o, e _ _ h nu_fl⟩)
  · exact .inr h
theorem ExU.t {K : PySem.W.Frag} {H H' : Hp} {a : Addr} {xs : List V} (e : ExU H H') (h : SqT K H a xs) : SqT K H' a xs := by
  rcases h with (h | ⟨o, h⟩) | h
  · exact .inl (.inl (e _ _ h nu_tup))
  · exact .inl (.inr ⟨o, e _ _ h nu_ft⟩)
  · exact .inr h
mutual
/-- nothing that is told by a relation -/
def noX : D → Bool
  | .ext _ => false
  | .lst ds => noXL ds
  | .tup ds => noXL ds
  | .ins _ fs => noXF fs
  | .exc _ fs => noXF fs
  | .dic kvs => noXK kvs
  | _ => true
def noXL : List D → Bool
  | [] => true
  | d :: ds => noX d && noXL ds
def noXF : List (Str × D) → Bool
  | [] => true
  | p :: ds => noX p.2 && noXF ds
def noXK : List (Key × D) → Bool
  | [] => true
  | p :: ds => noX p.2 && noXK ds
end
theorem and_t {a b : Bool} (h : (a && b) = true) : a = true ∧ b = true := by
  cases a with
  | true => exact ⟨rfl, h⟩
  | false => cases h
mutual
theorem Rep.un {K : PySem.W.Frag} {H H' : Hp} (e : ExU H H') : ∀ (d : D) {v : V}, noX d = true → Rep K H d v → Rep K H' d v
  | .non, _, _, h => h
  | .bl _, _, _, h => h
  | .int _, _, _, h => h
  | .str _, _, _, h => h
  | .ty _, _, _, h => h
  | .ref _, _, _, h => h
  | .ext _, _, n, _ => by cases n
  | .lst ds, _, n, h => by
    obtain ⟨a, vs, e1, h1, h2⟩ := h
    exact ⟨a, vs, e1, e _ _ h1 nu_lst, RepL.un e ds n h2⟩
  | .scr ns, _, _, h => by
    obtain ⟨a, e1, h1⟩ := h
    exact ⟨a, e1, e.l h1⟩
  | .exc C fs, _, n, h => by
    obtain ⟨a, d, vs, e1, h1, h2, h3⟩ := h
    exact ⟨a, d, vs, e1, e _ _ h1 nu_exc, e _ _ h2 nu_xd, RepF.un e fs n h3⟩
  | .tup ds, _, n, h => by
    obtain ⟨a, vs, e1, h1, h2⟩ := h
    exact ⟨a, vs, e1, e.t h1, RepL.un e ds n h2⟩
  | .ins C fs, _, n, h => by
    obtain ⟨a, dx, vs, e1, h1, h2⟩ := h
    exact ⟨a, dx, vs, e1, e _ _ h1 nu_ins, RepF.un e fs n h2⟩
  | .dic kvs, _, n, h => by
    obtain ⟨a, ws, e1, h1, h2⟩ := h
    exact ⟨a, ws, e1, e _ _ h1 nu_dK, RepK.un e kvs n h2⟩
theorem RepL.un {K : PySem.W.Frag} {H H' : Hp} (e : ExU H H') : ∀ (ds : List D) {vs : List V}, noXL ds = true → RepL K H ds vs → RepL K H' ds vs
  | [], _, _, h => h
  | d :: ds, _, n, h => by
    obtain ⟨v, r, e1, h1, h2⟩ := h
    obtain ⟨n1, n2⟩ := and_t n
    exact ⟨v, r, e1, Rep.un e d n1 h1, RepL.un e ds n2 h2⟩
theorem RepF.un {K : PySem.W.Frag} {H H' : Hp} (e : ExU H H') : ∀ (ds : List (Str × D)) {vs : List (Str × V)}, noXF ds = true → RepF K H ds vs → RepF K H' ds vs
  | [], _, _, h => h
  | p :: ds, _, n, h => by
    obtain ⟨v, r, e1, h1, h2⟩ := h
    obtain ⟨n1, n2⟩ := and_t n
    exact ⟨v, r, e1, Rep.un e p.2 n1 h1, RepF.un e ds n2 h2⟩
theorem RepK.un {K : PySem.W.Frag} {H H' : Hp} (e : ExU H H') : ∀ (ds : List (Key × D)) {vs : List (Key × V)}, noXK ds = true → RepK K H ds vs → RepK K H' ds vs
  | [], _, _, h => h
  | p :: ds, _, n, h => by
    obtain ⟨v, r, e1, h1, h2⟩ := h
    obtain ⟨n1, n2⟩ := and_t n
    exact ⟨v, r, e1, Rep.un e p.2 n1 h1, RepK.un e ds n2 h2⟩
end
section
variable {K : PySem.W.Frag} {W : WX} {O : List OD} {ts : List T} {P : PT'} {X : XX} {t td : TE}
theorem live_or {A : List Addr} {i : Nat} {a c : Addr} (ha : A[i]? = some a) (h : c ∈ live A O) : c = a ∨ c ∈ live A (O.set i .gone) := by
  obtain ⟨j, o, h1, h2, h3⟩ := live_mem h
  by_cases e : i = j
  · subst e
    rw [ha] at h1
    exact .inl (Option.some.inj h1).symm
  · exact .inr (live_at h1 (by rw [List.getElem?_set, if_neg e]; exact h2) h3)
theorem RepK.get {F : Hp} : ∀ {kvs : List (Key × D)} {ws : List (Key × V)} {i : Nat} {k : Key} {v : V}, RepK K F kvs ws → ws[i]? = some (k, v) → ∃ d, kvs[i]? = some (k, d) ∧ Rep K F d v
  | [], ws, i, k, v, h, q => by
    cases (show ws = [] from h)
    simp at q
  | p :: ds, _, 0, k, v, h, q => by
    obtain ⟨w, r, rfl, h1, h2⟩ := h
    cases (Option.some.inj q)
    exact ⟨p.2, rfl, h1⟩
  | p :: ds, _, i + 1, k, v, h, q => by
    obtain ⟨w, r, rfl, h1, h2⟩ := h
    exact RepK.get (i := i) h2 q
end
end G

set_option Elab.async false
set_option linter.all false
set_option maxRecDepth 100000
set_option maxHeartbeats 2000000
namespace G
open PySem PySem.Spec PyProof.Rows L2
section
variable {K : PySem.W.Frag} {W : WX} {O : List OD} {ts : List T} {P : PT'} {X : XX}
end
section
variable {K : PySem.W.Frag} {W : WX} {O : List OD} {ts : List T} {P : PT'} {X : XX} {tk tv : TE} {vs : List Nat}
end
end G

set_option Elab.async false
set_option linter.all false
set_option maxRecDepth 100000
set_option maxHeartbeats 4000000
namespace G
open PySem PySem.Spec PyProof.Rows L2
/-- neither a table nor a lent list -/
def NUL (o : HO) : Prop := NT o ∧ ∀ ob kvs, o ≠ .frz ob (.lst kvs)
theorem nul_lst {vs : List V} : NUL (.lst vs) := ⟨fun _ z => (by cases z), fun _ _ z => (by cases z)⟩
theorem nul_tup {vs : List V} : NUL (.tup vs) := ⟨fun _ z => (by cases z), fun _ _ z => (by cases z)⟩
theorem nul_ft {o : Obj} {vs : List V} : NUL (.frz o (.tup vs)) := ⟨fun _ z => (by cases z), fun _ _ z => (by cases z)⟩
theorem nul_ins {C dx : Addr} {vs : List (Str × V)} : NUL (.ins C dx vs) := ⟨fun _ z => (by cases z), fun _ _ z => (by cases z)⟩
theorem nul_dK {vs : List (Key × V)} : NUL (.dK vs) := ⟨fun _ z => (by cases z), fun _ _ z => (by cases z)⟩
theorem nul_xd {vs : List (Str × V)} : NUL (.xd vs) := ⟨fun _ z => (by cases z), fun _ _ z => (by cases z)⟩
theorem nul_exc {a C : Addr} {d : Option Addr} : NUL (excH a C d) := ⟨nt_exc, fun _ _ z => (by unfold excH at z; cases z)⟩
/-- these all stay -/
def ExUL (H H' : Hp) : Prop := ∀ a o, H a = some o → NUL o → H' a = some o
theorem ExUL.t {K : PySem.W.Frag} {H H' : Hp} {a : Addr} {xs : List V} (e : ExUL H H') (h : SqT K H a xs) : SqT K H' a xs := by
  rcases h with (h | ⟨o, h⟩) | h
  · exact .inl (.inl (e _ _ h nul_tup))
  · exact .inl (.inr ⟨o, e _ _ h nul_ft⟩)
  · exact .inr h
mutual
/-- nothing that is told by a relation -/
def noY : D → Bool
  | .ext _ => false
  | .scr _ => false
  | .lst ds => noYL ds
  | .tup ds => noYL ds
  | .ins _ fs => noYF fs
  | .exc _ fs => noYF fs
  | .dic kvs => noYK kvs
  | _ => true
def noYL : List D → Bool
  | [] => true
  | d :: ds => noY d && noYL ds
def noYF : List (Str × D) → Bool
  | [] => true
  | p :: ds => noY p.2 && noYF ds
def noYK : List (Key × D) → Bool
  | [] => true
  | p :: ds => noY p.2 && noYK ds
end
theorem noYL_nums : ∀ xs : List Int, noYL (nums xs) = true
  | [] => rfl
  | x :: xs => by
    show (noY (.int x) && noYL (nums xs)) = true
    rw [noYL_nums xs] <;> rfl
def noYO : OD → Bool
  | .lst ds => noYL ds
  | .ins _ fs => noYF fs
  | .dic kvs => noYK kvs
  | .gone => true
mutual
theorem Rep.unL {K : PySem.W.Frag} {H H' : Hp} (e : ExUL H H') : ∀ (d : D) {v : V}, noY d = true → Rep K H d v → Rep K H' d v
  | .non, _, _, h => h
  | .bl _, _, _, h => h
  | .int _, _, _, h => h
  | .str _, _, _, h => h
  | .ty _, _, _, h => h
  | .ref _, _, _, h => h
  | .ext _, _, n, _ => by cases n
  | .lst ds, _, n, h => by
    obtain ⟨a, vs, e1, h1, h2⟩ := h
    exact ⟨a, vs, e1, e _ _ h1 nul_lst, RepL.unL e ds n h2⟩
  | .scr ns, _, n, _ => by cases n
  | .exc C fs, _, n, h => by
    obtain ⟨a, d, vs, e1, h1, h2, h3⟩ := h
    exact ⟨a, d, vs, e1, e _ _ h1 nul_exc, e _ _ h2 nul_xd, RepF.unL e fs n h3⟩
  | .tup ds, _, n, h => by
    obtain ⟨a, vs, e1, h1, h2⟩ := h
    exact ⟨a, vs, e1, e.t h1, RepL.unL e ds n h2⟩
  | .ins C fs, _, n, h => by
    obtain ⟨a, dx, vs, e1, h1, h2⟩ := h
    exact ⟨a, dx, vs, e1, e _ _ h1 nul_ins, RepF.unL e fs n h2⟩
  | .dic kvs, _, n, h => by
    obtain ⟨a, ws, e1, h1, h2⟩ := h
    exact ⟨a, ws, e1, e _ _ h1 nul_dK, RepK.unL e kvs n h2⟩
theorem RepL.unL {K : PySem.W.Frag} {H H' : Hp} (e : ExUL H H') : ∀ (ds : List D) {vs : List V}, noYL ds = true → RepL K H ds vs → RepL K H' ds vs
  | [], _, _, h => h
  | d :: ds, _, n, h => by
    obtain ⟨v, r, e1, h1, h2⟩ := h
    obtain ⟨n1, n2⟩ := and_t n
    exact ⟨v, r, e1, Rep.unL e d n1 h1, RepL.unL e ds n2 h2⟩
theorem RepF.unL {K : PySem.W.Frag} {H H' : Hp} (e : ExUL H H') : ∀ (ds : List (Str × D)) {vs : List (Str × V)}, noYF ds = true → RepF K H ds vs → RepF K H' ds vs
  | [], _, _, h => h
  | p :: ds, _, n, h => by
    obtain ⟨v, r, e1, h1, h2⟩ := h
    obtain ⟨n1, n2⟩ := and_t n
    exact ⟨v, r, e1, Rep.unL e p.2 n1 h1, RepF.unL e ds n2 h2⟩
theorem RepK.unL {K : PySem.W.Frag} {H H' : Hp} (e : ExUL H H') : ∀ (ds : List (Key × D)) {vs : List (Key × V)}, noYK ds = true → RepK K H ds vs → RepK K H' ds vs
  | [], _, _, h => h
  | p :: ds, _, n, h => by
    obtain ⟨v, r, e1, h1, h2⟩ := h
    obtain ⟨n1, n2⟩ := and_t n
    exact ⟨v, r, e1, Rep.unL e p.2 n1 h1, RepK.unL e ds n2 h2⟩
end
/-- a lent list -/
def lckLD (K : PySem.W.Frag) (od : Obj) (ws : List V) (es : List D) : D := .ext fun H a => H a = some (.frz od (.lst ws)) ∧ RepL K H es ws
theorem lckL_at {K : PySem.W.Frag} {F : Hp} {od : Obj} {ws : List V} {es : List D} {v : V} (r : Rep K F (lckLD K od ws es) v) : ∃ a, v = .ref a ∧ F a = some (.frz od (.lst ws)) ∧ RepL K F es ws := by
  obtain ⟨a, H0, e1, e0, h1, h2⟩ := r
  exact ⟨a, e1, e0 _ _ h1 (fun _ z => by cases z), h2.ex e0⟩
theorem lckL_sq {K : PySem.W.Frag} {F : Hp} {od : Obj} {ws : List V} {es : List D} {v : V} (r : Rep K F (lckLD K od ws es) v) : ∃ a, v = .ref a ∧ SqL K F a ws ∧ RepL K F es ws := by
  obtain ⟨a, e, h1, h2⟩ := lckL_at r
  exact ⟨a, e, .inl (.inr ⟨od, h1⟩), h2⟩
section
variable {K : PySem.W.Frag} {W : WX} {O : List OD} {ts : List T} {P : PT'} {X : XX} {t td : TE} {ta : TA}
/-- an expression that reads a list of our own: nothing is written to it meanwhile -/
theorem w_lockL (i : Nat) {es : List D} (ho : O[i]? = some (.lst es)) (hc : ∀ j o, j ≠ i → O[j]? = some o → noYO o = true)
    (h : ∀ od ws, WE K W t (O.set i .gone) (ts.map (G.thaw i (lckLD K od ws es))) (fun x O' => O' = O.set i .gone ∧ ∃ d, x = .v d ∧ noY d = true ∧ P (.v d) O) (fun _ _ _ => False)) : WE K W (tLockE t) O ts P X := fun b A σ H Q s rs kv kx => by
  have hi : i < O.length := (List.getElem?_eq_some_iff.mp ho).1
  obtain ⟨a, ha⟩ : ∃ a, A[i]? = some a := ⟨_, List.getElem?_eq_getElem (show i < A.length by rw [s.len]; exact hi)⟩
  obtain ⟨ws, hw, rk⟩ := s.cell i a _ ha ho
  have hl : a ∈ live A O := live_at ha ho (fun z => by cases z)
  refine ⟨a, .lst ws, hw, trivial, fun od => ?_⟩
  have na : a ∉ live A (O.set i .gone) := fun z => by
    obtain ⟨j, o', h1, h2, h4⟩ := live_mem z
    have e : i = j := nd_ix s.nd ha h1
    subst e
    rw [List.getElem?_set_self hi] at h2
    exact h4 (Option.some.inj h2).symm
  have nz : a ∉ b.Z := fun z => (s.z_at z).1 hl
  have x1 : Ex (Fz b A O H) (Fz b A (O.set i .gone) (upd H a (.frz od (.lst ws)))) := hid_monoW (fun c o h1 h2 _ => by rw [upd_ne (fun z : c = a => h1 (List.mem_append_left _ (by rw [z]; exact hl)))]; exact h2) fun c o h1 h2 h3 => by
    rcases List.mem_append.mp h3 with h3 | h3
    · exact h1 (List.mem_append_left _ (live_sub h3))
    · exact h1 (List.mem_append_right _ h3)
  have s1 : StO K b A (O.set i .gone) (upd H a (.frz od (.lst ws))) := by
    refine ⟨by rw [List.length_set]; exact s.len, s.pre, s.ext.trans (hid_monoW (fun c o h1 h2 _ => by rw [upd_ne (fun z : c = a => h1 (by rw [z]; exact hl))]; exact h2) fun c o h1 h2 h3 => h1 (live_sub h3)), s.zs, s.nd, fun c hm => ?_, fun j c u h1 h2 => ?_, ?_⟩
    · by_cases e : c = a
      · exact ⟨_, by rw [e, upd_same], fun _ z => by cases z⟩
      · obtain ⟨o, q, n⟩ := s.inh c hm
        exact ⟨o, by rw [upd_ne e]; exact q, n⟩
    · rw [List.getElem?_set] at h2
      by_cases hij : i = j
      · rw [if_pos hij, if_pos hi] at h2
        cases h2
        trivial
      · rw [if_neg hij] at h2
        have e : c ≠ a := fun z => hij (nd_ix s.nd ha (z ▸ h1))
        exact (s.cell j c u h1 h2).ex x1 fun _ q => by rw [upd_ne e]; exact q
    · exact s.tb.upd hw (fun _ z => by cases z) (fun c q z => by unfold LamX.CodeO at z; cases z) _
  have n1 : Nxt b A O H A (O.set i .gone) (upd H a (.frz od (.lst ws))) := ⟨⟨[], (List.append_nil A).symm⟩, x1⟩
  have fa : Fz b A (O.set i .gone) (upd H a (.frz od (.lst ws))) a = some (.frz od (.lst ws)) := hid_some.mpr ⟨fun z => (List.mem_append.mp z).elim na nz, upd_same⟩
  have rl : Rep K (Fz b A (O.set i .gone) (upd H a (.frz od (.lst ws)))) (lckLD K od ws es) (.ref a) := ⟨a, _, rfl, Ex.refl _, fa, rk.ex x1⟩
  refine h od ws b A σ _ _ s1 ((rs.nxt n1).thaw ha rl) (fun x v A' O' H' p s' n' r' => ?_) (fun C fs A' O' H' d z => z.elim)
  obtain ⟨rfl, d, rfl, nx, q⟩ := p
  have eA : A' = A := by
    obtain ⟨M, e⟩ := n'.pre
    have l1 := s'.len
    rw [List.length_set, e, List.length_append, s.len] at l1
    have : M.length = 0 := by omega
    rw [e, List.length_eq_zero_iff.mp this, List.append_nil]
  subst eA
  have fr : H' a = some (.frz od (.lst ws)) := (hid_some.mp (n'.ext _ _ fa (fun _ z => by cases z))).2
  have U : ExUL (Fz b A' (O.set i .gone) H') (Fz b A' O (upd H' a (.lst ws))) := fun c o h1 n => by
    obtain ⟨h2, h3⟩ := hid_some.mp h1
    have e : c ≠ a := fun z => by
      rw [z, fr] at h3
      exact n.2 _ _ (Option.some.inj h3).symm
    refine hid_some.mpr ⟨fun z => ?_, by rw [upd_ne e]; exact h3⟩
    rcases List.mem_append.mp z with z | z
    · rcases live_or ha z with z | z
      · exact e z
      · exact h2 (List.mem_append_left _ z)
    · exact h2 (List.mem_append_right _ z)
  have x4 : Ex (Fz b A' O H) (Fz b A' O (upd H' a (.lst ws))) := fun c o h1 n => by
    have h3 := n'.ext _ _ (x1 _ _ h1 n) n
    have e : c ≠ a := fun z => (hid_some.mp h1).1 (List.mem_append_left _ (by rw [z]; exact hl))
    exact hid_some.mpr ⟨(hid_some.mp h1).1, by rw [upd_ne e]; exact (hid_some.mp h3).2⟩
  have s2 : StO K b A' O (upd H' a (.lst ws)) := by
    refine ⟨s.len, s.pre, fun c o h1 n => ?_, s.zs, s.nd, fun c hm => ?_, fun j c u h1 h2 => ?_, ?_⟩
    · obtain ⟨g1, _⟩ := hid_some.mp (s.ext c o h1 n)
      have g2 := (hid_some.mp (s'.ext c o h1 n)).2
      exact hid_some.mpr ⟨g1, by rw [upd_ne (fun z : c = a => g1 (by rw [z]; exact hl))]; exact g2⟩
    · by_cases e : c = a
      · exact ⟨_, by rw [e, upd_same], fun _ z => by cases z⟩
      · obtain ⟨o, q, n⟩ := s'.inh c hm
        exact ⟨o, by rw [upd_ne e]; exact q, n⟩
    · by_cases hij : i = j
      · subst hij
        rw [ha] at h1
        cases h1
        rw [ho] at h2
        cases h2
        exact ⟨ws, upd_same, rk.ex x4⟩
      · have e : c ≠ a := fun z => hij (nd_ix s.nd ha (z ▸ h1))
        have c' := s'.cell j c u h1 (by rw [List.getElem?_set, if_neg hij]; exact h2)
        have nu := hc j u (fun z => hij z.symm) h2
        cases u with
        | gone => trivial
        | lst ds =>
          obtain ⟨vs, c1, c2⟩ := c'
          exact ⟨vs, by rw [upd_ne e]; exact c1, RepL.unL U ds nu c2⟩
        | ins C fs =>
          obtain ⟨dx, vs, c1, c2⟩ := c'
          exact ⟨dx, vs, by rw [upd_ne e]; exact c1, RepF.unL U fs nu c2⟩
        | dic ks =>
          obtain ⟨vs, c1, c2⟩ := c'
          exact ⟨vs, by rw [upd_ne e]; exact c1, RepK.unL U ks nu c2⟩
    · exact s'.tb.upd fr (fun _ z => by cases z) (fun c q z => by unfold LamX.CodeO at z; cases z) _
  obtain ⟨w, e4, r4⟩ := r'
  exact ⟨fr, kv _ v A' O _ q s2 ⟨⟨[], (List.append_nil A').symm⟩, x4⟩ ⟨w, e4, Rep.unL U d nx r4⟩⟩
theorem i_zipLX {S : (Nat → Option T) → List OD → Prop} (h : WA K W ta O ts (fun xs O' => ∃ ds es od ws0, xs = [.v (.lst ds), .v (lckLD K od ws0 es)] ∧ S (itZ ds es) O') X) : WI K W (RZ.iZipA K ta) O ts S X := fun b A σ H R s rs k kx =>
  h b A σ H _ s rs (fun xs vs A' O' H' p s' n' r' => by
    obtain ⟨ds, es, od, ws, rfl, q⟩ := p
    obtain ⟨v, _, rfl, ⟨_, e, a, us, rfl, h1, h2⟩, v', _, rfl, ⟨_, e', r4'⟩, rfl⟩ := r'
    cases e'
    obtain ⟨c, rfl, h3, h4⟩ := lckL_sq r4'
    replace h1 := SqL.of (K := K) h1
    cases e
    refine ⟨a, c, us, ws, rfl, .inl ⟨hid_ex.l h1, hid_ex.l h3, k _ _ A' O' H' q s' n' fun i A2 O2 H2 s2 n2 => ⟨fun hn _ => ⟨us, ws, hid_ex.l (n2.ext.l h1), hid_ex.l (n2.ext.l h3), by rw [h2.length, h4.length]; exact itZ_none hn⟩, fun t ht => ?_⟩⟩⟩
    obtain ⟨d, e, e1, e2, rfl⟩ := itZ_some ht
    obtain ⟨v, e3, r3⟩ := h2.get e1
    obtain ⟨v', e4, r4⟩ := h4.get e2
    have k1 : SqL K H2 a us := hid_ex.l (n2.ext.l h1)
    have k2 : SqL K H2 c ws := hid_ex.l (n2.ext.l h3)
    refine ⟨⟨us, ws, v, v', k1, k2, e3, e4⟩, fun x H3 y => ?_⟩
    obtain ⟨p, w, w', rfl, hp, rfl, y1, y2⟩ := y
    have e5 : w = v := Option.some.inj ((y1 us k1).symm.trans e3)
    have e6 : w' = v' := Option.some.inj ((y2 ws k2).symm.trans e4)
    subst e5 e6
    exact pair_laid s2 hp (r3.ex n2.ext) (r4.ex n2.ext)) kx
end
end G

set_option Elab.async false
set_option linter.all false
set_option maxRecDepth 100000
set_option maxHeartbeats 4000000
namespace G
open PySem PySem.Spec PyProof.Rows L2
section
variable {K : PySem.W.Frag} {W : WX} {O : List OD} {ts : List T} {X : XX}
theorem i_list2 {tl : TE} {S : (Nat → Option T) → List OD → Prop} (h : WE K W tl O ts (fun t O' => ∃ ds, (t = .v (.lst ds) ∨ ∃ od ws, t = .v (lckLD K od ws ds)) ∧ S (itD ds) O') X) : WI K W (iList K tl) O ts S X := fun b A σ H R s rs k kx =>
  h b A σ H _ s rs (fun t v A' O' H' p s' n' r' => by
    obtain ⟨ds, hd, q⟩ := p
    have key : ∃ a vs, v = .ref a ∧ SqL K (Fz b A' O' H') a vs ∧ RepL K (Fz b A' O' H') ds vs := by
      rcases hd with rfl | ⟨od, ws, rfl⟩
      · obtain ⟨_, e, a, vs, rfl, h1, h2⟩ := r'
        cases e
        exact ⟨a, vs, rfl, SqL.of (K := K) h1, h2⟩
      · obtain ⟨_, e, r4⟩ := r'
        cases e
        obtain ⟨c, rfl, h3, h4⟩ := lckL_sq r4
        exact ⟨c, ws, rfl, h3, h4⟩
    obtain ⟨a, vs, rfl, h1, h2⟩ := key
    have h1' := (hid_ex : Ex (Fz b A' O' H') H').l h1
    refine ⟨a, rfl, ⟨vs, h1'⟩, k _ _ A' O' H' q s' n' fun i A2 O2 H2 s2 n2 => ⟨fun hn _ => ⟨vs, hid_ex.l (n2.ext.l h1), by rw [h2.length]; exact itD_none hn⟩, fun t ht => ?_⟩⟩
    obtain ⟨d, e1, rfl⟩ := itD_some ht
    obtain ⟨v, e2, r⟩ := h2.get e1
    have h2' : SqL K H2 a vs := hid_ex.l (n2.ext.l h1)
    refine ⟨⟨vs, v, h2', e2⟩, fun x H3 y => ?_⟩
    obtain ⟨rfl, y⟩ := y
    have e3 := (y vs h2').symm.trans e2
    have e4 : x = v := Option.some.inj e3
    subst e4
    exact ⟨s2, Nxt.refl, ⟨_, rfl, r.ex n2.ext⟩⟩) kx
end
end G

set_option Elab.async false
set_option linter.all false
set_option maxRecDepth 100000
set_option maxHeartbeats 4000000
namespace G
open PySem PySem.Spec PyProof.Rows L2
end G

set_option Elab.async false
set_option linter.all false
set_option maxRecDepth 100000
set_option maxHeartbeats 4000000
namespace G
open PySem PySem.Spec PyProof.Rows L2
section
variable {X : Cx} {CX : CXT} {k : Nat} {C g : Addr} {sp : Sp} {E : L2.St → XK} {E1 : XK}
end
section
variable {K : PySem.W.Frag} {W : WX} {O : List OD} {ts : List T} {P : PT'} {X : XX} {sp : SpD} {ta tb : TE} {C : Addr}
end
end G

set_option Elab.async false
set_option linter.all false
set_option maxRecDepth 100000
set_option maxHeartbeats 4000000
namespace RZ
open PySem PySem.Spec PyProof.Rows L2
end RZ
namespace G
open PySem PySem.Spec PyProof.Rows L2
section
variable {K : PySem.W.Frag} {W : WX} {O : List OD} {ts : List T} {X : XX} {ta : TA}
end
end G

set_option Elab.async false
set_option linter.all false
set_option maxRecDepth 100000
set_option maxHeartbeats 4000000
namespace G
open PySem PySem.Spec PyProof.Rows L2
section
variable {K : PySem.W.Frag} {W : WX} {O : List OD} {ts : List T} {ta : TA}
theorem s_tup3 {E : DE} {i j l : Nat} (h : WA K W ta O ts (fun xs O' => ∃ x y z, xs = [x, y, z] ∧ E.nx (((ts.set i x).set j y).set l z) O') (fun C fs O' => E.xe C fs ts O')) : WS K W (tAsg (tTup ta) (gTup K 3 (gCons (gName i) (gCons (gName j) (gCons (gName l) gNil))))) O ts E := fun b A σ H D s rs ks =>
  h b A σ H _ s rs (fun xs vs A' O' H' p s' n' r' => by
    obtain ⟨x, y, z, rfl, q⟩ := p
    obtain ⟨v, _, rfl, r1, w', _, rfl, r2, w2, _, rfl, r3, rfl⟩ := r'
    refine ⟨by show 3 ≤ sizeLine; decide, fun p' hp => ?_⟩
    obtain ⟨s2, n2, _⟩ := s'.lay hp (.tup [v, w', w2])
    refine ⟨p', [v, w', w2], rfl, .inl (.inl upd_same), rfl, v, _, rfl, w', _, rfl, w2, _, rfl, rfl, ?_⟩
    exact ks.nx _ _ A' O' _ q s2 (n'.trans n2) (((((rs.nxt n').set r1 i).set r2 j).set r3 l).nxt n2)) (ks.kx rs)
end
end G

set_option Elab.async false
set_option linter.all false
set_option maxRecDepth 100000
set_option maxHeartbeats 0
namespace My
open PySem PySem.Spec PyProof.Rows L2 G
open La (Tri Fl putT lessT echT agT keptT fullF frow bez bezF diagT Red md Bq)
structure MwOk (m : Int) (n : Nat) : Prop where
  m1 : 2 ≤ m
  m2 : m ≤ 1000000000000000000000000000000
  n1 : 1 ≤ n
  n2 : n ≤ 8
def LN (r : List Int) : D := .lst (nums r)
def chC (K : PySem.W.Frag) (b : Bool) : Addr := if b then He.ga K "Late" else He.ga K "Prompt"
theorem dot_zipS : ∀ (xs ys : List Int), (List.zipWith (fun x y => x * y) xs ys).sum = La.dot xs ys
  | [], _ => rfl
  | _ :: _, [] => rfl
  | x :: xs, y :: ys => by
    rw [List.zipWith_cons_cons, List.sum_cons, dot_zipS xs ys] <;> rfl
theorem natB {x : Int} {a : Nat} (h : x.natAbs < 2 ^ a) (ha : a ≤ 1200) : -((2 ^ 1200 : Nat) : Int) < x ∧ x < ((2 ^ 1200 : Nat) : Int) := by
  have h2 : 2 ^ a ≤ 2 ^ 1200 := Nat.pow_le_pow_right (by decide) ha
  generalize 2 ^ 1200 = B at h2 ⊢
  omega
theorem times_bd {len : Int} (h0 : 1 ≤ len) (h : len ≤ 1000000000000000000000000000000000000000) {c : Nat} (hc : c ≤ 6) : ∀ x ∈ timesF len c, -((2 ^ 1200 : Nat) : Int) < x ∧ x < ((2 ^ 1200 : Nat) : Int) := fun x hx => by
  unfold timesF at hx
  obtain ⟨i, hi, rfl⟩ := List.mem_map.mp hx
  have hi := List.mem_range.mp hi
  refine natB (bin_bd (a := 140) ?_ (i + 1) (by omega)) ?_
  · have : (2 ^ 140 : Nat) = 1393796574908163946345982392040522594123776 := rfl
    omega
  · have : 140 * (i + 1) ≤ 140 * 6 := Nat.mul_le_mul_left _ (by omega)
    omega
theorem small_at {l : Bool} {n : Nat} (hn : n ≤ 6) (k p : Nat) : 0 ≤ ((formsOf l n).getD k []).getD p 0 ∧ ((formsOf l n).getD k []).getD p 0 ≤ 64 := by
  have h := forms_small l ⟨n, by omega⟩
  simp only at h
  have key : ∀ f ∈ formsOf l n, ∀ x ∈ f, 0 ≤ x ∧ x ≤ 64 := fun f hf x hx => of_decide_eq_true (List.all_eq_true.mp (List.all_eq_true.mp h f hf) x hx)
  rw [List.getD_eq_getElem?_getD, List.getD_eq_getElem?_getD]
  cases e : (formsOf l n)[k]? with
  | none => exact ⟨Int.le_refl 0, (show (0 : Int) ≤ 64 by decide)⟩
  | some f =>
    show 0 ≤ (f[p]?).getD 0 ∧ (f[p]?).getD 0 ≤ 64
    cases e2 : f[p]? with
    | none => exact ⟨Int.le_refl 0, (show (0 : Int) ≤ 64 by decide)⟩
    | some x => exact key f (List.mem_of_getElem? e) x (List.mem_of_getElem? e2)
theorem lt_szN {n : Nat} (h : n < 1000000) : n < sizeLine := Nat.lt_of_lt_of_le h (Nat.le_of_ble_eq_true rfl)
theorem lc_one {K : PySem.W.Frag} {W : WX} {g : TG} {te : TE} {vs : List Nat} {P : PT'} {ts : List G.T} {O : List OD} {n : Nat} (f : Nat → Int) (hz : n ≤ 1000000)
    (hs : ∀ (i : Nat) acc, i < n → WG K W g (.v (.int ((i + 1 : Nat) : Int))) (O ++ [.lst acc]) (wipeT ts vs) (fun ts2 O2 => WE K W te O2 ts2 (fun y O4 => y = .v (.int (f i)) ∧ O4 = O ++ [.lst acc]) X0))
    (hd : P (.v (.lst (nums ((List.range n).map f)))) O) : LcEx K W g te vs P ts (itR 1 1 n) O := by
  refine lc_R2 (lo := 1) (fun z => .int (f (z.toNat - 1))) hz (fun i acc hi => ?_) ?_
  · have e : (1 : Int) + (i : Int) = ((i + 1 : Nat) : Int) := by omega
    have e2 : (1 + (i : Int)).toNat - 1 = i := by omega
    have := hs i acc hi
    rw [← e] at this
    rw [e2]
    exact this
  · have e : ((List.range n).map fun i : Nat => D.int (f ((1 + (i : Int)).toNat - 1))) = nums ((List.range n).map f) := by
      unfold nums
      rw [List.map_map]
      exact List.map_congr_left fun i _ => by rw [show (1 + (i : Int)).toNat - 1 = i by omega] <;> rfl
    rw [e]
    exact hd
theorem atF {F : List (List Int)} {k : Nat} {z : Int} (hz : z = (k : Nat)) (h : k < F.length) : atI (F.map LN) z = some (LN (F.getD k [])) := by
  subst hz
  refine atI_nat ?_
  rw [List.getElem?_map, List.getD_eq_getElem?_getD, List.getElem?_eq_getElem h] <;> rfl
theorem atZ {xs : List Int} {k : Nat} {z : Int} (hz : z = (k : Nat)) (h : k < xs.length) : atI (nums xs) z = some (.int (xs.getD k 0)) := by
  subst hz
  refine atI_nat ?_
  unfold nums
  rw [List.getElem?_map, List.getD_eq_getElem?_getD, List.getElem?_eq_getElem h] <;> rfl
def sp_st_named (K : PySem.W.Frag) : SpD := fun ts O P X => ∃ (n p : Nat), ts = [.v (.int (n : Nat)), .v (.int (p : Nat))] ∧ O = [] ∧ n ≤ 8 ∧ p ≤ 8 ∧ P (.v (LN (named n p))) []
theorem sp_st_named_len {K : PySem.W.Frag} {ts O P X} (h : sp_st_named K ts O P X) : ts.length = 2 := by
  obtain ⟨n, p, rfl, _⟩ := h
  rfl
def sp_st_next (K : PySem.W.Frag) : SpD := fun ts O P X => ∃ (l : Bool) (n : Nat) (F : List (List Int)) (b : List Int), ts = [.v (.lst (F.map LN)), .v (LN b), .v (.bl (!l))] ∧ O = [] ∧ n ≤ 8 ∧ F.length ≤ 10 ∧ (∀ f ∈ F, f.length = n) ∧ b.length = n ∧ P (.v (.lst ((nextF l F b).map LN))) []
theorem sp_st_next_len {K : PySem.W.Frag} {ts O P X} (h : sp_st_next K ts O P X) : ts.length = 3 := by
  obtain ⟨l, n, F, b, rfl, _⟩ := h
  rfl
def sp_st_forms (K : PySem.W.Frag) : SpD := fun ts O P X => ∃ (l : Bool) (n : Nat) (m : Int), ts = [.v (chD (chC K l) (n : Nat) m)] ∧ O = [] ∧ 1 ≤ n ∧ n ≤ 6 ∧ P (.v (.lst ((formsOf l n).map LN))) []
theorem sp_st_forms_len {K : PySem.W.Frag} {ts O P X} (h : sp_st_forms K ts O P X) : ts.length = 1 := by
  obtain ⟨l, n, m, rfl, _⟩ := h
  rfl

theorem itZ_cut {α β : Type} (xs : List α) (ys : List β) (e1 : α → D) (e2 : β → D) (k : Nat) (hk : k = min xs.length ys.length) : itZ (xs.map e1) (ys.map e2) = itZ ((xs.take k).map e1) ((ys.take k).map e2) := by
  funext i
  unfold itZ
  by_cases h : i < k
  · rw [List.getElem?_map, List.getElem?_map, List.getElem?_map, List.getElem?_map, List.getElem?_take, List.getElem?_take, if_pos h, if_pos h]
  · have h3 : xs.length ≤ i ∨ ys.length ≤ i := by omega
    have a : ((xs.take k).map e1)[i]? = none := List.getElem?_eq_none (by rw [List.length_map, List.length_take]; omega)
    have b : ((ys.take k).map e2)[i]? = none := List.getElem?_eq_none (by rw [List.length_map, List.length_take]; omega)
    rw [a]
    rcases h3 with h3 | h3
    · rw [List.getElem?_eq_none (by rw [List.length_map]; omega)]
    · cases (xs.map e1)[i]? with
      | none => rfl
      | some d => rw [List.getElem?_eq_none (by rw [List.length_map]; omega)]
theorem zip_cut : ∀ (xs ys : List Int) (k : Nat), k = min xs.length ys.length → List.zipWith (fun x y => x * y) (xs.take k) (ys.take k) = List.zipWith (fun x y => x * y) xs ys
  | [], ys, k, _ => by rw [List.take_nil] <;> rfl
  | x :: xs, [], k, _ => by rw [List.take_nil, List.zipWith_nil_right, List.zipWith_nil_right]
  | x :: xs, y :: ys, k, h => by
    rw [List.length_cons, List.length_cons] at h
    obtain ⟨j, rfl⟩ : ∃ j, k = j + 1 := ⟨k - 1, by omega⟩
    rw [List.take_succ_cons, List.take_succ_cons, List.zipWith_cons_cons, List.zipWith_cons_cons, zip_cut xs ys j (by omega)]
theorem na_of {x : Int} {B : Nat} (h : -(B : Int) < x ∧ x < B) : x.natAbs < B := by omega
def sp_st_prod (K : PySem.W.Frag) : SpD := fun ts O P X => ∃ (xs ys : List Int) (a b : Nat) (d : D), ts = [.v (.lst (nums xs)), .v d] ∧ O = [] ∧ (d = .lst (nums ys) ∨ ∃ od ws, d = lckLD K od ws (nums ys)) ∧ a + b ≤ 2000 ∧ xs.length ≤ 8 ∧ ys.length ≤ 8 ∧ (∀ x ∈ xs, x.natAbs < 2 ^ a) ∧ (∀ y ∈ ys, y.natAbs < 2 ^ b) ∧ P (.v (.int (La.dot xs ys))) []
theorem sp_st_prod_len {K : PySem.W.Frag} {ts O P X} (h : sp_st_prod K ts O P X) : ts.length = 2 := by
  obtain ⟨xs, ys, a, b, d, rfl, _⟩ := h
  rfl
def sp_st_rows (K : PySem.W.Frag) : SpD := fun ts O P X => ∃ (l : Bool) (n : Nat) (m0 m len : Int), ts = [.v (chD (chC K l) (n : Nat) m0), .v (.int len), .v (.int m)] ∧ O = [] ∧ MwOk m n ∧ n ≤ 6 ∧ 1 ≤ len ∧ len ≤ 1000000000000000000000000000000000000000 ∧ P (.v (.lst ((rowsF l n len m).map LN))) []
theorem sp_st_rows_len {K : PySem.W.Frag} {ts O P X} (h : sp_st_rows K ts O P X) : ts.length = 3 := by
  obtain ⟨l, n, m0, m, len, rfl, _⟩ := h
  rfl
def sp_st_nch (K : PySem.W.Frag) : SpD := fun ts O P X => ∃ (l : Bool) (n : Nat) (m : Int), ts = [.v (chD (chC K l) (n : Nat) m)] ∧ O = [] ∧ P (.v .non) []
theorem sp_st_nch_len {K : PySem.W.Frag} {ts O P X} (h : sp_st_nch K ts O P X) : ts.length = 1 := by
  obtain ⟨l, n, m, rfl, _⟩ := h
  rfl
open My (cfL AllK LgT swF swS leaveF lsF LgOk lgG TsOk lgPs lgLs)
theorem cut_tailN (v : List Int) : cutD (nums v) (some 1) none = nums v.tail := by rw [cut_tail, List.drop_one]
theorem rg_find (k : Nat) (f : Nat → Bool) (h : ∃ j, j < k ∧ f (j + 1) = true) : ∃ a r, (rgI 1 (1 + (k : Int))).filter (fun z : Int => f z.toNat) = ((a + 1 : Nat) : Int) :: r ∧ (List.range k).find? (fun p => f (p + 1)) = some a ∧ a < k := by
  have e : (rgI 1 (1 + (k : Int))).filter (fun z : Int => f z.toNat) = ((List.range k).filter fun p => f (p + 1)).map fun p => ((p + 1 : Nat) : Int) := by
    unfold rgI
    rw [show (1 + (k : Int) - 1).toNat = k by omega, List.filter_map]
    have : ((fun z : Int => f z.toNat) ∘ fun i : Nat => 1 + (i : Int)) = fun p => f (p + 1) := by
      funext i
      show f (1 + (i : Int)).toNat = _
      rw [show (1 + (i : Int)).toNat = i + 1 by omega]
    rw [this]
    exact List.map_congr_left fun i _ => by omega
  obtain ⟨j, hj, hf⟩ := h
  have hm : j ∈ (List.range k).filter fun p => f (p + 1) := List.mem_filter.mpr ⟨List.mem_range.mpr hj, hf⟩
  cases hc : (List.range k).filter fun p => f (p + 1) with
  | nil =>
    rw [hc] at hm
    cases hm
  | cons a r =>
    refine ⟨a, r.map fun p => ((p + 1 : Nat) : Int), by rw [e, hc] <;> rfl, ?_, ?_⟩
    · rw [← List.head?_filter, hc] <;> rfl
    · have : a ∈ (List.range k).filter fun p => f (p + 1) := by rw [hc]; exact List.mem_cons_self
      exact List.mem_range.mp (List.mem_filter.mp this).1
theorem mem_zw {α β γ : Type} (f : α → β → γ) : ∀ (a : List α) (b : List β) (z : γ), z ∈ List.zipWith f a b → ∃ x y, z = f x y
  | [], _, z, h => by rw [List.zipWith_nil_left] at h; cases h
  | _ :: _, [], z, h => by rw [List.zipWith_nil_right] at h; cases h
  | x :: a, y :: b, z, h => by
    rw [List.zipWith_cons_cons] at h
    rcases List.mem_cons.mp h with rfl | h
    · exact ⟨x, y, rfl⟩
    · exact mem_zw f a b z h
theorem rep_sml (k b : Nat) : Sml b (List.replicate k 0) := fun z hz => by
  rw [List.eq_of_mem_replicate hz]
  exact Nat.pow_pos (by decide)
theorem lsF_sml (l : Bool) (n : Nat) (x : Int) (p e t : Nat) : Sml 200 (lsF l n x p e t) := by
  unfold lsF leaveF
  split
  · exact rep_sml _ _
  · split
    · exact rep_sml _ _
    · intro z hz
      unfold named at hz
      obtain ⟨j, _, rfl⟩ := List.mem_map.mp hz
      split <;> decide
def prD (y : List Int × Nat) : D := .tup [LN y.1, .int (y.2 : Nat)]
def lgD (K : PySem.W.Frag) (a b : D) : D := .ins (He.ga K "Longest") [("length", a), ("starts", b)]
def sp_st_nin (K : PySem.W.Frag) : SpD := fun ts O P X => ∃ (l : Bool) (n : Nat) (m0 x : Int), ts = [.v (chD (chC K l) (n : Nat) m0), .v (.int x)] ∧ O = [] ∧ 0 ≤ x ∧ x < m0 ∧ P (.v .non) []
theorem sp_st_nin_len {K : PySem.W.Frag} {ts O P X} (h : sp_st_nin K ts O P X) : ts.length = 2 := by
  obtain ⟨l, n, m0, x, rfl, _⟩ := h
  rfl
def sp_st_sw (K : PySem.W.Frag) : SpD := fun ts O P X => ∃ (l : Bool) (n : Nat) (m0 x : Int) (g : Nat) (last : Int), ts = [.v (chD (chC K l) (n : Nat) m0), .v (.int x), .v (.int (g : Nat)), .v (.int last)] ∧ O = [] ∧ 1 ≤ n ∧ n ≤ 6 ∧ 0 ≤ x ∧ x ≤ 1000000000000000000000000000000 ∧ 1 ≤ g ∧ (g : Int) ≤ 1000000000000000000000000000000 ∧ 0 ≤ last ∧ last ≤ 1 ∧ P (.v (LN (swS l n x g last))) []
theorem sp_st_sw_len {K : PySem.W.Frag} {ts O P X} (h : sp_st_sw K ts O P X) : ts.length = 4 := by
  obtain ⟨l, n, m0, x, g, last, rfl, _⟩ := h
  rfl
def sp_st_ws (K : PySem.W.Frag) : SpD := fun ts O P X => ∃ (l : Bool) (n : Nat) (m0 : Int) (ps : List (List Int × Nat)) (d : D), ts = [.v (chD (chC K l) (n : Nat) m0), .v d] ∧ O = [] ∧ (d = .lst (ps.map prD) ∨ ∃ od ws, d = lckLD K od ws (ps.map prD)) ∧ 1 ≤ n ∧ n ≤ 6 ∧ ps.length ≤ 6 ∧ (∀ y ∈ ps, y.1.length = n - 1 ∧ 1 ≤ y.2 ∧ (y.2 : Int) ≤ 1000000000000000000000000000000 ∧ Sml 200 y.1) ∧ My.Cop (ps.map (·.2)) ∧ ∀ S : List Int, S.length = n - 1 → (∀ k, k < n - 1 → My.Lvs (S.getD k 0) (ps.map fun y => (y.1.getD k 0, y.2))) → G.InR (My.prodN (ps.map (·.2)) : Nat) S → P (.v (.tup (nums (S ++ [0])))) []
theorem sp_st_ws_len {K : PySem.W.Frag} {ts O P X} (h : sp_st_ws K ts O P X) : ts.length = 2 := by
  obtain ⟨l, n, m0, ps, d, rfl, _⟩ := h
  rfl
def sp_st_ak (K : PySem.W.Frag) : SpD := fun ts O P X => ∃ (rows : List (List Int)) (x : Int) (m k : Nat), ts = [.v (.lst (rows.map LN)), .v (.int x), .v (.int (m : Nat))] ∧ O = [] ∧ 2 ≤ m ∧ rows.length ≤ 8 ∧ (∀ v ∈ rows, v.length = k + 1 ∧ Sml 110 v) ∧ k ≤ 6 ∧ x.natAbs < 2 ^ 110 ∧ ∀ r : Bool, (r = true ↔ AllK (m : Nat) x rows) → P (.v (.bl r)) []
theorem sp_st_ak_len {K : PySem.W.Frag} {ts O P X} (h : sp_st_ak K ts O P X) : ts.length = 3 := by
  obtain ⟨rows, x, m, k, rfl, _⟩ := h
  rfl
def sp_st_lv (K : PySem.W.Frag) : SpD := fun ts O P X => ∃ (rows : List (List Int)) (x : Int) (m k : Nat), ts = [.v (.lst (rows.map LN)), .v (.int x), .v (.int (m : Nat))] ∧ O = [] ∧ 2 ≤ m ∧ rows.length = k + 1 ∧ (∀ v ∈ rows, v.length = k + 1 ∧ Sml 110 v) ∧ k ≤ 6 ∧ x.natAbs < 2 ^ 110 ∧ ¬ AllK (m : Nat) x rows ∧ P (.v (LN (leaveF rows x (m : Nat) k))) []
theorem sp_st_lv_len {K : PySem.W.Frag} {ts O P X} (h : sp_st_lv K ts O P X) : ts.length = 3 := by
  obtain ⟨rows, x, m, k, rfl, _⟩ := h
  rfl
def sp_st_ls (K : PySem.W.Frag) : SpD := fun ts O P X => ∃ (l : Bool) (n : Nat) (m0 x : Int) (p e : Nat), ts = [.v (chD (chC K l) (n : Nat) m0), .v (.int x), .v (.int (p : Nat)), .v (.int (e : Nat))] ∧ O = [] ∧ 1 ≤ n ∧ n ≤ 6 ∧ 0 ≤ x ∧ x ≤ 1000000000000000000000000000000 ∧ PwOk p e ∧ 1 ≤ e ∧ ∀ t, LgT p e l x (n - 1) t → t ≤ e + 3 → P (.v (.tup [.int (t : Nat), LN (lsF l n x p e t)])) []
theorem sp_st_ls_len {K : PySem.W.Frag} {ts O P X} (h : sp_st_ls K ts O P X) : ts.length = 4 := by
  obtain ⟨l, n, m0, x, p, e, rfl, _⟩ := h
  rfl
def sp_st_lg (K : PySem.W.Frag) : SpD := fun ts O P X => ∃ (l : Bool) (n M : Nat) (x : Int), ts = [.v (chD (chC K l) (n : Nat) (M : Nat)), .v (.int x)] ∧ O = [] ∧ 1 ≤ n ∧ n ≤ 6 ∧ 2 ≤ M ∧ (M : Int) ≤ 1000000000000000000000000000000 ∧ 0 ≤ x ∧ x < M ∧ ∀ L S, LgOk l n x M L S → P (.v (lgD K (.int (L : Nat)) (.tup (nums (S ++ [0]))))) []
theorem sp_st_lg_len {K : PySem.W.Frag} {ts O P X} (h : sp_st_lg K ts O P X) : ts.length = 2 := by
  obtain ⟨l, n, M, x, rfl, _⟩ := h
  rfl

def sp_Lg_init (K : PySem.W.Frag) : SpD := fun ts O P _ => ∃ a b : D, ts = [.own 0, .v a, .v b] ∧ O = [.ins (He.ga K "Longest") []] ∧ P (.v .non) [.ins (He.ga K "Longest") [("length", a), ("starts", b)]]
theorem sp_Lg_init_len {K : PySem.W.Frag} {ts O P X} (h : sp_Lg_init K ts O P X) : ts.length = 3 := by
  obtain ⟨a, b, rfl, _⟩ := h
  rfl

local macro_rules | `(tactic| walk_at "ws") => `(tactic| first
  | with_reducible refine s_set ?_
  | with_reducible refine s_if ?_
  | with_reducible refine s_ret ?_
  | with_reducible refine s_retN ?_
  | with_reducible refine s_drop ?_
  | with_reducible refine s_next ?_
  | with_reducible refine s_par ?_
  | with_reducible refine s_par3 ?_
  | refine s_fldN (by assumption) (by assumption) ?_
  | with_reducible refine s_asg ?_
  | refine s_raise1 ?_
  | refine s_raise2 ?_)
local macro_rules | `(tactic| walk_at "we") => `(tactic| first
  | ((with_reducible refine w_v (d := ?k2) ?k1 ?_); (case k1 => exact rfl))
  | ((with_reducible refine w_o (j := ?k2) ?k1 ?_); (case k1 => exact rfl))
  | ((guard_target = G.WE _ _ (tFld _ _ _) _ _ _ _); (refine w_fldN (by assumption) (by assumption) ?_))
  | ((guard_target = G.WE _ _ (tC (.ref _)) _ _ _ _); (refine w_ctup (by assumption) ?_))
  | with_reducible refine w_ci ?_
  | with_reducible refine w_op ?_
  | with_reducible refine w_call ?_
  | with_reducible refine w_cty ?_
  | with_reducible refine w_cb ?_
  | with_reducible refine w_cn ?_
  | with_reducible refine w_cs ?_
  | with_reducible refine w_cr ?_
  | with_reducible refine w_un ?_
  | with_reducible refine w_andV ?_
  | with_reducible refine w_orV ?_
  | with_reducible refine w_notV ?_
  | with_reducible refine w_ife ?_
  | with_reducible refine w_chain ?_
  | with_reducible refine w_tup ?_
  | with_reducible refine w_revL ?_
  | with_reducible refine w_slL ?_
  | with_reducible refine w_slT ?_
  | (guard_target = G.WE _ _ (tCall (lift _ (sp_draw _)) _ _ _) _ _ _ _; refine w_fn10 0 ?_)
  | (guard_target = G.WE _ _ (tCall (lift _ (sp_pick _)) _ _ _) _ _ _ _; refine w_fn10 0 ?_)
  | (guard_target = G.WE _ _ (tCall (lift _ (sp_l_right _)) _ _ _) _ _ _ _; refine w_fn10 0 ?_)
  | (guard_target = G.WE _ _ (tCall (lift _ (sp_l_bent _)) _ _ _) _ _ _ _; refine w_fn10 0 ?_)
  | with_reducible refine w_fn0 ?_
  | with_reducible refine w_fnS0 ?_
  | with_reducible refine w_meth0 ?_
  | with_reducible refine w_make0 ?_
  | with_reducible refine w_bmL ?_
  | with_reducible refine w_bmL0 ?_
  | with_reducible refine w_lst ?_
  | with_reducible refine w_callKX ?_
  | with_reducible refine w_makeKX ?_
  | with_reducible refine w_makeX ?_
  | with_reducible refine w_smethX ?_
  | with_reducible refine w_smethK ?_
  | with_reducible refine w_smethK0 ?_
  | with_reducible refine w_fnV ?_
  | with_reducible refine w_fnX ?_
  | with_reducible refine w_fnSX ?_
  | with_reducible refine w_methX ?_
  | with_reducible refine w_callX ?_
  | with_reducible refine w_methK ?_
  | with_reducible refine w_callK2 ?_
  | with_reducible refine w_callI ?_
  | with_reducible refine w_prop ?_
  | with_reducible refine w_dic0 ?_
  | with_reducible refine w_jcons ?_
  | with_reducible refine w_jnil ?_
  | with_reducible refine w_join ?_
  | with_reducible refine w_split ?_
  | with_reducible refine w_smeth ?_
  | with_reducible refine w_fnKr ?_)
local macro_rules | `(tactic| walk_at "wt") => `(tactic| first
  | with_reducible refine w_test ?_
  | with_reducible refine w_B ?_
  | with_reducible refine w_and ?_
  | with_reducible refine w_or ?_
  | with_reducible refine w_not ?_)
local macro_rules | `(tactic| walk_at "wa") => `(tactic| first
  | with_reducible refine w_cons ?_
  | with_reducible refine w_nil ?_
  | with_reducible refine w_star ?_)
local macro_rules | `(tactic| walk_at "wr") => `(tactic| first
  | with_reducible refine w_add ?_
  | with_reducible refine w_sub ?_
  | with_reducible refine w_lt ?_
  | with_reducible refine w_le ?_
  | with_reducible refine w_gt ?_
  | with_reducible refine w_ge ?_
  | with_reducible refine w_eqI ?_
  | with_reducible refine w_neI ?_
  | with_reducible refine w_isN ?_
  | with_reducible refine w_notN ?_
  | ((with_reducible refine w_mod ?k1 ?_); (case k1 => first | decide | omega))
  | ((with_reducible refine w_mul ?k1 ?_); (case k1 => first | exact Or.inl ⟨by decide, by decide⟩ | exact Or.inr ⟨by decide, by decide⟩ | exact Or.inl ⟨by omega, by omega⟩ | exact Or.inr ⟨by omega, by omega⟩))
  | ((with_reducible refine w_pow ?k1 ?_); (case k1 => first | exact ⟨by decide, by decide, by decide⟩ | exact ⟨by omega, by omega, by omega⟩))
  | ((with_reducible refine w_fdivW ?k1 ?_); (case k1 => exact divW_ok (by first | decide | omega) (by first | decide | omega)))
  | ((with_reducible refine w_mulW ?k1 ?_); (case k1 => exact mulW_ok ⟨by omega, by omega⟩ ⟨by omega, by omega⟩))
  | ((guard_target = G.WR _ (rIxT _) _ _ _ _); (refine w_ixT (by first | exact atI_0 | exact atI_1 | exact atI_2 | exact atI_3 | exact atI_4 | exact atI_5 | exact atI_6 | assumption) ?_))
  | ((guard_target = G.WR _ (rIxL _) _ _ _ _); (refine w_ixL (by first | exact lstD_v | exact lstD_o rfl) (by first | exact atI_0 | exact atI_1 | exact atI_2 | exact atI_3 | exact atI_4 | exact atI_5 | exact atI_6 | assumption) ?_)))
local macro_rules | `(tactic| walk_at "wc") => `(tactic| first
  | with_reducible refine c_int ?_
  | with_reducible refine c_intB ?_
  | with_reducible refine c_abs ?_
  | ((guard_target = G.WC _ (G.rLen _) _ _ _); (refine c_lenL (by first | exact lstD_v | exact lstD_o rfl) ?_))
  | with_reducible refine c_lenT ?_
  | ((guard_target = G.WC _ (G.rListOf _) _ _ _); (refine c_listL (by first | exact lstD_v | exact lstD_o rfl) ?_))
  | with_reducible refine c_listT ?_
  | ((guard_target = G.WC _ (G.rTupOf _) _ _ _); (refine c_tupL (by first | exact lstD_v | exact lstD_o rfl) ?_))
  | with_reducible refine c_tupT ?_)
local macro_rules | `(tactic| walk_at "e") => `(tactic| first
  | (guard_target = G.WE _ _ _ _ _ _ _; walk_at "we")
  | (guard_target = G.WS _ _ _ _ _ _; walk_at "ws")
  | (guard_target = G.WA _ _ _ _ _ _ _; walk_at "wa")
  | (guard_target = G.WR _ _ _ _ _ _; walk_at "wr")
  | (guard_target = G.WT _ _ _ _ _ _ _; walk_at "wt")
  | (guard_target = G.WC _ _ _ _ _; walk_at "wc")
  | (guard_target = G.WU _ _ _ _ _; with_reducible refine w_neg ?_)
  | (guard_target = G.WG _ _ _ _ _ _ _; first | with_reducible refine g_name ?_ | with_reducible refine g_setL ?_ | refine g_pair rfl ?_ | refine g_trip rfl ?_ | refine g_quad rfl ?_)
  | (guard_target = G.WO _ _ _ _ _ _ _; first | with_reducible refine o_none ?_ | with_reducible refine o_some ?_)
  | with_reducible refine tt_ ?_
  | with_reducible refine ff_ ?_
  | with_reducible refine ntt_ ?_
  | with_reducible refine nff_ ?_
  | ((guard_target = ((!G.isNon _) = true → _) ∧ _); (first | refine bnF rfl ?_ | refine bnT rfl ?_))
  | ((guard_target = (G.isNon _ = true → _) ∧ _); (first | refine bF rfl ?_ | refine bT rfl ?_))
  | (guard_target = Exists _; first
    | refine ⟨_, rfl, Nat.le_of_ble_eq_true rfl, Nat.le_of_ble_eq_true rfl, ?_⟩
    | refine ⟨_, _, _, _, _, rfl, rfl, rfl, rfl, rfl, ?_⟩
    | refine ⟨_, _, _, rfl, rfl, rfl, Nat.le_of_ble_eq_true rfl, ?_⟩
    | refine ⟨_, _, rfl, rfl, rfl, ?_⟩
    | refine ⟨_, _, _, rfl, ?_⟩
    | refine ⟨_, _, (by first | exact insD_v | exact insD_o rfl), rfl, ?_⟩
    | refine ⟨_, _, rfl, ?_⟩
    | refine ⟨_, rfl, rfl, ?_⟩
    | refine ⟨_, rfl, Nat.le_of_ble_eq_true rfl, ?_⟩
    | refine ⟨_, (by first | exact lstD_v | exact lstD_o rfl), ?_⟩
    | refine ⟨_, rfl, ?_⟩))
local macro_rules | `(tactic| walk_at "o") => `(tactic| first | with_reducible refine w_lstO ?_ | walk_at "e")
local macro_rules | `(tactic| walk_at "g") => `(tactic| first | walk_at "e" | with_reducible refine s_seq ?_)
local macro_rules | `(tactic| walk_at "n") => `(tactic| (with_reducible refine s_seq ?_); (repeat walk_at "e"))
theorem sc_need_chain : FnScope ["chain"] ["chain"] (defScope (top 47)) := ⟨rfl, rfl, rfl, by decide +kernel, rfl, by decide +kernel, by decide +kernel⟩
theorem ok_need_chain {P : Program} {w : World} {K : PySem.W.Frag} {mg : Str → Option Value} {base : Heap} (T : Tx K mg)  : Fn P w K mg base 1 (He.fAd K ("need_chain", none)) ["chain"] (sp_st_nch K) := by
  obtain ⟨fd, F⟩ := T.d_need_chain
  refine ⟨fd, F.ok sc_need_chain (lift_len ?_) (fun cdv A outer s H vs Q E hr h => ?_), F.bindsN fun _ _ _ _ _ _ us hl => (match us, hl with | [_], _ => rfl), F.kp, lk_of F⟩
  · intro ts O P X h
    exact sp_st_nch_len h
  · have hu := hr.units
    refine ⟨_, (PSs.nox (pss_one (ps_if (pt_not (pt_val (pe_callB (call_isiSK K) (by rfl) T.n_isinstance boot_isinstance (pa_cons (pv 0) (pa_cons (pe_tup (pa_cons (pe_glob (v := .ref (He.ga K "Prompt")) (by rfl) T.g_Prompt rfl) (pa_cons (pe_glob (v := .ref (He.ga K "Late")) (by rfl) T.g_Late rfl) pa_nil))) pa_nil)))))
    (pss_one ps_never)
    pss_nil))), enter h fun ts O P X h _ => ?_⟩
    try dsimp only [cxOf, Cx.nox, Cx.wish]
    
    obtain ⟨l, n, m, rfl, rfl, p⟩ := h
    have hcU : Cls K (chC K l) := by
      cases l
      · exact T.cl_Prompt
      · exact T.cl_Late
    have hnS : NoAttr K (chC K l) "stages" := by
      cases l
      · exact T.na_Prompt_stages
      · exact T.na_Late_stages
    have hnM : NoAttr K (chC K l) "modulus" := by
      cases l
      · exact T.na_Prompt_modulus
      · exact T.na_Late_modulus
    have hiU : InsTy K (chC K l) := by
      cases l
      · exact T.it_Prompt
      · exact T.it_Late
    have hkU : PySem.W.kitAny K (.ref (chC K l)) [.ref (He.ga K "Prompt"), .ref (He.ga K "Late")] = some true := by
      cases l
      · exact kitAny_cons T.kit_Prompt_Prompt (fun z => by cases z) fun _ => rfl
      · exact kitAny_cons T.kit_Late_Prompt (fun _ => kitAny_cons T.kit_Late_Late (fun z => by cases z) fun _ => rfl) fun z => by cases z
    have hkP : PySem.W.kitOne K (.ref (chC K l)) (.ref (He.ga K "Prompt")) = some (!l) := by
      cases l
      · exact T.kit_Prompt_Prompt
      · exact T.kit_Late_Prompt
    show WS _ _ _ _ [.v (chD (chC K l) (n : Nat) m)] _
    repeat walk_at "e"
    refine c_isiS (.ins _ _ hiU) (.cons (.own _) (.cons (.own _) .nil)) hkU ?_
    repeat walk_at "e"
    exact ⟨rfl, p⟩
theorem sc_need_input : FnScope ["chain", "number"] ["chain", "number"] (defScope (top 48)) := ⟨rfl, rfl, rfl, by decide +kernel, rfl, by decide +kernel, by decide +kernel⟩
theorem ok_need_input {P : Program} {w : World} {K : PySem.W.Frag} {mg : Str → Option Value} {base : Heap} (T : Tx K mg) (h_is_between : Fn P w K mg base 2 (He.fAd K ("is_between", none)) ["value", "low", "high"] (sp_is_between K)) : Fn P w K mg base 3 (He.fAd K ("need_input", none)) ["chain", "number"] (sp_st_nin K) := by
  obtain ⟨_, F_is_between, b_is_between, kp_is_between, lk_is_between⟩ := h_is_between
  obtain ⟨fd, F⟩ := T.d_need_input
  have hc_Late := T.cl_Late
  have hn_Late_modulus := T.na_Late_modulus
  have hc_Prompt := T.cl_Prompt
  have hn_Prompt_modulus := T.na_Prompt_modulus
  refine ⟨fd, F.ok sc_need_input (lift_len ?_) (fun cdv A outer s H vs Q E hr h => ?_), F.bindsN fun _ _ _ _ _ _ us hl => (match us, hl with | [_, _], _ => rfl), F.kp, lk_of F⟩
  · intro ts O P X h
    exact sp_st_nin_len h
  · have hu := hr.units
    refine ⟨_, (PSs.nox (pss_one (ps_if (pt_not (pt_val (pe_call F_is_between (hr.mono (by decide)) (by rfl) T.g_is_between kp_is_between b_is_between .nil passL (pa_cons (pv 1) (pa_cons pe_int (pa_cons (pe_op op_sub (pe_fldK K (pv 0)) pe_int) pa_nil))))))
    (pss_one ps_never)
    pss_nil))), enter h fun ts O P X h _ => ?_⟩
    try dsimp only [cxOf, Cx.nox, Cx.wish]
    
    obtain ⟨l, n, m0, x, rfl, rfl, h0, h1, p⟩ := h
    have hcU : Cls K (chC K l) := by
      cases l
      · exact T.cl_Prompt
      · exact T.cl_Late
    have hnS : NoAttr K (chC K l) "stages" := by
      cases l
      · exact T.na_Prompt_stages
      · exact T.na_Late_stages
    have hnM : NoAttr K (chC K l) "modulus" := by
      cases l
      · exact T.na_Prompt_modulus
      · exact T.na_Late_modulus
    have hiU : InsTy K (chC K l) := by
      cases l
      · exact T.it_Prompt
      · exact T.it_Late
    have hkU : PySem.W.kitAny K (.ref (chC K l)) [.ref (He.ga K "Prompt"), .ref (He.ga K "Late")] = some true := by
      cases l
      · exact kitAny_cons T.kit_Prompt_Prompt (fun z => by cases z) fun _ => rfl
      · exact kitAny_cons T.kit_Late_Prompt (fun _ => kitAny_cons T.kit_Late_Late (fun z => by cases z) fun _ => rfl) fun z => by cases z
    have hkP : PySem.W.kitOne K (.ref (chC K l)) (.ref (He.ga K "Prompt")) = some (!l) := by
      cases l
      · exact T.kit_Prompt_Prompt
      · exact T.kit_Late_Prompt
    show WS _ _ _ _ [.v (chD (chC K l) (n : Nat) m0), .v (.int x)] _
    repeat walk_at "e"
    refine u_between (by omega) (by omega) ⟨⟨_, rfl⟩, ?_⟩
    repeat walk_at "e"
    exact ⟨rfl, p⟩
theorem sc_products : FnScope ["one", "other", ".0", "first", "second"] ["one", "other"] (defScope (top 43)) := ⟨rfl, rfl, rfl, by decide +kernel, rfl, by decide +kernel, by decide +kernel⟩
theorem ok_products {P : Program} {w : World} {K : PySem.W.Frag} {mg : Str → Option Value} {base : Heap} (T : Tx K mg)  : Fn P w K mg base 1 (He.fAd K ("products", none)) ["one", "other"] (sp_st_prod K) := by
  obtain ⟨fd, F⟩ := T.d_products
  refine ⟨fd, F.ok sc_products (lift_len ?_) (fun cdv A outer s H vs Q E hr h => ?_), F.bindsN fun _ _ _ _ _ _ us hl => (match us, hl with | [_, _], _ => rfl), F.kp, lk_of F⟩
  · intro ts O P X h
    exact sp_st_prod_len h
  · have hu := hr.units
    refine ⟨_, (PSs.nox (pss_one (ps_ret (pe_callB (cr_sumK K rfl) (by rfl) T.n_sum boot_sum (pa_cons (pe_lc (own := [(".0", 2), ("first", 3), ("second", 4)]) rfl sc_products.nd (RZ.pi_zipA (by rfl) T.n_zip (pa_cons (pv 0) (pa_cons (pv 1) pa_nil))) (blkOk_by (own := [(".0", 2), ("first", 3), ("second", 4)]) (N := ["one", "other", ".0", "first", "second"]) (sc := defScope (top 43)) (by decide +kernel)) (fun _ _ _ _ _ => (pg_tupK K (n := 2) rfl (pgs_cons (pg_name (i := 3) sc_products.nd rfl (.inl rfl)) (pgs_cons (pg_name (i := 4) sc_products.nd rfl (.inl rfl)) pgs_nil)))) (fun _ _ _ _ _ => pts_nil) (fun _ _ _ _ _ => (pe_callTy call_int1 (by rfl) T.n_int boot_int (pa_cons (pe_op op_mulW (pv 3) (pv 4)) pa_nil)))) pa_nil))))), enter h fun ts O P X h _ => ?_⟩
    try dsimp only [cxOf, Cx.nox, Cx.wish]
    
    obtain ⟨xs, ys, a, b, d, rfl, rfl, hd, hab, hz, hz2, hx, hy, p⟩ := h
    show WS _ _ _ _ [.v (.lst (nums xs)), .v d, .no, .no, .no] _
    repeat walk_at "e"
    refine w_lcT ?_ (tgt_pair (by decide) (by decide))
    rcases hd with rfl | ⟨od, ws, rfl⟩
    · refine i_zipL ?_
      repeat walk_at "e"
      obtain ⟨k, hk⟩ : ∃ k, k = min xs.length ys.length := ⟨_, rfl⟩
      rw [show itZ (nums xs) (nums ys) = itZ ((xs.take k).map D.int) ((ys.take k).map D.int) from itZ_cut xs ys D.int D.int k hk]
      refine lc_Z (xs.take k) (ys.take k) D.int D.int (fun x y => .int (x * y)) (by rw [List.length_take, List.length_take]; omega) (by rw [List.length_take]; omega) (fun x y acc h1 h2 => ?_) ?_
      · have h3 := hx x (List.mem_of_mem_take h1)
        have h4 := hy y (List.mem_of_mem_take h2)
        refine g_pair rfl ?_
        repeat walk_at "e"
        refine w_mulW (mul_okP h3 h4 (by omega)) ?_
        repeat walk_at "e"
        exact ⟨rfl, rfl⟩
      rw [show List.zipWith (fun x y => D.int (x * y)) (xs.take k) (ys.take k) = nums (List.zipWith (fun x y => x * y) xs ys) by unfold nums; rw [← zip_cut xs ys k hk, List.map_zipWith]]
      repeat walk_at "e"
      refine c_sum (ns := List.zipWith (fun x y => x * y) xs ys) lstD_v ?_
      rw [dot_zipS]
      exact ⟨rfl, p⟩
    · refine i_zipLX ?_
      repeat walk_at "e"
      refine ⟨_, _, _, _, rfl, ?_⟩
      obtain ⟨k, hk⟩ : ∃ k, k = min xs.length ys.length := ⟨_, rfl⟩
      rw [show itZ (nums xs) (nums ys) = itZ ((xs.take k).map D.int) ((ys.take k).map D.int) from itZ_cut xs ys D.int D.int k hk]
      refine lc_Z (xs.take k) (ys.take k) D.int D.int (fun x y => .int (x * y)) (by rw [List.length_take, List.length_take]; omega) (by rw [List.length_take]; omega) (fun x y acc h1 h2 => ?_) ?_
      · have h3 := hx x (List.mem_of_mem_take h1)
        have h4 := hy y (List.mem_of_mem_take h2)
        refine g_pair rfl ?_
        repeat walk_at "e"
        refine w_mulW (mul_okP h3 h4 (by omega)) ?_
        repeat walk_at "e"
        exact ⟨rfl, rfl⟩
      rw [show List.zipWith (fun x y => D.int (x * y)) (xs.take k) (ys.take k) = nums (List.zipWith (fun x y => x * y) xs ys) by unfold nums; rw [← zip_cut xs ys k hk, List.map_zipWith]]
      repeat walk_at "e"
      refine c_sum (ns := List.zipWith (fun x y => x * y) xs ys) lstD_v ?_
      rw [dot_zipS]
      exact ⟨rfl, p⟩
theorem sc_named : FnScope ["width", "place", ".0", "at"] ["width", "place"] (defScope (top 49)) := ⟨rfl, rfl, rfl, by decide +kernel, rfl, by decide +kernel, by decide +kernel⟩
theorem ok_named {P : Program} {w : World} {K : PySem.W.Frag} {mg : Str → Option Value} {base : Heap} (T : Tx K mg)  : Fn P w K mg base 1 (He.fAd K ("named", none)) ["width", "place"] (sp_st_named K) := by
  obtain ⟨fd, F⟩ := T.d_named
  refine ⟨fd, F.ok sc_named (lift_len ?_) (fun cdv A outer s H vs Q E hr h => ?_), F.bindsN fun _ _ _ _ _ _ us hl => (match us, hl with | [_, _], _ => rfl), F.kp, lk_of F⟩
  · intro ts O P X h
    exact sp_st_named_len h
  · have hu := hr.units
    refine ⟨_, (PSs.nox (pss_one (ps_ret (pe_lc (own := [(".0", 2), ("at", 3)]) rfl sc_named.nd (pi_range1 (by rfl) T.n_range (pa_cons (pv 0) pa_nil)) (blkOk_by (own := [(".0", 2), ("at", 3)]) (N := ["width", "place", ".0", "at"]) (sc := defScope (top 49)) (by decide +kernel)) (fun _ _ _ _ _ => (pg_name (i := 3) sc_named.nd rfl (.inl rfl))) (fun _ _ _ _ _ => pts_nil) (fun _ _ _ _ _ => (pe_callTy call_int1 (by rfl) T.n_int boot_int (pa_cons (pe_cmpR op_eq (pv 3) (pv 1) (nomark _)) pa_nil))))))), enter h fun ts O P X h _ => ?_⟩
    try dsimp only [cxOf, Cx.nox, Cx.wish]
    
    obtain ⟨n, q, rfl, rfl, hn, hq, p⟩ := h
    show WS _ _ _ _ [.v (.int (n : Nat)), .v (.int (q : Nat)), .no, .no] _
    repeat walk_at "e"
    refine w_lc1 ?_ (by decide)
    refine i_rng1 ?_
    repeat walk_at "e"
    refine ⟨by omega, ?_⟩
    rw [Int.toNat_natCast]
    refine lc_R (n := n) (fun k => .int (if k = q then 1 else 0)) (by omega) (fun k acc hk => ?_) ?_
    · refine g_name ?_
      repeat walk_at "e"
      refine ⟨?_, rfl⟩
      by_cases h : k = q
      · subst h
        rw [if_pos rfl, decide_eq_true rfl] <;> rfl
      · rw [if_neg h, decide_eq_false (fun z => h (by omega))] <;> rfl
    rw [show ((List.range n).map fun k : Nat => D.int (if k = q then 1 else 0)) = nums (named n q) by unfold nums named; rw [List.map_map] <;> rfl]
    exact ⟨rfl, p⟩
theorem sc_next_forms : FnScope ["forms", "begin", "is_prompt", "found", "at", "form", ".0", "one", "other"] ["forms", "begin", "is_prompt"] (defScope (top 50)) := ⟨rfl, rfl, rfl, by decide +kernel, rfl, by decide +kernel, by decide +kernel⟩
theorem ok_next_forms {P : Program} {w : World} {K : PySem.W.Frag} {mg : Str → Option Value} {base : Heap} (T : Tx K mg)  : Fn P w K mg base 1 (He.fAd K ("next_forms", none)) ["forms", "begin", "is_prompt"] (sp_st_next K) := by
  obtain ⟨fd, F⟩ := T.d_next_forms
  refine ⟨fd, F.ok sc_next_forms (lift_len ?_) (fun cdv A outer s H vs Q E hr h => ?_), F.bindsN fun _ _ _ _ _ _ us hl => (match us, hl with | [_, _, _], _ => rfl), F.kp, lk_of F⟩
  · intro ts O P X h
    exact sp_st_next_len h
  · have hu := hr.units
    refine ⟨_, (PSs.nox (pss_cons (ps_set (i := 3) sc_next_forms.nd rfl (.inl rfl) (pe_lst (pa_cons (pv 1) pa_nil)))
    (pss_cons (ps_for PassesOwn.never rfl (pi_enum (by rfl) T.n_enumerate (pa_cons (pv 0) pa_nil)) (pg_tupK K (n := 2) rfl (pgs_cons (pg_name (i := 4) sc_next_forms.nd rfl (.inl rfl)) (pgs_cons (pg_name (i := 5) sc_next_forms.nd rfl (.inl rfl)) pgs_nil)))
    (pss_cons (ps_if (PW.pt (pw_and (pt_val (pv 2)) (pw_and1 (pt_cmpR op_lt (pe_op op_add (pv 4) pe_int) (pe_callB (cr_lenK K) (by rfl) T.n_len boot_len (pa_cons (pv 0) pa_nil)) (nomark _)))))
    (pss_one (ps_setLc (i := 5) (own := [(".0", 6), ("one", 7), ("other", 8)]) rfl sc_next_forms.nd rfl rfl (sw_true rfl rfl rfl (by decide +kernel)) (RZ.pi_zipA (by rfl) T.n_zip (pa_cons (pv 5) (pa_cons (pe_ix (ix_listK K) (pv 0) (pe_op op_add (pv 4) pe_int) (fun _ _ => rfl)) pa_nil))) (blkOk_by (own := [(".0", 6), ("one", 7), ("other", 8)]) (N := ["forms", "begin", "is_prompt", "found", "at", "form", ".0", "one", "other"]) (sc := defScope (top 50)) (by decide +kernel)) (fun _ _ _ _ _ => (pg_tupK K (n := 2) rfl (pgs_cons (pg_name (i := 7) sc_next_forms.nd rfl (.inl rfl)) (pgs_cons (pg_name (i := 8) sc_next_forms.nd rfl (.inl rfl)) pgs_nil)))) (fun _ _ _ _ _ => pts_nil) (fun _ _ _ _ _ => (pe_op op_add (pv 7) (pv 8)))))
    pss_nil)
    (pss_one (ps_expr (pe_bm PySem.F.plainAttrs_list PySem.F.slot_list_append PySem.F.type_list_append mt_append (pv 3) (pa_cons (pe_callTy (cr_listK K) (by rfl) T.n_list boot_list (pa_cons (pv 5) pa_nil)) pa_nil))))))
    (pss_one (ps_ret (pv 3)))))), enter h fun ts O P X h _ => ?_⟩
    try dsimp only [cxOf, Cx.nox, Cx.wish]
    
    obtain ⟨l, n, F, b, rfl, rfl, hn, hz, hF, hb, p⟩ := h
    show WS _ _ _ _ [.v (.lst (F.map LN)), .v (LN b), .v (.bl (!l)), .no, .no, .no, .no, .no, .no] _
    refine s_seq ?_
    repeat walk_at "o"
    refine s_seq ?_
    refine s_forE ?_
    refine i_enumL ?_
    repeat walk_at "e"
    refine for_AE (xs := F) (e := LN) (fun i ts' O' => ∃ (a4 a5 : G.T), O' = [.lst ((b :: (F.mapIdx (nextG l F)).take i).map LN)] ∧ ts' = [.v (.lst (F.map LN)), .v (LN b), .v (.bl (!l)), .own 0, a4, a5, .no, .no, .no]) ⟨_, _, rfl, rfl⟩ ?_ ?_
    · rintro i f _ _ hi hf ⟨a4, a5, rfl, rfl⟩
      have hfl := hF f (List.mem_of_getElem? hf)
      have htk : (F.mapIdx (nextG l F)).take (i + 1) = (F.mapIdx (nextG l F)).take i ++ [nextG l F i f] := by
        rw [List.take_add_one, List.getElem?_mapIdx, hf] <;> rfl
      refine g_pair rfl ?_
      repeat walk_at "e"
      refine s_cut (fun ts' O' => O' = [.lst ((b :: (F.mapIdx (nextG l F)).take i).map LN)] ∧ ts' = [.v (.lst (F.map LN)), .v (LN b), .v (.bl (!l)), .own 0, .v (.int (i : Nat)), .v (LN (nextG l F i f)), .no, .no, .no]) ?_ ?_
      · cases l
        · repeat walk_at "e"
          rw [List.length_map]
          refine br (fun h2 => ?_) (fun h2 => ?_)
          · have h3 : i + 1 < F.length := by omega
            have hg : nextG false F i f = List.zipWith (fun x y => x + y) f (F.getD (i + 1) []) := by
              unfold nextG
              rw [decide_eq_true h3] <;> rfl
            have hfl2 : (F.getD (i + 1) []).length = n := by
              rw [List.getD_eq_getElem?_getD, List.getElem?_eq_getElem h3]
              exact hF _ (List.getElem_mem h3)
            repeat walk_at "e"
            refine w_lcT ?_ (tgt_pair (by decide) (by decide))
            refine i_zipL ?_
            repeat walk_at "e"
            refine w_ixL lstD_v (atF (k := i + 1) (by omega) h3) ?_
            repeat walk_at "e"
            refine lc_Z f (F.getD (i + 1) []) D.int D.int (fun x y => .int (x + y)) (by rw [hfl, hfl2]) (by omega) (fun x y acc _ _ => ?_) ?_
            · refine g_pair rfl ?_
              repeat walk_at "e"
              exact ⟨rfl, rfl⟩
            rw [hg, show List.zipWith (fun x y => D.int (x + y)) f (F.getD (i + 1) []) = nums (List.zipWith (fun x y => x + y) f (F.getD (i + 1) [])) by unfold nums; rw [List.map_zipWith]]
            exact ⟨rfl, rfl⟩
          · have hg : nextG false F i f = f := by
              unfold nextG
              rw [decide_eq_false (show ¬ i + 1 < F.length by omega)] <;> rfl
            repeat walk_at "e"
            exact ⟨rfl, by rw [hg] <;> rfl⟩
        · repeat walk_at "e"
          exact ⟨rfl, rfl⟩
      rintro _ _ ⟨rfl, rfl⟩
      repeat walk_at "e"
      refine m_append (by exact rfl) (lt_szN (by rw [List.length_map, List.length_cons, List.length_take]; omega)) ?_
      exact ⟨_, _, by rw [htk, ← List.cons_append, List.map_append] <;> rfl, rfl⟩
    rintro _ _ ⟨a4, a5, rfl, rfl⟩
    rw [List.take_of_length_le (by rw [List.length_mapIdx]; exact Nat.le_refl _)]
    refine s_frz 0 rfl rfl ?_
    repeat walk_at "e"
    exact ⟨rfl, p⟩
theorem sc_forms_of : FnScope ["chain", "width", "forms", "stage"] ["chain"] (defScope (top 51)) := ⟨rfl, rfl, rfl, by decide +kernel, rfl, by decide +kernel, by decide +kernel⟩
theorem ok_forms_of {P : Program} {w : World} {K : PySem.W.Frag} {mg : Str → Option Value} {base : Heap} (T : Tx K mg) (h_named : Fn P w K mg base 1 (He.fAd K ("named", none)) ["width", "place"] (sp_st_named K)) (h_next_forms : Fn P w K mg base 1 (He.fAd K ("next_forms", none)) ["forms", "begin", "is_prompt"] (sp_st_next K)) : Fn P w K mg base 2 (He.fAd K ("forms_of", none)) ["chain"] (sp_st_forms K) := by
  obtain ⟨_, F_named, b_named, kp_named, lk_named⟩ := h_named
  obtain ⟨_, F_next_forms, b_next_forms, kp_next_forms, lk_next_forms⟩ := h_next_forms
  obtain ⟨fd, F⟩ := T.d_forms_of
  have hc_Late := T.cl_Late
  have hn_Late_stages := T.na_Late_stages
  have hc_Prompt := T.cl_Prompt
  have hn_Prompt_stages := T.na_Prompt_stages
  refine ⟨fd, F.ok sc_forms_of (lift_len ?_) (fun cdv A outer s H vs Q E hr h => ?_), F.bindsN fun _ _ _ _ _ _ us hl => (match us, hl with | [_], _ => rfl), F.kp, lk_of F⟩
  · intro ts O P X h
    exact sp_st_forms_len h
  · have hu := hr.units
    refine ⟨_, (PSs.nox (pss_cons (ps_set (i := 1) sc_forms_of.nd rfl (.inl rfl) (pe_fldK K (pv 0)))
    (pss_cons (ps_set (i := 2) sc_forms_of.nd rfl (.inl rfl) (pe_lst (pa_cons (pe_call F_named (hr.mono (by decide)) (by rfl) T.g_named kp_named b_named .nil passL (pa_cons (pv 1) (pa_cons pe_int pa_nil))) (pa_cons (pe_call F_named (hr.mono (by decide)) (by rfl) T.g_named kp_named b_named .nil passL (pa_cons (pv 1) (pa_cons pe_int pa_nil))) pa_nil))))
    (pss_cons (ps_for PassesOwn.never rfl (pi_range2 (by rfl) T.n_range (pa_cons pe_int (pa_cons (pe_op op_add (pv 1) pe_int) pa_nil))) (pg_name (i := 3) sc_forms_of.nd rfl (.inl rfl))
    (pss_one (ps_set (i := 2) sc_forms_of.nd rfl (.inl rfl) (pe_call F_next_forms (hr.mono (by decide)) (by rfl) T.g_next_forms kp_next_forms b_next_forms .nil passL (pa_cons (pv 2) (pa_cons (pe_call F_named (hr.mono (by decide)) (by rfl) T.g_named kp_named b_named .nil passL (pa_cons (pv 1) (pa_cons (pv 3) pa_nil))) (pa_cons (pe_callB (call_isiK K) (by rfl) T.n_isinstance boot_isinstance (pa_cons (pv 0) (pa_cons (pe_glob (v := .ref (He.ga K "Prompt")) (by rfl) T.g_Prompt rfl) pa_nil))) pa_nil)))))))
    (pss_one (ps_ret (pv 2))))))), enter h fun ts O P X h _ => ?_⟩
    try dsimp only [cxOf, Cx.nox, Cx.wish]
    
    obtain ⟨l, n, m, rfl, rfl, n1, n2, p⟩ := h
    have hcU : Cls K (chC K l) := by
      cases l
      · exact T.cl_Prompt
      · exact T.cl_Late
    have hnS : NoAttr K (chC K l) "stages" := by
      cases l
      · exact T.na_Prompt_stages
      · exact T.na_Late_stages
    have hnM : NoAttr K (chC K l) "modulus" := by
      cases l
      · exact T.na_Prompt_modulus
      · exact T.na_Late_modulus
    have hiU : InsTy K (chC K l) := by
      cases l
      · exact T.it_Prompt
      · exact T.it_Late
    have hkU : PySem.W.kitAny K (.ref (chC K l)) [.ref (He.ga K "Prompt"), .ref (He.ga K "Late")] = some true := by
      cases l
      · exact kitAny_cons T.kit_Prompt_Prompt (fun z => by cases z) fun _ => rfl
      · exact kitAny_cons T.kit_Late_Prompt (fun _ => kitAny_cons T.kit_Late_Late (fun z => by cases z) fun _ => rfl) fun z => by cases z
    have hkP : PySem.W.kitOne K (.ref (chC K l)) (.ref (He.ga K "Prompt")) = some (!l) := by
      cases l
      · exact T.kit_Prompt_Prompt
      · exact T.kit_Late_Prompt
    show WS _ _ _ _ [.v (chD (chC K l) (n : Nat) m), .no, .no, .no] _
    refine s_seq ?_
    repeat walk_at "e"
    refine s_seq ?_
    repeat walk_at "e"
    refine ⟨n, 1, rfl, rfl, by omega, by decide, ⟨⟨_, rfl⟩, ?_⟩⟩
    repeat walk_at "e"
    refine ⟨n, 0, rfl, rfl, by omega, by decide, ⟨⟨_, rfl⟩, ?_⟩⟩
    repeat walk_at "e"
    refine s_seq ?_
    refine s_forE ?_
    refine i_rng2 ?_
    repeat walk_at "e"
    rw [show ((n : Int) + 1 - 2).toNat = n - 1 by omega]
    refine ⟨by omega, ?_⟩
    refine for_R (fun i ts' O' => ∃ (a3 : G.T), O' = [] ∧ ts' = [.v (chD (chC K l) (n : Nat) m), .v (.int (n : Nat)), .v (.lst ((formsF l n i).map LN)), a3]) ⟨_, rfl, rfl⟩ ?_ ?_
    · rintro i _ _ hi ⟨a3, rfl, rfl⟩
      rw [show (2 : Int) + (i : Int) * 1 = ((i + 2 : Nat) : Int) by omega]
      refine g_name ?_
      repeat walk_at "e"
      refine ⟨n, i + 2, rfl, rfl, by omega, by omega, ⟨⟨_, rfl⟩, ?_⟩⟩
      repeat walk_at "e"
      refine c_isi (.ins _ _ hiU) (.own _) hkP ?_
      repeat walk_at "e"
      refine ⟨l, n, formsF l n i, named n (i + 2), rfl, rfl, by omega, by rw [formsF_len]; omega, formsF_row l n i, named_len _ _, ⟨⟨_, rfl⟩, ?_⟩⟩
      repeat walk_at "e"
      exact ⟨_, rfl, rfl⟩
    rintro _ _ ⟨a3, rfl, rfl⟩
    repeat walk_at "e"
    exact ⟨rfl, p⟩
theorem sc_rows_for : FnScope ["chain", "length", "modulus", "width", "forms", "found", "row", "times", "places", ".0", "i", "place", "some"] ["chain", "length", "modulus"] (defScope (top 52)) := ⟨rfl, rfl, rfl, by decide +kernel, rfl, by decide +kernel, by decide +kernel⟩
theorem ok_rows_for {P : Program} {w : World} {K : PySem.W.Frag} {mg : Str → Option Value} {base : Heap} (T : Tx K mg) (h_forms_of : Fn P w K mg base 2 (He.fAd K ("forms_of", none)) ["chain"] (sp_st_forms K)) (h_binomial : Fn P w K mg base 1 (He.fAd K ("binomial", none)) ["n", "j"] (sp_binomial K)) (h_products : Fn P w K mg base 1 (He.fAd K ("products", none)) ["one", "other"] (sp_st_prod K)) : Fn P w K mg base 3 (He.fAd K ("rows_for", none)) ["chain", "length", "modulus"] (sp_st_rows K) := by
  obtain ⟨_, F_forms_of, b_forms_of, kp_forms_of, lk_forms_of⟩ := h_forms_of
  obtain ⟨_, F_binomial, b_binomial, kp_binomial, lk_binomial⟩ := h_binomial
  obtain ⟨_, F_products, b_products, kp_products, lk_products⟩ := h_products
  obtain ⟨fd, F⟩ := T.d_rows_for
  have hc_Late := T.cl_Late
  have hn_Late_stages := T.na_Late_stages
  have hc_Prompt := T.cl_Prompt
  have hn_Prompt_stages := T.na_Prompt_stages
  refine ⟨fd, F.ok sc_rows_for (lift_len ?_) (fun cdv A outer s H vs Q E hr h => ?_), F.bindsN fun _ _ _ _ _ _ us hl => (match us, hl with | [_, _, _], _ => rfl), F.kp, lk_of F⟩
  · intro ts O P X h
    exact sp_st_rows_len h
  · have hu := hr.units
    refine ⟨_, (PSs.nox (pss_cons (ps_asg (pe_tup (pa_cons (pe_fldK K (pv 0)) (pa_cons (pe_call F_forms_of (hr.mono (by decide)) (by rfl) T.g_forms_of kp_forms_of b_forms_of .nil passL (pa_cons (pv 0) pa_nil)) (pa_cons (pe_lst pa_nil) pa_nil)))) (pg_tupK K (n := 3) rfl (pgs_cons (pg_name (i := 3) sc_rows_for.nd rfl (.inr rfl)) (pgs_cons (pg_name (i := 4) sc_rows_for.nd rfl (.inr rfl)) (pgs_cons (pg_name (i := 5) sc_rows_for.nd rfl (.inl rfl)) pgs_nil)))))
    (pss_cons (ps_for PassesOwn.never rfl (pi_range1 (by rfl) T.n_range (pa_cons (pv 3) pa_nil)) (pg_name (i := 6) sc_rows_for.nd rfl (.inr rfl))
    (pss_cons (ps_set (i := 7) sc_rows_for.nd rfl (.inr rfl) (pe_lc (own := [(".0", 9), ("i", 10)]) rfl sc_rows_for.nd (pi_range2 (by rfl) T.n_range (pa_cons pe_int (pa_cons (pe_op op_add (pe_op op_sub (pv 3) (pv 6)) pe_int) pa_nil))) (blkOk_by (own := [(".0", 9), ("i", 10)]) (N := ["chain", "length", "modulus", "width", "forms", "found", "row", "times", "places", ".0", "i", "place", "some"]) (sc := defScope (top 52)) (by decide +kernel)) (fun _ _ _ _ _ => (pg_name (i := 10) sc_rows_for.nd rfl (.inl rfl))) (fun _ _ _ _ _ => pts_nil) (fun _ _ _ _ _ => (pe_call F_binomial (hr.mono (by decide)) (by rfl) T.g_binomial kp_binomial b_binomial .nil passL (pa_cons (pv 1) (pa_cons (pv 10) pa_nil))))))
    (pss_cons (ps_setLc (i := 8) (own := [(".0", 9), ("place", 11)]) rfl sc_rows_for.nd rfl rfl (sw_true rfl rfl rfl (by decide +kernel)) (pi_range1 (by rfl) T.n_range (pa_cons (pv 3) pa_nil)) (blkOk_by (own := [(".0", 9), ("place", 11)]) (N := ["chain", "length", "modulus", "width", "forms", "found", "row", "times", "places", ".0", "i", "place", "some"]) (sc := defScope (top 52)) (by decide +kernel)) (fun _ _ _ _ _ => (pg_name (i := 11) sc_rows_for.nd rfl (.inr rfl))) (fun _ _ _ _ _ => pts_nil) (fun _ _ _ _ _ => (pe_lc (own := [(".0", 9), ("i", 10)]) rfl sc_rows_for.nd (pi_range2 (by rfl) T.n_range (pa_cons pe_int (pa_cons (pe_op op_add (pe_op op_sub (pv 3) (pv 6)) pe_int) pa_nil))) (blkOk_by (own := [(".0", 9), ("i", 10)]) (N := ["chain", "length", "modulus", "width", "forms", "found", "row", "times", "places", ".0", "i", "place", "some"]) (sc := ({ kind := ScopeKind.function, names := [((".0" : Str), NameKind.local), (("place" : Str), NameKind.cell), (("range" : Str), NameKind.globalImplicit), (("forms" : Str), NameKind.cell), (("row" : Str), NameKind.cell), (("width" : Str), NameKind.cell)], isGenerator := false, isCoroutine := false } : Scope)) (by decide +kernel)) (fun _ _ _ _ _ => (pg_name (i := 10) sc_rows_for.nd rfl (.inl rfl))) (fun _ _ _ _ _ => pts_nil) (fun _ _ _ _ _ => (pe_ix (ix_listK K) (pe_ix (ix_listK K) (pv 4) (pe_op op_add (pv 6) (pv 10)) (fun _ _ => rfl)) (pv 11) (fun _ _ => rfl))))))
    (pss_one (ps_expr (pe_bm PySem.F.plainAttrs_list PySem.F.slot_list_append PySem.F.type_list_append mt_append (pv 5) (pa_cons (pe_lc (own := [(".0", 9), ("some", 12)]) rfl sc_rows_for.nd (pi_listK K (pv 8)) (blkOk_by (own := [(".0", 9), ("some", 12)]) (N := ["chain", "length", "modulus", "width", "forms", "found", "row", "times", "places", ".0", "i", "place", "some"]) (sc := defScope (top 52)) (by decide +kernel)) (fun _ _ _ _ _ => (pg_name (i := 12) sc_rows_for.nd rfl (.inl rfl))) (fun _ _ _ _ _ => pts_nil) (fun _ _ _ _ _ => (pe_op op_mod (pe_call F_products (hr.mono (by decide)) (by rfl) T.g_products kp_products b_products .nil passL (pa_cons (pv 7) (pa_cons (pv 12) pa_nil))) (pv 2)))) pa_nil)))))))
    (pss_one (ps_ret (pv 5)))))), enter h fun ts O P X h _ => ?_⟩
    try dsimp only [cxOf, Cx.nox, Cx.wish]
    
    obtain ⟨l, n, m0, m, len, rfl, rfl, ok, n2, h1, h2, p⟩ := h
    have hcU : Cls K (chC K l) := by
      cases l
      · exact T.cl_Prompt
      · exact T.cl_Late
    have hnS : NoAttr K (chC K l) "stages" := by
      cases l
      · exact T.na_Prompt_stages
      · exact T.na_Late_stages
    have hnM : NoAttr K (chC K l) "modulus" := by
      cases l
      · exact T.na_Prompt_modulus
      · exact T.na_Late_modulus
    have hiU : InsTy K (chC K l) := by
      cases l
      · exact T.it_Prompt
      · exact T.it_Late
    have hkU : PySem.W.kitAny K (.ref (chC K l)) [.ref (He.ga K "Prompt"), .ref (He.ga K "Late")] = some true := by
      cases l
      · exact kitAny_cons T.kit_Prompt_Prompt (fun z => by cases z) fun _ => rfl
      · exact kitAny_cons T.kit_Late_Prompt (fun _ => kitAny_cons T.kit_Late_Late (fun z => by cases z) fun _ => rfl) fun z => by cases z
    have hkP : PySem.W.kitOne K (.ref (chC K l)) (.ref (He.ga K "Prompt")) = some (!l) := by
      cases l
      · exact T.kit_Prompt_Prompt
      · exact T.kit_Late_Prompt
    have m1 := ok.m1
    have m2 := ok.m2
    have n1 := ok.n1
    show WS _ _ _ _ [.v (chD (chC K l) (n : Nat) m0), .v (.int len), .v (.int m), .no, .no, .no, .no, .no, .no, .no, .no, .no, .no] _
    refine s_seq ?_
    refine s_tup3 ?_
    repeat walk_at "o"
    refine ⟨l, n, m0, rfl, rfl, n1, n2, ⟨⟨_, rfl⟩, ?_⟩⟩
    repeat walk_at "o"
    refine s_seq ?_
    refine s_forE ?_
    refine i_rng1 ?_
    repeat walk_at "e"
    refine ⟨by omega, ?_⟩
    rw [Int.toNat_natCast]
    have hFl : (formsOf l n).length = n + 1 := by unfold formsOf; rw [formsF_len]; omega
    have hFr : ∀ k, k < n + 1 → ((formsOf l n).getD k []).length = n := fun k hk => by
      rw [List.getD_eq_getElem?_getD, List.getElem?_eq_getElem (by omega)]
      exact formsF_row l n _ _ (List.getElem_mem _)
    refine for_R1 (n := n) (fun i ts' O' => ∃ (a6 a7 a8 : G.T), O' = [.lst (((List.range i).map (rowF l n len m)).map LN)] ∧ ts' = [.v (chD (chC K l) (n : Nat) m0), .v (.int len), .v (.int m), .v (.int (n : Nat)), .v (.lst ((formsOf l n).map LN)), .own 0, a6, a7, a8, .no, .no, .no, .no]) ⟨_, _, _, rfl, rfl⟩ ?_ ?_
    · rintro r _ _ hr ⟨a6, a7, a8, rfl, rfl⟩
      refine g_name ?_
      refine s_seq ?_
      repeat walk_at "e"
      refine w_lc1 ?_ (by decide)
      refine i_rng2 ?_
      repeat walk_at "e"
      rw [show ((n : Int) - (r : Int) + 1 - 1).toNat = n - r by omega]
      refine ⟨by omega, ?_⟩
      refine lc_one (n := n - r) (fun i => bin len (i + 1)) (by omega) (fun i acc hi => ?_) ?_
      · refine g_name ?_
        repeat walk_at "e"
        refine ⟨len, i + 1, rfl, rfl, by omega, ?_, ⟨⟨_, rfl⟩, ?_⟩⟩
        · have : (2 ^ 230 : Nat) = 1725436586697640946858688965569256363112777243042596638790631055949824 := rfl
          omega
        exact ⟨rfl, rfl⟩
      rw [show (List.range (n - r)).map (fun i => bin len (i + 1)) = timesF len (n - r) from rfl]
      repeat walk_at "e"
      refine s_seq ?_
      repeat walk_at "e"
      refine w_lc1 ?_ (by decide)
      refine i_rng1 ?_
      repeat walk_at "e"
      refine ⟨by omega, ?_⟩
      rw [Int.toNat_natCast]
      refine lc_R (n := n) (fun q => LN (placeF (formsOf l n) r (n - r) q)) (by omega) (fun q acc hq => ?_) ?_
      · refine g_name ?_
        refine w_lc1 ?_ (by decide)
        refine i_rng2 ?_
        repeat walk_at "e"
        rw [show ((n : Int) - (r : Int) + 1 - 1).toNat = n - r by omega]
        refine ⟨by omega, ?_⟩
        refine lc_one (n := n - r) (fun i => ((formsOf l n).getD (r + (i + 1)) []).getD q 0) (by omega) (fun i acc hi => ?_) ?_
        · refine g_name ?_
          repeat walk_at "e"
          refine w_ixL lstD_v (atF (k := r + (i + 1)) (by omega) (by omega)) ?_
          repeat walk_at "e"
          refine w_ixL lstD_v (atZ (k := q) rfl (by rw [hFr _ (by omega)]; exact hq)) ?_
          exact ⟨rfl, rfl⟩
        exact ⟨rfl, rfl⟩
      repeat walk_at "e"
      refine w_lc1 ?_ (by decide)
      refine i_list ?_
      repeat walk_at "e"
      refine lc_A (List.range n) (fun q => LN (placeF (formsOf l n) r (n - r) q)) (fun q => .int (La.dot (timesF len (n - r)) (placeF (formsOf l n) r (n - r) q) % m)) (by rw [List.length_range]; omega) (fun q acc hq => ?_) ?_
      · have hq := List.mem_range.mp hq
        have hl1 : (timesF len (n - r)).length = n - r := by unfold timesF; rw [List.length_map, List.length_range]
        have hl2 : (placeF (formsOf l n) r (n - r) q).length = n - r := by unfold placeF; rw [List.length_map, List.length_range]
        refine g_name ?_
        repeat walk_at "e"
        refine ⟨timesF len (n - r), placeF (formsOf l n) r (n - r) q, 1200, 8, _, rfl, rfl, .inl rfl, by decide, by rw [hl1]; omega, by rw [hl2]; omega, fun y hy => na_of (times_bd h1 h2 (by omega) y hy), fun y hy => ?_, ⟨⟨_, rfl⟩, ?_⟩⟩
        · unfold placeF at hy
          obtain ⟨i, _, rfl⟩ := List.mem_map.mp hy
          have := small_at (l := l) n2 (r + (i + 1)) q
          omega
        repeat walk_at "e"
        exact ⟨rfl, rfl⟩
      repeat walk_at "e"
      refine m_append (by exact rfl) (lt_szN (by rw [List.length_map, List.length_map, List.length_range]; omega)) ?_
      rw [show ((List.range n).map fun q => D.int (La.dot (timesF len (n - r)) (placeF (formsOf l n) r (n - r) q) % m)) = nums (rowF l n len m r) by unfold nums rowF; rw [List.map_map] <;> rfl]
      exact ⟨_, _, _, by rw [List.range_succ, List.map_append, List.map_append] <;> rfl, rfl⟩
    rintro _ _ ⟨a6, a7, a8, rfl, rfl⟩
    refine s_frz 0 rfl rfl ?_
    repeat walk_at "e"
    exact ⟨rfl, p⟩
end My

set_option Elab.async false
set_option linter.all false
set_option maxRecDepth 100000
set_option maxHeartbeats 0
namespace My
open PySem PySem.Spec PyProof.Rows L2 G
open La (Tri Fl putT lessT echT agT keptT fullF frow bez bezF diagT Red md Bq)

local macro_rules | `(tactic| walk_at "ws") => `(tactic| first
  | with_reducible refine s_set ?_
  | with_reducible refine s_if ?_
  | with_reducible refine s_ret ?_
  | with_reducible refine s_retN ?_
  | with_reducible refine s_drop ?_
  | with_reducible refine s_next ?_
  | with_reducible refine s_par ?_
  | with_reducible refine s_par3 ?_
  | refine s_fldN (by assumption) (by assumption) ?_
  | with_reducible refine s_asg ?_
  | refine s_raise1 ?_
  | refine s_raise2 ?_)
local macro_rules | `(tactic| walk_at "we") => `(tactic| first
  | ((with_reducible refine w_v (d := ?k2) ?k1 ?_); (case k1 => exact rfl))
  | ((with_reducible refine w_o (j := ?k2) ?k1 ?_); (case k1 => exact rfl))
  | ((guard_target = G.WE _ _ (tFld _ _ _) _ _ _ _); (refine w_fldN (by assumption) (by assumption) ?_))
  | ((guard_target = G.WE _ _ (tC (.ref _)) _ _ _ _); (refine w_ctup (by assumption) ?_))
  | with_reducible refine w_ci ?_
  | with_reducible refine w_op ?_
  | with_reducible refine w_call ?_
  | with_reducible refine w_cty ?_
  | with_reducible refine w_cb ?_
  | with_reducible refine w_cn ?_
  | with_reducible refine w_cs ?_
  | with_reducible refine w_cr ?_
  | with_reducible refine w_un ?_
  | with_reducible refine w_andV ?_
  | with_reducible refine w_orV ?_
  | with_reducible refine w_notV ?_
  | with_reducible refine w_ife ?_
  | with_reducible refine w_chain ?_
  | with_reducible refine w_tup ?_
  | with_reducible refine w_revL ?_
  | with_reducible refine w_slL ?_
  | with_reducible refine w_slT ?_
  | (guard_target = G.WE _ _ (tCall (lift _ (sp_draw _)) _ _ _) _ _ _ _; refine w_fn10 0 ?_)
  | (guard_target = G.WE _ _ (tCall (lift _ (sp_pick _)) _ _ _) _ _ _ _; refine w_fn10 0 ?_)
  | (guard_target = G.WE _ _ (tCall (lift _ (sp_l_right _)) _ _ _) _ _ _ _; refine w_fn10 0 ?_)
  | (guard_target = G.WE _ _ (tCall (lift _ (sp_l_bent _)) _ _ _) _ _ _ _; refine w_fn10 0 ?_)
  | with_reducible refine w_fn0 ?_
  | with_reducible refine w_fnS0 ?_
  | with_reducible refine w_meth0 ?_
  | with_reducible refine w_make0 ?_
  | with_reducible refine w_bmL ?_
  | with_reducible refine w_bmL0 ?_
  | with_reducible refine w_lst ?_
  | with_reducible refine w_callKX ?_
  | with_reducible refine w_makeKX ?_
  | with_reducible refine w_makeX ?_
  | with_reducible refine w_smethX ?_
  | with_reducible refine w_smethK ?_
  | with_reducible refine w_smethK0 ?_
  | with_reducible refine w_fnV ?_
  | with_reducible refine w_fnX ?_
  | with_reducible refine w_fnSX ?_
  | with_reducible refine w_methX ?_
  | with_reducible refine w_callX ?_
  | with_reducible refine w_methK ?_
  | with_reducible refine w_callK2 ?_
  | with_reducible refine w_callI ?_
  | with_reducible refine w_prop ?_
  | with_reducible refine w_dic0 ?_
  | with_reducible refine w_jcons ?_
  | with_reducible refine w_jnil ?_
  | with_reducible refine w_join ?_
  | with_reducible refine w_split ?_
  | with_reducible refine w_smeth ?_
  | with_reducible refine w_fnKr ?_)
local macro_rules | `(tactic| walk_at "wt") => `(tactic| first
  | with_reducible refine w_test ?_
  | with_reducible refine w_B ?_
  | with_reducible refine w_and ?_
  | with_reducible refine w_or ?_
  | with_reducible refine w_not ?_)
local macro_rules | `(tactic| walk_at "wa") => `(tactic| first
  | with_reducible refine w_cons ?_
  | with_reducible refine w_nil ?_
  | with_reducible refine w_star ?_)
local macro_rules | `(tactic| walk_at "wr") => `(tactic| first
  | with_reducible refine w_add ?_
  | with_reducible refine w_sub ?_
  | with_reducible refine w_lt ?_
  | with_reducible refine w_le ?_
  | with_reducible refine w_gt ?_
  | with_reducible refine w_ge ?_
  | with_reducible refine w_eqI ?_
  | with_reducible refine w_neI ?_
  | with_reducible refine w_isN ?_
  | with_reducible refine w_notN ?_
  | ((with_reducible refine w_mod ?k1 ?_); (case k1 => first | decide | omega))
  | ((with_reducible refine w_mul ?k1 ?_); (case k1 => first | exact Or.inl ⟨by decide, by decide⟩ | exact Or.inr ⟨by decide, by decide⟩ | exact Or.inl ⟨by omega, by omega⟩ | exact Or.inr ⟨by omega, by omega⟩))
  | ((with_reducible refine w_pow ?k1 ?_); (case k1 => first | exact ⟨by decide, by decide, by decide⟩ | exact ⟨by omega, by omega, by omega⟩))
  | ((with_reducible refine w_fdivW ?k1 ?_); (case k1 => exact divW_ok (by first | decide | omega) (by first | decide | omega)))
  | ((with_reducible refine w_mulW ?k1 ?_); (case k1 => exact mulW_ok ⟨by omega, by omega⟩ ⟨by omega, by omega⟩))
  | ((guard_target = G.WR _ (rIxT _) _ _ _ _); (refine w_ixT (by first | exact atI_0 | exact atI_1 | exact atI_2 | exact atI_3 | exact atI_4 | exact atI_5 | exact atI_6 | assumption) ?_))
  | ((guard_target = G.WR _ (rIxL _) _ _ _ _); (refine w_ixL (by first | exact lstD_v | exact lstD_o rfl) (by first | exact atI_0 | exact atI_1 | exact atI_2 | exact atI_3 | exact atI_4 | exact atI_5 | exact atI_6 | assumption) ?_)))
local macro_rules | `(tactic| walk_at "wc") => `(tactic| first
  | with_reducible refine c_int ?_
  | with_reducible refine c_intB ?_
  | with_reducible refine c_abs ?_
  | ((guard_target = G.WC _ (G.rLen _) _ _ _); (refine c_lenL (by first | exact lstD_v | exact lstD_o rfl) ?_))
  | with_reducible refine c_lenT ?_
  | ((guard_target = G.WC _ (G.rListOf _) _ _ _); (refine c_listL (by first | exact lstD_v | exact lstD_o rfl) ?_))
  | with_reducible refine c_listT ?_
  | ((guard_target = G.WC _ (G.rTupOf _) _ _ _); (refine c_tupL (by first | exact lstD_v | exact lstD_o rfl) ?_))
  | with_reducible refine c_tupT ?_)
local macro_rules | `(tactic| walk_at "e") => `(tactic| first
  | (guard_target = G.WE _ _ _ _ _ _ _; walk_at "we")
  | (guard_target = G.WS _ _ _ _ _ _; walk_at "ws")
  | (guard_target = G.WA _ _ _ _ _ _ _; walk_at "wa")
  | (guard_target = G.WR _ _ _ _ _ _; walk_at "wr")
  | (guard_target = G.WT _ _ _ _ _ _ _; walk_at "wt")
  | (guard_target = G.WC _ _ _ _ _; walk_at "wc")
  | (guard_target = G.WU _ _ _ _ _; with_reducible refine w_neg ?_)
  | (guard_target = G.WG _ _ _ _ _ _ _; first | with_reducible refine g_name ?_ | with_reducible refine g_setL ?_ | refine g_pair rfl ?_ | refine g_trip rfl ?_ | refine g_quad rfl ?_)
  | (guard_target = G.WO _ _ _ _ _ _ _; first | with_reducible refine o_none ?_ | with_reducible refine o_some ?_)
  | with_reducible refine tt_ ?_
  | with_reducible refine ff_ ?_
  | with_reducible refine ntt_ ?_
  | with_reducible refine nff_ ?_
  | ((guard_target = ((!G.isNon _) = true → _) ∧ _); (first | refine bnF rfl ?_ | refine bnT rfl ?_))
  | ((guard_target = (G.isNon _ = true → _) ∧ _); (first | refine bF rfl ?_ | refine bT rfl ?_))
  | (guard_target = Exists _; first
    | refine ⟨_, rfl, Nat.le_of_ble_eq_true rfl, Nat.le_of_ble_eq_true rfl, ?_⟩
    | refine ⟨_, _, _, _, _, rfl, rfl, rfl, rfl, rfl, ?_⟩
    | refine ⟨_, _, _, rfl, rfl, rfl, Nat.le_of_ble_eq_true rfl, ?_⟩
    | refine ⟨_, _, rfl, rfl, rfl, ?_⟩
    | refine ⟨_, _, _, rfl, ?_⟩
    | refine ⟨_, _, (by first | exact insD_v | exact insD_o rfl), rfl, ?_⟩
    | refine ⟨_, _, rfl, ?_⟩
    | refine ⟨_, rfl, rfl, ?_⟩
    | refine ⟨_, rfl, Nat.le_of_ble_eq_true rfl, ?_⟩
    | refine ⟨_, (by first | exact lstD_v | exact lstD_o rfl), ?_⟩
    | refine ⟨_, rfl, ?_⟩))
local macro_rules | `(tactic| walk_at "o") => `(tactic| first | with_reducible refine w_lstO ?_ | walk_at "e")
local macro_rules | `(tactic| walk_at "g") => `(tactic| first | walk_at "e" | with_reducible refine s_seq ?_)
local macro_rules | `(tactic| walk_at "n") => `(tactic| (with_reducible refine s_seq ?_); (repeat walk_at "e"))
theorem sc_starts_with : FnScope ["chain", "number", "modulus", "last", "width", "forms", "numbers", "stage", "due"] ["chain", "number", "modulus", "last"] (defScope (top 55)) := ⟨rfl, rfl, rfl, by decide +kernel, rfl, by decide +kernel, by decide +kernel⟩
theorem ok_starts_with {P : Program} {w : World} {K : PySem.W.Frag} {mg : Str → Option Value} {base : Heap} (T : Tx K mg) (h_forms_of : Fn P w K mg base 2 (He.fAd K ("forms_of", none)) ["chain"] (sp_st_forms K)) (h_products : Fn P w K mg base 1 (He.fAd K ("products", none)) ["one", "other"] (sp_st_prod K)) : Fn P w K mg base 3 (He.fAd K ("starts_with", none)) ["chain", "number", "modulus", "last"] (sp_st_sw K) := by
  obtain ⟨_, F_forms_of, b_forms_of, kp_forms_of, lk_forms_of⟩ := h_forms_of
  obtain ⟨_, F_products, b_products, kp_products, lk_products⟩ := h_products
  obtain ⟨fd, F⟩ := T.d_starts_with
  have hc_Late := T.cl_Late
  have hn_Late_stages := T.na_Late_stages
  have hc_Prompt := T.cl_Prompt
  have hn_Prompt_stages := T.na_Prompt_stages
  refine ⟨fd, F.ok sc_starts_with (lift_len ?_) (fun cdv A outer s H vs Q E hr h => ?_), F.bindsN fun _ _ _ _ _ _ us hl => (match us, hl with | [_, _, _, _], _ => rfl), F.kp, lk_of F⟩
  · intro ts O P X h
    exact sp_st_sw_len h
  · have hu := hr.units
    refine ⟨_, (PSs.nox (pss_cons (ps_par3 (i := 4) (j := 5) (l := 6) rfl sc_starts_with.nd rfl rfl rfl (by decide) (by decide) (by decide) rfl rfl rfl (pa_cons (pe_fldK K (pv 0)) (pa_cons (pe_call F_forms_of (hr.mono (by decide)) (by rfl) T.g_forms_of kp_forms_of b_forms_of .nil passL (pa_cons (pv 0) pa_nil)) (pa_cons (pe_lst (pa_cons (pv 1) pa_nil)) pa_nil))) rfl)
    (pss_cons (ps_for PassesOwn.never rfl (pi_range2 (by rfl) T.n_range (pa_cons pe_int (pa_cons (pv 4) pa_nil))) (pg_name (i := 7) sc_starts_with.nd rfl (.inl rfl))
    (pss_cons (ps_set (i := 8) sc_starts_with.nd rfl (.inl rfl) (pe_ifExp (pt_cmpR op_eq (pv 7) (pe_op op_sub (pv 4) pe_int) (nomark _)) (pv 3) pe_int))
    (pss_one (ps_expr (pe_bm PySem.F.plainAttrs_list PySem.F.slot_list_append PySem.F.type_list_append mt_append (pv 6) (pa_cons (pe_op op_mod (pe_op op_sub (pv 8) (pe_lock (pe_call F_products (hr.mono (by decide)) (by rfl) T.g_products kp_products b_products .nil passL (pa_cons (pe_ix (ix_listK K) (pv 5) (pe_op op_sub (pv 4) (pv 7)) (fun _ _ => rfl)) (pa_cons (pv 6) pa_nil))))) (pv 2)) pa_nil))))))
    (pss_one (ps_ret (pe_slice (sl_listK K) (pv 6) (po_some pe_int) po_none)))))), enter h fun ts O P X h _ => ?_⟩
    try dsimp only [cxOf, Cx.nox, Cx.wish]
    
    obtain ⟨l, n, m0, x, g, last, rfl, rfl, n1, n6, x0, x1, g1, g2, l0, l1, p⟩ := h
    have hcU : Cls K (chC K l) := by
      cases l
      · exact T.cl_Prompt
      · exact T.cl_Late
    have hnS : NoAttr K (chC K l) "stages" := by
      cases l
      · exact T.na_Prompt_stages
      · exact T.na_Late_stages
    have hnM : NoAttr K (chC K l) "modulus" := by
      cases l
      · exact T.na_Prompt_modulus
      · exact T.na_Late_modulus
    have hiU : InsTy K (chC K l) := by
      cases l
      · exact T.it_Prompt
      · exact T.it_Late
    have hkU : PySem.W.kitAny K (.ref (chC K l)) [.ref (He.ga K "Prompt"), .ref (He.ga K "Late")] = some true := by
      cases l
      · exact kitAny_cons T.kit_Prompt_Prompt (fun z => by cases z) fun _ => rfl
      · exact kitAny_cons T.kit_Late_Prompt (fun _ => kitAny_cons T.kit_Late_Late (fun z => by cases z) fun _ => rfl) fun z => by cases z
    have hkP : PySem.W.kitOne K (.ref (chC K l)) (.ref (He.ga K "Prompt")) = some (!l) := by
      cases l
      · exact T.kit_Prompt_Prompt
      · exact T.kit_Late_Prompt
    show WS _ _ _ _ [.v (chD (chC K l) (n : Nat) m0), .v (.int x), .v (.int (g : Nat)), .v (.int last), .no, .no, .no, .no, .no] _
    refine s_seq ?_
    refine s_par3 ?_
    repeat walk_at "o"
    refine ⟨l, n, m0, rfl, rfl, n1, n6, ⟨⟨_, rfl⟩, ?_⟩⟩
    repeat walk_at "o"
    refine s_seq ?_
    refine s_forE ?_
    refine i_rng2 ?_
    repeat walk_at "e"
    rw [show ((n : Int) - 1).toNat = n - 1 by omega]
    refine ⟨by omega, ?_⟩
    have hFl : (formsOf l n).length = n + 1 := by unfold formsOf; rw [formsF_len]; omega
    refine for_R (fun i ts' O' => ∃ (a b : G.T), O' = [.lst (nums (swF l n x g last i))] ∧ ts' = [.v (chD (chC K l) (n : Nat) m0), .v (.int x), .v (.int (g : Nat)), .v (.int last), .v (.int (n : Nat)), .v (.lst ((formsOf l n).map LN)), .own 0, a, b]) ⟨_, _, rfl, rfl⟩ ?_ ?_
    · rintro i _ _ hi ⟨a, b, rfl, rfl⟩
      rw [show (1 : Int) + (i : Int) * 1 = ((i + 1 : Nat) : Int) by omega]
      refine g_name ?_
      refine s_cut (fun ts' O' => O' = [.lst (nums (swF l n x g last i))] ∧ ts' = [.v (chD (chC K l) (n : Nat) m0), .v (.int x), .v (.int (g : Nat)), .v (.int last), .v (.int (n : Nat)), .v (.lst ((formsOf l n).map LN)), .own 0, .v (.int (i + 1 : Nat)), .v (.int (if i + 1 = n - 1 then last else 0))]) ?_ ?_
      · refine s_set ?_
        repeat walk_at "e"
        refine br (fun h2 => ?_) (fun h2 => ?_)
        · repeat walk_at "e"
          exact ⟨rfl, by rw [if_pos (by omega)] <;> rfl⟩
        · repeat walk_at "e"
          exact ⟨rfl, by rw [if_neg (by omega)] <;> rfl⟩
      rintro _ _ ⟨rfl, rfl⟩
      repeat walk_at "e"
      refine w_lockL 0 rfl (fun j o hj ho => (by
        cases j with
        | zero => exact absurd rfl hj
        | succ j => simp at ho)) fun od ws => ?_
      repeat walk_at "e"
      refine w_ixL lstD_v (atF (k := n - (i + 1)) (by omega) (by omega)) ?_
      repeat walk_at "e"
      have hsm : ∀ y ∈ swF l n x g last i, y.natAbs < 2 ^ 200 := fun y hy => by
        obtain ⟨s, e1, e2⟩ := My.swF_head l n x g last i
        have h3 := My.swF_in (l := l) (n := n) (x := x) (last := last) g1 i
        rw [e1] at hy h3
        rcases List.mem_cons.mp hy with rfl | hy
        · omega
        · have := h3 y hy
          omega
      refine ⟨(formsOf l n).getD (n - (i + 1)) [], swF l n x g last i, 8, 200, _, rfl, rfl, .inr ⟨_, _, rfl⟩, by decide, ?_, by rw [My.swF_len]; omega, fun y hy => ?_, hsm, ⟨⟨_, rfl⟩, ?_⟩⟩
      · rw [List.getD_eq_getElem?_getD, List.getElem?_eq_getElem (by omega)]
        have hrl : ((formsOf l n)[n - (i + 1)]'(by omega)).length = n := formsF_row l n (n - 1) _ (List.getElem_mem _)
        show ((formsOf l n)[n - (i + 1)]'(by omega)).length ≤ 8
        omega
      · obtain ⟨j, hj, rfl⟩ := List.mem_iff_getElem.mp hy
        have := small_at (l := l) n6 (n - (i + 1)) j
        rw [List.getD_eq_getElem?_getD (l := (formsOf l n).getD (n - (i + 1)) []), List.getElem?_eq_getElem hj] at this
        have h4 : 0 ≤ ((formsOf l n).getD (n - (i + 1)) [])[j] ∧ ((formsOf l n).getD (n - (i + 1)) [])[j] ≤ 64 := this
        omega
      refine ⟨rfl, _, rfl, rfl, ?_⟩
      repeat walk_at "e"
      refine m_append (by exact rfl) (lt_szN (by rw [nums_len, My.swF_len]; omega)) ?_
      exact ⟨_, _, by rw [show swF l n x g last (i + 1) = swF l n x g last i ++ [((if i + 1 = n - 1 then last else 0) - La.dot ((formsOf l n).getD (n - (i + 1)) []) (swF l n x g last i)) % (g : Int)] from rfl, ← nums_app] <;> rfl, rfl⟩
    rintro _ _ ⟨a, b, rfl, rfl⟩
    refine s_frz 0 rfl rfl ?_
    repeat walk_at "e"
    rw [cut_tailN]
    exact ⟨rfl, p⟩
theorem sc_whole_starts : FnScope ["chain", "parts", "found", "at", ".0", "starts", "divisor"] ["chain", "parts"] (defScope (top 56)) := ⟨rfl, rfl, rfl, by decide +kernel, rfl, by decide +kernel, by decide +kernel⟩
theorem ok_whole_starts {P : Program} {w : World} {K : PySem.W.Frag} {mg : Str → Option Value} {base : Heap} (T : Tx K mg) (h_joined : Fn P w K mg base 2 (He.fAd K ("joined", none)) ["parts"] (sp_joined K)) : Fn P w K mg base 3 (He.fAd K ("whole_starts", none)) ["chain", "parts"] (sp_st_ws K) := by
  obtain ⟨_, F_joined, b_joined, kp_joined, lk_joined⟩ := h_joined
  obtain ⟨fd, F⟩ := T.d_whole_starts
  have hc_Late := T.cl_Late
  have hn_Late_stages := T.na_Late_stages
  have hc_Prompt := T.cl_Prompt
  have hn_Prompt_stages := T.na_Prompt_stages
  refine ⟨fd, F.ok sc_whole_starts (lift_len ?_) (fun cdv A outer s H vs Q E hr h => ?_), F.bindsN fun _ _ _ _ _ _ us hl => (match us, hl with | [_, _], _ => rfl), F.kp, lk_of F⟩
  · intro ts O P X h
    exact sp_st_ws_len h
  · have hu := hr.units
    refine ⟨_, (PSs.nox (pss_cons (ps_set (i := 2) sc_whole_starts.nd rfl (.inl rfl) (pe_lst pa_nil))
    (pss_cons (ps_for PassesOwn.never rfl (pi_range1 (by rfl) T.n_range (pa_cons (pe_op op_sub (pe_fldK K (pv 0)) pe_int) pa_nil)) (pg_name (i := 3) sc_whole_starts.nd rfl (.inr rfl))
    (pss_one (ps_expr (pe_bm PySem.F.plainAttrs_list PySem.F.slot_list_append PySem.F.type_list_append mt_append (pv 2) (pa_cons (pe_call F_joined (hr.mono (by decide)) (by rfl) T.g_joined kp_joined b_joined .nil passL (pa_cons (pe_lc (own := [(".0", 4), ("starts", 5), ("divisor", 6)]) rfl sc_whole_starts.nd (pi_listK K (pv 1)) (blkOk_by (own := [(".0", 4), ("starts", 5), ("divisor", 6)]) (N := ["chain", "parts", "found", "at", ".0", "starts", "divisor"]) (sc := defScope (top 56)) (by decide +kernel)) (fun _ _ _ _ _ => (pg_tupK K (n := 2) rfl (pgs_cons (pg_name (i := 5) sc_whole_starts.nd rfl (.inl rfl)) (pgs_cons (pg_name (i := 6) sc_whole_starts.nd rfl (.inl rfl)) pgs_nil)))) (fun _ _ _ _ _ => pts_nil) (fun _ _ _ _ _ => (pe_tup (pa_cons (pe_ix (ix_listK K) (pv 5) (pv 3) (fun _ _ => rfl)) (pa_cons (pv 6) pa_nil))))) pa_nil)) pa_nil)))))
    (pss_one (ps_ret (pe_tup (StX.pa_star (pv 2) (pa_cons pe_int pa_nil)))))))), enter h fun ts O P X h _ => ?_⟩
    try dsimp only [cxOf, Cx.nox, Cx.wish]
    
    obtain ⟨l, n, m0, ps, d, rfl, rfl, hd, n1, n6, hl, hp, hc, p⟩ := h
    have hcU : Cls K (chC K l) := by
      cases l
      · exact T.cl_Prompt
      · exact T.cl_Late
    have hnS : NoAttr K (chC K l) "stages" := by
      cases l
      · exact T.na_Prompt_stages
      · exact T.na_Late_stages
    have hnM : NoAttr K (chC K l) "modulus" := by
      cases l
      · exact T.na_Prompt_modulus
      · exact T.na_Late_modulus
    have hiU : InsTy K (chC K l) := by
      cases l
      · exact T.it_Prompt
      · exact T.it_Late
    have hkU : PySem.W.kitAny K (.ref (chC K l)) [.ref (He.ga K "Prompt"), .ref (He.ga K "Late")] = some true := by
      cases l
      · exact kitAny_cons T.kit_Prompt_Prompt (fun z => by cases z) fun _ => rfl
      · exact kitAny_cons T.kit_Late_Prompt (fun _ => kitAny_cons T.kit_Late_Late (fun z => by cases z) fun _ => rfl) fun z => by cases z
    have hkP : PySem.W.kitOne K (.ref (chC K l)) (.ref (He.ga K "Prompt")) = some (!l) := by
      cases l
      · exact T.kit_Prompt_Prompt
      · exact T.kit_Late_Prompt
    show WS _ _ _ _ [.v (chD (chC K l) (n : Nat) m0), .v d, .no, .no, .no, .no, .no] _
    refine s_seq ?_
    repeat walk_at "o"
    refine s_seq ?_
    refine s_forE ?_
    refine i_rng1 ?_
    repeat walk_at "e"
    rw [show ((n : Int) - 1).toNat = n - 1 by omega]
    refine ⟨by omega, ?_⟩
    refine for_R1 (n := n - 1) (fun i ts' O' => ∃ (fs : List Int) (a b c : G.T), O' = [.lst (nums fs)] ∧ ts' = [.v (chD (chC K l) (n : Nat) m0), .v d, .own 0, a, .no, b, c] ∧ fs.length = i ∧ (∀ k, k < i → My.Lvs (fs.getD k 0) (ps.map fun y => (y.1.getD k 0, y.2))) ∧ G.InR (My.prodN (ps.map (·.2)) : Nat) fs) ⟨[], _, _, _, rfl, rfl, rfl, fun k hk => absurd hk (by omega), fun x hx => by cases hx⟩ ?_ ?_
    · rintro i _ _ hi ⟨fs, a, b, c, rfl, rfl, hfl, hlv, hin⟩
      refine g_name ?_
      repeat walk_at "e"
      refine w_lcT ?_ (tgt_pair (by decide) (by decide))
      refine i_list2 ?_
      repeat walk_at "e"
      refine ⟨_, hd.imp (congrArg G.T.v) (fun ⟨od, ws, z⟩ => ⟨od, ws, congrArg G.T.v z⟩), ?_⟩
      refine lc_A ps prD (fun y => paD (y.1.getD i 0, y.2)) (by omega) (fun y acc hy => ?_) ?_
      · obtain ⟨h1, h2, h3, h4⟩ := hp y hy
        refine g_pair rfl ?_
        repeat walk_at "e"
        refine w_ixL lstD_v (atZ (k := i) rfl (by omega)) ?_
        repeat walk_at "e"
        exact ⟨rfl, rfl⟩
      rw [show (ps.map fun y => paD (y.1.getD i 0, y.2)) = (ps.map fun y => (y.1.getD i 0, y.2)).map paD by rw [List.map_map] <;> rfl]
      have e2 : (ps.map fun y => (y.1.getD i 0, y.2)).map (·.2) = ps.map (·.2) := by rw [List.map_map] <;> rfl
      repeat walk_at "e"
      refine ⟨_, rfl, rfl, fun z hz => ?_, by rw [e2]; exact hc, by rw [List.length_map]; omega, fun f f1 f2 f3 => ⟨⟨_, rfl⟩, ?_⟩⟩
      · obtain ⟨y, hy, rfl⟩ := List.mem_map.mp hz
        obtain ⟨h1, h2, h3, h4⟩ := hp y hy
        have h5 := getD_sml h4 i
        refine ⟨h2, by omega, Nat.lt_of_lt_of_le h5 (Nat.pow_le_pow_right (by decide) (by decide))⟩
      rw [e2] at f3
      repeat walk_at "e"
      refine m_append (by exact rfl) (lt_szN (show (nums fs).length < 1000000 by rw [nums_len]; omega)) ?_
      refine ⟨fs ++ [f], _, _, _, by rw [← nums_app] <;> rfl, rfl, by rw [List.length_append, hfl] <;> rfl, fun k hk => ?_, fun y hy => ?_⟩
      · rw [List.getD_eq_getElem?_getD]
        by_cases hki : k < i
        · rw [List.getElem?_append_left (by omega)]
          have := hlv k hki
          rwa [List.getD_eq_getElem?_getD] at this
        · have : k = fs.length := by omega
          subst this
          rw [List.getElem?_append_right (Nat.le_refl _), Nat.sub_self]
          rw [hfl]
          exact f1
      · rcases List.mem_append.mp hy with hy | hy
        · exact hin y hy
        · rw [List.mem_singleton.mp hy]
          exact ⟨f2, f3⟩
    rintro _ _ ⟨fs, a, b, c, rfl, rfl, hfl, hlv, hin⟩
    refine s_frz 0 rfl rfl ?_
    repeat walk_at "e"
    refine ⟨_, .inl valD_v, ?_⟩
    repeat walk_at "e"
    refine ⟨nums (fs ++ [0]), by rw [show (nums fs).map G.T.v ++ [.v (.int 0)] = (nums (fs ++ [0])).map G.T.v by rw [← nums_app, List.map_append] <;> rfl]; exact unv_map, Nat.le_trans (show _ ≤ 10 by rw [List.length_append, List.length_map, nums_len, List.length_singleton]; omega) (Nat.le_of_ble_eq_true rfl), ?_⟩
    exact ⟨rfl, p fs hfl hlv hin⟩
theorem sc_all_keep : FnScope ["rows", "number", "modulus", "row", ".0", "entry"] ["rows", "number", "modulus"] (defScope (top 57)) := ⟨rfl, rfl, rfl, by decide +kernel, rfl, by decide +kernel, by decide +kernel⟩
theorem ok_all_keep {P : Program} {w : World} {K : PySem.W.Frag} {mg : Str → Option Value} {base : Heap} (T : Tx K mg)  : Fn P w K mg base 1 (He.fAd K ("all_keep", none)) ["rows", "number", "modulus"] (sp_st_ak K) := by
  obtain ⟨fd, F⟩ := T.d_all_keep
  refine ⟨fd, F.ok sc_all_keep (lift_len ?_) (fun cdv A outer s H vs Q E hr h => ?_), F.bindsN fun _ _ _ _ _ _ us hl => (match us, hl with | [_, _, _], _ => rfl), F.kp, lk_of F⟩
  · intro ts O P X h
    exact sp_st_ak_len h
  · have hu := hr.units
    refine ⟨_, (PSs.nox (pss_cons (ps_for PassesOwn.never rfl (pi_listK K (pv 0)) (pg_name (i := 3) sc_all_keep.nd rfl (.inl rfl))
    (pss_one (ps_if (PW.pt (pw_or (pt_cmpR op_gt (pe_op op_mod (pe_op op_mulW (pe_ix (ix_listK K) (pv 3) pe_int (fun _ _ => rfl)) (pv 1)) (pv 2)) pe_int (nomark _)) (pw_or1 (pt_val (pe_callB (cr_anyK K rfl) (by rfl) T.n_any boot_any (pa_cons (pe_lc (own := [(".0", 4), ("entry", 5)]) rfl sc_all_keep.nd (pi_listK K (pe_slice (sl_listK K) (pv 3) (po_some pe_int) po_none)) (blkOk_by (own := [(".0", 4), ("entry", 5)]) (N := ["rows", "number", "modulus", "row", ".0", "entry"]) (sc := defScope (top 57)) (by decide +kernel)) (fun _ _ _ _ _ => (pg_name (i := 5) sc_all_keep.nd rfl (.inl rfl))) (fun _ _ _ _ _ => pts_nil) (fun _ _ _ _ _ => (pe_cmpR op_gt (pe_op op_mod (pv 5) (pv 2)) pe_int (nomark _)))) pa_nil))))))
    (pss_one (ps_ret pe_bl))
    pss_nil)))
    (pss_one (ps_ret pe_bl)))), enter h fun ts O P X h _ => ?_⟩
    try dsimp only [cxOf, Cx.nox, Cx.wish]
    
    obtain ⟨rows, x, m, k, rfl, rfl, hm, hl, hr, hk, hx, p⟩ := h
    show WS _ _ _ _ [.v (.lst (rows.map LN)), .v (.int x), .v (.int (m : Nat)), .no, .no, .no] _
    refine s_seq ?_
    refine s_forE ?_
    refine i_list ?_
    repeat walk_at "e"
    refine for_A (xs := rows) (e := LN) (fun i ts' O' => ∃ (a c : G.T), O' = [] ∧ ts' = [.v (.lst (rows.map LN)), .v (.int x), .v (.int (m : Nat)), a, .no, c] ∧ AllK (m : Nat) x (rows.take i)) ⟨_, _, rfl, rfl, fun v hv => by cases hv⟩ ?_ ?_
    · rintro i v _ _ hi hv ⟨a, c, rfl, rfl, hall⟩
      obtain ⟨vl, vs⟩ := hr v (List.mem_of_getElem? hv)
      have et : rows.take (i + 1) = rows.take i ++ [v] := by rw [List.take_succ, hv] <;> rfl
      have h00 := vs _ (show v.headD 0 ∈ v by cases v with | nil => simp at vl | cons a r => exact List.mem_cons_self)
      have hmem := List.mem_of_getElem? hv
      have pos : ∀ z : Int, 0 < z % (m : Int) ↔ ¬ (m : Int) ∣ z := fun z => by
        have h1 := Int.emod_nonneg z (show (m : Int) ≠ 0 by omega)
        constructor
        · intro a b
          rw [Int.emod_eq_zero_of_dvd b] at a
          omega
        · intro a
          have : z % (m : Int) ≠ 0 := fun b => a (Int.dvd_of_emod_eq_zero b)
          omega
      refine g_name ?_
      repeat walk_at "e"
      refine w_ixL lstD_v (show atI (nums v) 0 = some (.int (v.headD 0)) by cases v with | nil => simp at vl | cons a r => exact atI_0) ?_
      repeat walk_at "e"
      refine br (fun h1 => ?_) (fun h1 => ?_)
      · repeat walk_at "e"
        exact ⟨rfl, p false ⟨fun z => (by cases z), fun z => absurd (z v hmem).1 ((pos _).mp h1)⟩⟩
      have h1 : (m : Int) ∣ v.headD 0 * x := Classical.byContradiction fun z => h1 ((pos _).mpr z)
      repeat walk_at "e"
      refine w_lc1 ?_ (by decide)
      refine i_list ?_
      repeat walk_at "e"
      rw [cut_tailN]
      refine lc_A v.tail D.int (fun y => .bl (decide (0 < y % (m : Int)))) (by rw [List.length_tail]; omega) (fun y acc hy => ?_) ?_
      · refine g_name ?_
        repeat walk_at "e"
        exact ⟨rfl, rfl⟩
      rw [show (v.tail.map fun y => D.bl (decide (0 < y % (m : Int)))) = (v.tail.map fun y => decide (0 < y % (m : Int))).map D.bl by rw [List.map_map] <;> rfl]
      repeat walk_at "e"
      refine c_any lstD_v ?_
      by_cases hz : ∀ e ∈ v.tail, (m : Int) ∣ e
      · rw [show (v.tail.map fun y => decide (0 < y % (m : Int))).any id = false from List.any_eq_false.mpr fun b hb => (by
          obtain ⟨y, hy, rfl⟩ := List.mem_map.mp hb
          rw [Int.emod_eq_zero_of_dvd (hz y hy)]
          decide)]
        repeat walk_at "e"
        refine ⟨_, _, rfl, rfl, fun w hw => ?_⟩
        rw [et] at hw
        rcases List.mem_append.mp hw with hw | hw
        · exact hall w hw
        · rw [List.mem_singleton.mp hw]
          exact ⟨h1, hz⟩
      · obtain ⟨y, hy⟩ := Classical.not_forall.mp hz
        obtain ⟨hy, hny⟩ := Classical.not_imp.mp hy
        rw [show (v.tail.map fun y => decide (0 < y % (m : Int))).any id = true from List.any_eq_true.mpr ⟨_, List.mem_map.mpr ⟨y, hy, rfl⟩, decide_eq_true ((pos _).mpr hny)⟩]
        repeat walk_at "e"
        exact ⟨rfl, p false ⟨fun z => (by cases z), fun z => absurd ((z v hmem).2 y hy) hny⟩⟩
    rintro _ _ ⟨a, c, rfl, rfl, hall⟩
    rw [List.take_length] at hall
    repeat walk_at "e"
    exact ⟨rfl, p true ⟨fun _ => hall, fun _ => rfl⟩⟩
theorem sc_leaving_starts : FnScope ["rows", "number", "modulus", "place", ".0", "row", "entry", "at"] ["rows", "number", "modulus"] (defScope (top 58)) := ⟨rfl, rfl, rfl, by decide +kernel, rfl, by decide +kernel, by decide +kernel⟩
theorem ok_leaving_starts {P : Program} {w : World} {K : PySem.W.Frag} {mg : Str → Option Value} {base : Heap} (T : Tx K mg) (h_named : Fn P w K mg base 1 (He.fAd K ("named", none)) ["width", "place"] (sp_st_named K)) : Fn P w K mg base 2 (He.fAd K ("leaving_starts", none)) ["rows", "number", "modulus"] (sp_st_lv K) := by
  obtain ⟨_, F_named, b_named, kp_named, lk_named⟩ := h_named
  obtain ⟨fd, F⟩ := T.d_leaving_starts
  refine ⟨fd, F.ok sc_leaving_starts (lift_len ?_) (fun cdv A outer s H vs Q E hr h => ?_), F.bindsN fun _ _ _ _ _ _ us hl => (match us, hl with | [_, _, _], _ => rfl), F.kp, lk_of F⟩
  · intro ts O P X h
    exact sp_st_lv_len h
  · have hu := hr.units
    refine ⟨_, (PSs.nox (pss_cons (ps_if (pt_val (pe_callB (cr_anyK K rfl) (by rfl) T.n_any boot_any (pa_cons (pe_lc (own := [(".0", 4), ("row", 5)]) rfl sc_leaving_starts.nd (pi_listK K (pv 0)) (blkOk_by (own := [(".0", 4), ("row", 5)]) (N := ["rows", "number", "modulus", "place", ".0", "row", "entry", "at"]) (sc := defScope (top 58)) (by decide +kernel)) (fun _ _ _ _ _ => (pg_name (i := 5) sc_leaving_starts.nd rfl (.inl rfl))) (fun _ _ _ _ _ => pts_nil) (fun _ _ _ _ _ => (pe_cmpR op_gt (pe_op op_mod (pe_op op_mulW (pe_ix (ix_listK K) (pv 5) pe_int (fun _ _ => rfl)) (pv 1)) (pv 2)) pe_int (nomark _)))) pa_nil)))
    (pss_one (ps_ret (pe_lc (own := [(".0", 4), ("entry", 6)]) rfl sc_leaving_starts.nd (pi_listK K (pe_slice (sl_listK K) (pe_ix (ix_listK K) (pv 0) pe_int (fun _ _ => rfl)) (po_some pe_int) po_none)) (blkOk_by (own := [(".0", 4), ("entry", 6)]) (N := ["rows", "number", "modulus", "place", ".0", "row", "entry", "at"]) (sc := defScope (top 58)) (by decide +kernel)) (fun _ _ _ _ _ => (pg_name (i := 6) sc_leaving_starts.nd rfl (.inl rfl))) (fun _ _ _ _ _ => pts_nil) (fun _ _ _ _ _ => pe_int))))
    pss_nil)
    (pss_cons (ps_set (i := 3) sc_leaving_starts.nd rfl (.inl rfl) (pe_ix (ix_listK K) (pe_lc (own := [(".0", 4), ("at", 7)]) rfl sc_leaving_starts.nd (pi_range2 (by rfl) T.n_range (pa_cons pe_int (pa_cons (pe_callB (cr_lenK K) (by rfl) T.n_len boot_len (pa_cons (pv 0) pa_nil)) pa_nil))) (blkOk_by (own := [(".0", 4), ("at", 7)]) (N := ["rows", "number", "modulus", "place", ".0", "row", "entry", "at"]) (sc := defScope (top 58)) (by decide +kernel)) (fun _ _ _ _ _ => (pg_name (i := 7) sc_leaving_starts.nd rfl (.inr rfl))) (fun _ _ _ _ _ => (pts_one (pt_val (pe_callB (cr_anyK K rfl) (by rfl) T.n_any boot_any (pa_cons (pe_lc (own := [(".0", 4), ("row", 5)]) rfl sc_leaving_starts.nd (pi_listK K (pv 0)) (blkOk_by (own := [(".0", 4), ("row", 5)]) (N := ["rows", "number", "modulus", "place", ".0", "row", "entry", "at"]) (sc := ({ kind := ScopeKind.function, names := [((".0" : Str), NameKind.local), (("at" : Str), NameKind.cell), (("any" : Str), NameKind.globalImplicit), (("modulus" : Str), NameKind.cell), (("rows" : Str), NameKind.cell)], isGenerator := false, isCoroutine := false } : Scope)) (by decide +kernel)) (fun _ _ _ _ _ => (pg_name (i := 5) sc_leaving_starts.nd rfl (.inl rfl))) (fun _ _ _ _ _ => pts_nil) (fun _ _ _ _ _ => (pe_cmpR op_gt (pe_op op_mod (pe_ix (ix_listK K) (pv 5) (pv 7) (fun _ _ => rfl)) (pv 2)) pe_int (nomark _)))) pa_nil))))) (fun _ _ _ _ _ => (pv 7))) pe_int (fun _ _ => rfl)))
    (pss_one (ps_ret (pe_slice (sl_listK K) (pe_call F_named (hr.mono (by decide)) (by rfl) T.g_named kp_named b_named .nil passL (pa_cons (pe_callB (cr_lenK K) (by rfl) T.n_len boot_len (pa_cons (pv 0) pa_nil)) (pa_cons (pv 3) pa_nil))) (po_some pe_int) po_none)))))), enter h fun ts O P X h _ => ?_⟩
    try dsimp only [cxOf, Cx.nox, Cx.wish]
    
    obtain ⟨rows, x, m, k, rfl, rfl, hm, hl, hr, hk, hx, hno, p⟩ := h
    have pos : ∀ z : Int, 0 < z % (m : Int) ↔ ¬ (m : Int) ∣ z := fun z => by
      have h1 := Int.emod_nonneg z (show (m : Int) ≠ 0 by omega)
      constructor
      · intro a b
        rw [Int.emod_eq_zero_of_dvd b] at a
        omega
      · intro a
        have : z % (m : Int) ≠ 0 := fun b => a (Int.dvd_of_emod_eq_zero b)
        omega
    have hd0 : ∀ v ∈ rows, atI (nums v) 0 = some (.int (v.headD 0)) ∧ (v.headD 0).natAbs < 2 ^ 110 := fun v hv => by
      obtain ⟨vl, vs⟩ := hr v hv
      cases v with
      | nil => simp at vl
      | cons a r => exact ⟨atI_0, vs a List.mem_cons_self⟩
    show WS _ _ _ _ [.v (.lst (rows.map LN)), .v (.int x), .v (.int (m : Nat)), .no, .no, .no, .no, .no] _
    refine s_seq ?_
    repeat walk_at "e"
    refine w_lc1 ?_ (by decide)
    refine i_list ?_
    repeat walk_at "e"
    refine lc_A rows LN (fun v => .bl (decide (0 < v.headD 0 * x % (m : Int)))) (by omega) (fun v acc hv => ?_) ?_
    · obtain ⟨h1, h2⟩ := hd0 v hv
      refine g_name ?_
      repeat walk_at "e"
      exact ⟨rfl, rfl⟩
    rw [show (rows.map fun v => D.bl (decide (0 < v.headD 0 * x % (m : Int)))) = (rows.map fun v => decide (0 < v.headD 0 * x % (m : Int))).map D.bl by rw [List.map_map] <;> rfl]
    repeat walk_at "e"
    refine c_any lstD_v ?_
    rw [show (rows.map fun v => decide (0 < v.headD 0 * x % (m : Int))).any id = rows.any (fun v => decide (0 < v.headD 0 * x % (m : Int))) by rw [List.any_map] <;> rfl]
    obtain ⟨v0, hv0⟩ : ∃ v0, rows[0]? = some v0 := ⟨_, List.getElem?_eq_getElem (by omega)⟩
    cases hb : rows.any (fun v => decide (0 < v.headD 0 * x % (m : Int))) with
    | true =>
      repeat walk_at "e"
      refine w_lc1 ?_ (by decide)
      refine i_list ?_
      repeat walk_at "e"
      refine w_ixL lstD_v (show atI (rows.map LN) 0 = some (LN v0) from atI_nat (j := 0) (by rw [List.getElem?_map, hv0] <;> rfl)) ?_
      repeat walk_at "e"
      rw [cut_tailN]
      have vl := (hr v0 (List.mem_of_getElem? hv0)).1
      refine lc_A v0.tail D.int (fun _ => .int 0) (by rw [List.length_tail]; omega) (fun y acc hy => ?_) ?_
      · refine g_name ?_
        repeat walk_at "e"
        exact ⟨rfl, rfl⟩
      have e : (v0.tail.map fun _ => D.int 0) = nums (leaveF rows x (m : Int) k) := by
        unfold leaveF
        rw [if_pos hb]
        unfold nums
        rw [List.map_replicate, List.map_const', List.length_tail, vl, Nat.add_sub_cancel]
      rw [e]
      exact ⟨rfl, p⟩
    | false =>
      repeat walk_at "e"
      try dsimp only
      refine s_seq ?_
      repeat walk_at "e"
      refine w_lcF1 ?_ (by decide)
      refine i_rng2 ?_
      repeat walk_at "e"
      rw [List.length_map, hl]
      refine ⟨by omega, ?_⟩
      rw [show (((k + 1 : Nat) : Int) - 1).toNat = k by omega]
      have hat : ∀ (v : List Int) (i : Nat), v ∈ rows → i < k → atI (nums v) (((i + 1 : Nat) : Nat) : Int) = some (.int (v.getD (i + 1) 0)) := fun v i hv hi => atI_getD (by have := (hr v hv).1; omega)
      refine lcF_R2 (n := k) (fun z : Int => rows.any fun v => decide (0 < v.getD z.toNat 0 % (m : Int))) (fun z => .int z) (by omega) (fun i acc hi => ?_) ?_
      · rw [show (1 : Int) + (i : Int) = ((i + 1 : Nat) : Int) by omega]
        refine g_name ?_
        repeat walk_at "e"
        refine w_lc1 ?_ (by decide)
        refine i_list ?_
        repeat walk_at "e"
        refine lc_A rows LN (fun v => .bl (decide (0 < v.getD (i + 1) 0 % (m : Int)))) (by omega) (fun v acc hv => ?_) ?_
        · refine g_name ?_
          repeat walk_at "e"
          refine w_ixL lstD_v (hat v i hv hi) ?_
          repeat walk_at "e"
          exact ⟨rfl, rfl⟩
        rw [show (rows.map fun v => D.bl (decide (0 < v.getD (i + 1) 0 % (m : Int)))) = (rows.map fun v => decide (0 < v.getD (i + 1) 0 % (m : Int))).map D.bl by rw [List.map_map] <;> rfl]
        repeat walk_at "e"
        refine c_any lstD_v ?_
        rw [show (rows.map fun v => decide (0 < v.getD (i + 1) 0 % (m : Int))).any id = rows.any (fun v => decide (0 < v.getD (((i + 1 : Nat) : Int)).toNat 0 % (m : Int))) by rw [List.any_map] <;> rfl]
        repeat walk_at "e"
        refine ⟨rfl, fun hp => ?_⟩
        repeat walk_at "e"
        exact ⟨rfl, rfl⟩
      obtain ⟨a, r, e1, e2, e3⟩ := rg_find k (fun i => rows.any fun v => decide (0 < v.getD i 0 % (m : Int))) (Classical.byContradiction fun hn => hno fun v hv => by
        constructor
        · refine Classical.byContradiction fun h5 => ?_
          have : rows.any (fun v => decide (0 < v.headD 0 * x % (m : Int))) = true := List.any_eq_true.mpr ⟨v, hv, decide_eq_true ((pos _).mpr h5)⟩
          rw [hb] at this
          cases this
        · intro y hy
          refine Classical.byContradiction fun h5 => hn ?_
          obtain ⟨j, hj, rfl⟩ := List.mem_iff_getElem.mp hy
          have vl := (hr v hv).1
          rw [List.length_tail] at hj
          refine ⟨j, by omega, List.any_eq_true.mpr ⟨v, hv, decide_eq_true ((pos _).mpr ?_)⟩⟩
          rw [List.getElem_tail] at h5
          rw [List.getD_eq_getElem?_getD, List.getElem?_eq_getElem (by omega)]
          exact h5)
      rw [show ((rgI 1 (1 + (k : Int))).filter fun z : Int => rows.any fun v => decide (0 < v.getD z.toNat 0 % (m : Int))) = ((a + 1 : Nat) : Int) :: r from e1]
      repeat walk_at "e"
      try dsimp only
      rw [List.length_map, hl]
      refine ⟨k + 1, a + 1, rfl, rfl, by omega, by omega, ⟨⟨_, rfl⟩, ?_⟩⟩
      repeat walk_at "e"
      rw [cut_tailN, My.named_succ, List.tail_cons]
      have e4 : leaveF rows x (m : Int) k = named k a := by
        unfold leaveF
        rw [if_neg (by rw [hb]; exact Bool.false_ne_true), e2, Option.getD_some]
      rw [← e4]
      exact ⟨rfl, p⟩
theorem sc_longest_small : FnScope ["chain", "number", "prime", "times", "found", "power"] ["chain", "number", "prime", "times"] (defScope (top 59)) := ⟨rfl, rfl, rfl, by decide +kernel, rfl, by decide +kernel, by decide +kernel⟩
theorem ok_longest_small {P : Program} {w : World} {K : PySem.W.Frag} {mg : Str → Option Value} {base : Heap} (T : Tx K mg) (h_power_of : Fn P w K mg base 1 (He.fAd K ("power_of", none)) ["number", "times"] (sp_power_of K)) (h_all_keep : Fn P w K mg base 1 (He.fAd K ("all_keep", none)) ["rows", "number", "modulus"] (sp_st_ak K)) (h_rows_for : Fn P w K mg base 3 (He.fAd K ("rows_for", none)) ["chain", "length", "modulus"] (sp_st_rows K)) (h_named : Fn P w K mg base 1 (He.fAd K ("named", none)) ["width", "place"] (sp_st_named K)) (h_leaving_starts : Fn P w K mg base 2 (He.fAd K ("leaving_starts", none)) ["rows", "number", "modulus"] (sp_st_lv K)) : Fn P w K mg base 4 (He.fAd K ("longest_small", none)) ["chain", "number", "prime", "times"] (sp_st_ls K) := by
  obtain ⟨_, F_power_of, b_power_of, kp_power_of, lk_power_of⟩ := h_power_of
  obtain ⟨_, F_all_keep, b_all_keep, kp_all_keep, lk_all_keep⟩ := h_all_keep
  obtain ⟨_, F_rows_for, b_rows_for, kp_rows_for, lk_rows_for⟩ := h_rows_for
  obtain ⟨_, F_named, b_named, kp_named, lk_named⟩ := h_named
  obtain ⟨_, F_leaving_starts, b_leaving_starts, kp_leaving_starts, lk_leaving_starts⟩ := h_leaving_starts
  obtain ⟨fd, F⟩ := T.d_longest_small
  have hc_Late := T.cl_Late
  have hn_Late_stages := T.na_Late_stages
  have hc_Prompt := T.cl_Prompt
  have hn_Prompt_stages := T.na_Prompt_stages
  refine ⟨fd, F.ok sc_longest_small (lift_len ?_) (fun cdv A outer s H vs Q E hr h => ?_), F.bindsN fun _ _ _ _ _ _ us hl => (match us, hl with | [_, _, _, _], _ => rfl), F.kp, lk_of F⟩
  · intro ts O P X h
    exact sp_st_ls_len h
  · have hu := hr.units
    refine ⟨_, (PSs.nox (pss_cons (ps_par (i := 4) (j := 5) rfl sc_longest_small.nd rfl rfl (by decide) rfl rfl (pa_cons pe_int (pa_cons (pe_call F_power_of (hr.mono (by decide)) (by rfl) T.g_power_of kp_power_of b_power_of .nil passL (pa_cons (pv 2) (pa_cons (pv 3) pa_nil))) pa_nil)) rfl)
    (pss_cons (ps_while PassesOwn.never (pt_not (pt_val (pe_call F_all_keep (hr.mono (by decide)) (by rfl) T.g_all_keep kp_all_keep b_all_keep .nil passL (pa_cons (pe_call F_rows_for (hr.mono (by decide)) (by rfl) T.g_rows_for kp_rows_for b_rows_for .nil passL (pa_cons (pv 0) (pa_cons (pe_call F_power_of (hr.mono (by decide)) (by rfl) T.g_power_of kp_power_of b_power_of .nil passL (pa_cons (pv 2) (pa_cons (pv 4) pa_nil))) (pa_cons (pv 5) pa_nil)))) (pa_cons (pv 1) (pa_cons (pv 5) pa_nil))))))
    (pss_one (ps_aug (i := 4) sc_longest_small.nd rfl (.inl rfl) pe_int ip_add)))
    (pss_cons (ps_if (pt_cmpR op_eq (pv 4) pe_int (nomark _))
    (pss_one (ps_ret (pe_tup (pa_cons pe_int (pa_cons (pe_call F_named (hr.mono (by decide)) (by rfl) T.g_named kp_named b_named .nil passL (pa_cons (pe_op op_sub (pe_fldK K (pv 0)) pe_int) (pa_cons (pe_fldK K (pv 0)) pa_nil))) pa_nil)))))
    pss_nil)
    (pss_one (ps_ret (pe_tup (pa_cons (pv 4) (pa_cons (pe_call F_leaving_starts (hr.mono (by decide)) (by rfl) T.g_leaving_starts kp_leaving_starts b_leaving_starts .nil passL (pa_cons (pe_call F_rows_for (hr.mono (by decide)) (by rfl) T.g_rows_for kp_rows_for b_rows_for .nil passL (pa_cons (pv 0) (pa_cons (pe_call F_power_of (hr.mono (by decide)) (by rfl) T.g_power_of kp_power_of b_power_of .nil passL (pa_cons (pv 2) (pa_cons (pe_op op_sub (pv 4) pe_int) pa_nil))) (pa_cons (pv 5) pa_nil)))) (pa_cons (pv 1) (pa_cons (pv 5) pa_nil)))) pa_nil))))))))), enter h fun ts O P X h _ => ?_⟩
    try dsimp only [cxOf, Cx.nox, Cx.wish]
    
    obtain ⟨l, n, m0, x, q, e, rfl, rfl, n1, n6, x0, x1, hq, he, p⟩ := h
    have hcU : Cls K (chC K l) := by
      cases l
      · exact T.cl_Prompt
      · exact T.cl_Late
    have hnS : NoAttr K (chC K l) "stages" := by
      cases l
      · exact T.na_Prompt_stages
      · exact T.na_Late_stages
    have hnM : NoAttr K (chC K l) "modulus" := by
      cases l
      · exact T.na_Prompt_modulus
      · exact T.na_Late_modulus
    have hiU : InsTy K (chC K l) := by
      cases l
      · exact T.it_Prompt
      · exact T.it_Late
    have hkU : PySem.W.kitAny K (.ref (chC K l)) [.ref (He.ga K "Prompt"), .ref (He.ga K "Late")] = some true := by
      cases l
      · exact kitAny_cons T.kit_Prompt_Prompt (fun z => by cases z) fun _ => rfl
      · exact kitAny_cons T.kit_Late_Prompt (fun _ => kitAny_cons T.kit_Late_Late (fun z => by cases z) fun _ => rfl) fun z => by cases z
    have hkP : PySem.W.kitOne K (.ref (chC K l)) (.ref (He.ga K "Prompt")) = some (!l) := by
      cases l
      · exact T.kit_Prompt_Prompt
      · exact T.kit_Late_Prompt
    have q2 := My.pr_two hq.1
    have e1 := hq.e
    have hqe : 2 ≤ q ^ e := Nat.le_trans (Nat.pow_le_pow_left q2.1 1) (Nat.pow_le_pow_right (by omega) he)
    have hqm : q ^ e ≤ 1000000000000000000000000000000 := hq.2
    obtain ⟨t, ht, ht3⟩ := My.lgT_ex (e := e) hq.1 l x (k := n - 1) (by omega)
    have mw : MwOk ((q ^ e : Nat) : Int) n := ⟨by omega, by omega, n1, by omega⟩
    have hlen : ∀ u, u ≤ e + 3 → (1 : Int) ≤ ((q ^ u : Nat) : Int) ∧ ((q ^ u : Nat) : Int) ≤ 1000000000000000000000000000000000000000 := fun u hu => by
      have h1 : 1 ≤ q ^ u := Nat.pow_pos (by omega)
      have h2 := hq.far hu
      refine ⟨by omega, ?_⟩
      have h3 : (2 : Nat) ^ 120 = 1329227995784915872903807060280344576 := by decide
      omega
    have hrow : ∀ u, ∀ v ∈ rowsF l n ((q ^ u : Nat) : Int) ((q ^ e : Nat) : Int), v.length = n - 1 + 1 ∧ Sml 110 v := fun u v hv => by
      refine ⟨by rw [My.rowsF_mem v hv]; omega, fun y hy => ?_⟩
      obtain ⟨r, _, rfl⟩ := List.mem_map.mp hv
      unfold rowF at hy
      obtain ⟨pp, _, rfl⟩ := List.mem_map.mp hy
      have h1 := Int.emod_nonneg (La.dot (timesF ((q ^ u : Nat) : Int) (n - r)) (placeF (formsOf l n) r (n - r) pp)) (show ((q ^ e : Nat) : Int) ≠ 0 by omega)
      have h2 := Int.emod_lt_of_pos (La.dot (timesF ((q ^ u : Nat) : Int) (n - r)) (placeF (formsOf l n) r (n - r) pp)) (show (0 : Int) < ((q ^ e : Nat) : Int) by omega)
      omega
    show WS _ _ _ _ [.v (chD (chC K l) (n : Nat) m0), .v (.int x), .v (.int (q : Nat)), .v (.int (e : Nat)), .no, .no] _
    refine s_seq ?_
    repeat walk_at "e"
    refine ⟨q, e, rfl, rfl, by omega, by omega, ⟨⟨_, rfl⟩, ?_⟩⟩
    repeat walk_at "e"
    try dsimp only
    refine s_seq ?_
    refine s_while (fun j ts' O' => ∃ i : Nat, j + i = t ∧ O' = [] ∧ ts' = [.v (chD (chC K l) (n : Nat) m0), .v (.int x), .v (.int (q : Nat)), .v (.int (e : Nat)), .v (.int (i : Nat)), .v (.int ((q ^ e : Nat) : Int))]) t ⟨0, rfl, rfl, rfl⟩ ?_
    rintro j _ _ ⟨i, hij, rfl, rfl⟩
    repeat walk_at "e"
    refine ⟨q, i, rfl, rfl, by omega, by omega, ⟨⟨_, rfl⟩, ?_⟩⟩
    repeat walk_at "e"
    refine ⟨l, n, m0, ((q ^ e : Nat) : Int), ((q ^ i : Nat) : Int), rfl, rfl, mw, n6, (hlen i (by omega)).1, (hlen i (by omega)).2, ⟨⟨_, rfl⟩, ?_⟩⟩
    repeat walk_at "e"
    refine ⟨_, x, q ^ e, n - 1, rfl, rfl, hqe, by rw [My.rowsF_len]; omega, hrow i, by omega, by omega, fun r hr => ⟨⟨_, rfl⟩, ?_⟩⟩
    have key : r = true ↔ t ≤ i := by
      rw [hr]
      have := My.allK_iff (q := q ^ e) (l := l) (x := x) (N := ((q ^ i : Nat) : Int)) (k := n - 1)
      rw [show n - 1 + 1 = n by omega] at this
      exact this.trans (ht.iff i)
    cases r with
    | false =>
      have hti : ¬ t ≤ i := fun z => by
        have := key.mpr z
        cases this
      repeat walk_at "e"
      refine s_aug rfl ?_
      repeat walk_at "e"
      exact ⟨j - 1, by omega, i + 1, by omega, rfl, rfl⟩
    | true =>
    have hi : i = t := by have := key.mp rfl; omega
    subst hi
    repeat walk_at "e"
    try dsimp only
    refine s_seq ?_
    repeat walk_at "e"
    refine br (fun h0 => ?_) (fun h0 => ?_)
    · obtain rfl : i = 0 := by omega
      repeat walk_at "e"
      rw [show ((n : Nat) : Int) - 1 = ((n - 1 : Nat) : Int) by omega]
      refine ⟨n - 1, n, rfl, rfl, by omega, by omega, ⟨⟨_, rfl⟩, ?_⟩⟩
      repeat walk_at "e"
      have e5 : named (n - 1) n = lsF l n x q e 0 := by
        unfold lsF
        rw [if_pos rfl]
        refine List.eq_replicate_iff.mpr ⟨named_len _ _, fun y hy => ?_⟩
        unfold named at hy
        obtain ⟨j, hj, rfl⟩ := List.mem_map.mp hy
        have := List.mem_range.mp hj
        exact if_neg (by omega)
      rw [e5]
      exact ⟨rfl, p 0 ht ht3⟩
    · repeat walk_at "e"
      rw [show ((i : Nat) : Int) - 1 = ((i - 1 : Nat) : Int) by omega]
      refine ⟨q, i - 1, rfl, rfl, by omega, by omega, ⟨⟨_, rfl⟩, ?_⟩⟩
      repeat walk_at "e"
      refine ⟨l, n, m0, ((q ^ e : Nat) : Int), ((q ^ (i - 1) : Nat) : Int), rfl, rfl, mw, n6, (hlen _ (by omega)).1, (hlen _ (by omega)).2, ⟨⟨_, rfl⟩, ?_⟩⟩
      repeat walk_at "e"
      refine ⟨_, x, q ^ e, n - 1, rfl, rfl, hqe, by rw [My.rowsF_len]; omega, hrow (i - 1), by omega, by omega, fun hk => ?_, ⟨⟨_, rfl⟩, ?_⟩⟩
      · have := My.allK_iff (q := q ^ e) (l := l) (x := x) (N := ((q ^ (i - 1) : Nat) : Int)) (k := n - 1)
        rw [show n - 1 + 1 = n by omega] at this
        have := (ht.iff (i - 1)).mp (this.mp hk)
        omega
      repeat walk_at "e"
      have e3 : leaveF (rowsF l n ((q ^ (i - 1) : Nat) : Int) ((q ^ e : Nat) : Int)) x ((q ^ e : Nat) : Int) (n - 1) = lsF l n x q e i := by
        unfold lsF
        rw [if_neg (by omega)]
      rw [e3]
      exact ⟨rfl, p i ht ht3⟩
theorem sc_LongestU_initU : FnScope ["self", "length", "starts"] ["self", "length", "starts"] (defScope (inClass (top 45) 0)) := ⟨rfl, rfl, rfl, by decide +kernel, rfl, by decide +kernel, by decide +kernel⟩
theorem ok_LongestU_initU {P : Program} {w : World} {K : PySem.W.Frag} {mg : Str → Option Value} {base : Heap} (T : Tx K mg)  : Fn P w K mg base 1 (He.fAd K ("Longest", some "__init__")) ["self", "length", "starts"] (sp_Lg_init K) := by
  obtain ⟨fd, F⟩ := T.d_LongestU_initU
  have hc_Longest := T.cl_Longest
  have hn_Longest_length := T.na_Longest_length
  have hc_Longest := T.cl_Longest
  have hn_Longest_starts := T.na_Longest_starts
  refine ⟨fd, F.ok sc_LongestU_initU (lift_len ?_) (fun cdv A outer s H vs Q E hr h => ?_), F.bindsN fun _ _ _ _ _ _ us hl => (match us, hl with | [_, _, _], _ => rfl), F.kp, lk_of F⟩
  · intro ts O P X h
    exact sp_Lg_init_len h
  · have hu := hr.units
    refine ⟨_, (PSs.nox (pss_cons (ps_fld (pv 0) (pv 1) rfl)
    (pss_one (ps_fld (pv 0) (pv 2) rfl)))), enter h fun ts O P X h _ => ?_⟩
    try dsimp only [cxOf, Cx.nox, Cx.wish]
    
    obtain ⟨a, b, rfl, rfl, p⟩ := h
    show WS _ _ _ _ [.own 0, .v a, .v b] _
    repeat walk_at "g"
    exact ⟨rfl, p⟩
theorem sc_longest : FnScope ["chain", "number", "width", "great", "length", "parts", "prime", "times", "found", "starts"] ["chain", "number"] (defScope (top 60)) := ⟨rfl, rfl, rfl, by decide +kernel, rfl, by decide +kernel, by decide +kernel⟩
theorem ok_longest {P : Program} {w : World} {K : PySem.W.Frag} {mg : Str → Option Value} {base : Heap} (T : Tx K mg) (h_need_chain : Fn P w K mg base 1 (He.fAd K ("need_chain", none)) ["chain"] (sp_st_nch K)) (h_need_input : Fn P w K mg base 3 (He.fAd K ("need_input", none)) ["chain", "number"] (sp_st_nin K)) (h_great_in : Fn P w K mg base 3 (He.fAd K ("great_in", none)) ["number", "most"] (sp_great_in K)) (h_shared_in : Fn P w K mg base 2 (He.fAd K ("shared_in", none)) ["modulus", "numbers"] (sp_shared_in K)) (h_starts_with : Fn P w K mg base 3 (He.fAd K ("starts_with", none)) ["chain", "number", "modulus", "last"] (sp_st_sw K)) (h_small_in : Fn P w K mg base 2 (He.fAd K ("small_in", none)) ["number", "most"] (sp_small_in K)) (h_longest_small : Fn P w K mg base 4 (He.fAd K ("longest_small", none)) ["chain", "number", "prime", "times"] (sp_st_ls K)) (h_power_of : Fn P w K mg base 1 (He.fAd K ("power_of", none)) ["number", "times"] (sp_power_of K)) (h_LongestU_initU : Fn P w K mg base 1 (He.fAd K ("Longest", some "__init__")) ["self", "length", "starts"] (sp_Lg_init K)) (h_whole_starts : Fn P w K mg base 3 (He.fAd K ("whole_starts", none)) ["chain", "parts"] (sp_st_ws K)) : Fn P w K mg base 5 (He.fAd K ("longest", none)) ["chain", "number"] (sp_st_lg K) := by
  obtain ⟨_, F_need_chain, b_need_chain, kp_need_chain, lk_need_chain⟩ := h_need_chain
  obtain ⟨_, F_need_input, b_need_input, kp_need_input, lk_need_input⟩ := h_need_input
  obtain ⟨_, F_great_in, b_great_in, kp_great_in, lk_great_in⟩ := h_great_in
  obtain ⟨_, F_shared_in, b_shared_in, kp_shared_in, lk_shared_in⟩ := h_shared_in
  obtain ⟨_, F_starts_with, b_starts_with, kp_starts_with, lk_starts_with⟩ := h_starts_with
  obtain ⟨_, F_small_in, b_small_in, kp_small_in, lk_small_in⟩ := h_small_in
  obtain ⟨_, F_longest_small, b_longest_small, kp_longest_small, lk_longest_small⟩ := h_longest_small
  obtain ⟨_, F_power_of, b_power_of, kp_power_of, lk_power_of⟩ := h_power_of
  obtain ⟨_, F_LongestU_initU, b_LongestU_initU, kp_LongestU_initU, lk_LongestU_initU⟩ := h_LongestU_initU
  obtain ⟨_, F_whole_starts, b_whole_starts, kp_whole_starts, lk_whole_starts⟩ := h_whole_starts
  obtain ⟨fd, F⟩ := T.d_longest
  have hc_Late := T.cl_Late
  have hn_Late_modulus := T.na_Late_modulus
  have hc_Late := T.cl_Late
  have hn_Late_stages := T.na_Late_stages
  have hc_Prompt := T.cl_Prompt
  have hn_Prompt_modulus := T.na_Prompt_modulus
  have hc_Prompt := T.cl_Prompt
  have hn_Prompt_stages := T.na_Prompt_stages
  refine ⟨fd, F.ok sc_longest (lift_len ?_) (fun cdv A outer s H vs Q E hr h => ?_), F.bindsN fun _ _ _ _ _ _ us hl => (match us, hl with | [_, _], _ => rfl), F.kp, lk_of F⟩
  · intro ts O P X h
    exact sp_st_lg_len h
  · have hu := hr.units
    refine ⟨_, (PSs.nox (pss_cons (ps_expr (pe_call F_need_chain (hr.mono (by decide)) (by rfl) T.g_need_chain kp_need_chain b_need_chain .nil passL (pa_cons (pv 0) pa_nil)))
    (pss_cons (ps_expr (pe_call F_need_input (hr.mono (by decide)) (by rfl) T.g_need_input kp_need_input b_need_input .nil passL (pa_cons (pv 0) (pa_cons (pv 1) pa_nil))))
    (pss_cons (ps_par (i := 2) (j := 3) rfl sc_longest.nd rfl rfl (by decide) rfl rfl (pa_cons (pe_fldK K (pv 0)) (pa_cons (pe_call F_great_in (hr.mono (by decide)) (by rfl) T.g_great_in kp_great_in b_great_in .nil passL (pa_cons (pe_fldK K (pv 0)) (pa_cons (pe_fldK K (pv 0)) pa_nil))) pa_nil)) rfl)
    (pss_cons (ps_set (i := 4) sc_longest.nd rfl (.inl rfl) (pe_ifExp (pt_cmpR op_gt (pv 2) pe_int (nomark _)) (pv 3) (pe_op op_fdivW (pv 3) (pe_ix (ix_tupK K) (pe_call F_shared_in (hr.mono (by decide)) (by rfl) T.g_shared_in kp_shared_in b_shared_in .nil passL (pa_cons (pv 3) (pa_cons (pe_lst (pa_cons (pv 1) pa_nil)) pa_nil))) pe_int (fun _ _ => rfl)))))
    (pss_cons (ps_set (i := 5) sc_longest.nd rfl (.inl rfl) (pe_lst (pa_cons (pe_tup (pa_cons (pe_call F_starts_with (hr.mono (by decide)) (by rfl) T.g_starts_with kp_starts_with b_starts_with .nil passL (pa_cons (pv 0) (pa_cons (pv 1) (pa_cons (pv 3) (pa_cons pe_int pa_nil))))) (pa_cons (pv 3) pa_nil))) pa_nil)))
    (pss_cons (ps_for PassesOwn.never rfl (pi_listK K (pe_call F_small_in (hr.mono (by decide)) (by rfl) T.g_small_in kp_small_in b_small_in .nil passL (pa_cons (pe_fldK K (pv 0)) (pa_cons (pv 2) pa_nil)))) (pg_tupK K (n := 2) rfl (pgs_cons (pg_name (i := 6) sc_longest.nd rfl (.inl rfl)) (pgs_cons (pg_name (i := 7) sc_longest.nd rfl (.inl rfl)) pgs_nil)))
    (pss_cons (ps_asg (pe_call F_longest_small (hr.mono (by decide)) (by rfl) T.g_longest_small kp_longest_small b_longest_small .nil passL (pa_cons (pv 0) (pa_cons (pv 1) (pa_cons (pv 6) (pa_cons (pv 7) pa_nil))))) (pg_tupK K (n := 2) rfl (pgs_cons (pg_name (i := 8) sc_longest.nd rfl (.inl rfl)) (pgs_cons (pg_name (i := 9) sc_longest.nd rfl (.inl rfl)) pgs_nil))))
    (pss_cons (ps_set (i := 4) sc_longest.nd rfl (.inl rfl) (pe_op op_mulW (pv 4) (pe_call F_power_of (hr.mono (by decide)) (by rfl) T.g_power_of kp_power_of b_power_of .nil passL (pa_cons (pv 6) (pa_cons (pv 8) pa_nil)))))
    (pss_one (ps_expr (pe_bm PySem.F.plainAttrs_list PySem.F.slot_list_append PySem.F.type_list_append mt_append (pv 5) (pa_cons (pe_tup (pa_cons (pv 9) (pa_cons (pe_call F_power_of (hr.mono (by decide)) (by rfl) T.g_power_of kp_power_of b_power_of .nil passL (pa_cons (pv 6) (pa_cons (pv 7) pa_nil))) pa_nil))) pa_nil)))))))
    (pss_one (ps_ret (pe_make T.mk_Longest F_LongestU_initU (hr.mono (by decide)) (by rfl) T.g_Longest b_LongestU_initU .nil passL (pa_cons (pv 4) (pa_cons (pe_lock (pe_call F_whole_starts (hr.mono (by decide)) (by rfl) T.g_whole_starts kp_whole_starts b_whole_starts .nil passL (pa_cons (pv 0) (pa_cons (pv 5) pa_nil)))) pa_nil)))))))))))), enter h fun ts O P X h _ => ?_⟩
    try dsimp only [cxOf, Cx.nox, Cx.wish]
    
    obtain ⟨l, n, M, x, rfl, rfl, n1, n6, m2, mb, x0, x1, p⟩ := h
    have hcU : Cls K (chC K l) := by
      cases l
      · exact T.cl_Prompt
      · exact T.cl_Late
    have hnS : NoAttr K (chC K l) "stages" := by
      cases l
      · exact T.na_Prompt_stages
      · exact T.na_Late_stages
    have hnM : NoAttr K (chC K l) "modulus" := by
      cases l
      · exact T.na_Prompt_modulus
      · exact T.na_Late_modulus
    have hiU : InsTy K (chC K l) := by
      cases l
      · exact T.it_Prompt
      · exact T.it_Late
    have hkU : PySem.W.kitAny K (.ref (chC K l)) [.ref (He.ga K "Prompt"), .ref (He.ga K "Late")] = some true := by
      cases l
      · exact kitAny_cons T.kit_Prompt_Prompt (fun z => by cases z) fun _ => rfl
      · exact kitAny_cons T.kit_Late_Prompt (fun _ => kitAny_cons T.kit_Late_Late (fun z => by cases z) fun _ => rfl) fun z => by cases z
    have hkP : PySem.W.kitOne K (.ref (chC K l)) (.ref (He.ga K "Prompt")) = some (!l) := by
      cases l
      · exact T.kit_Prompt_Prompt
      · exact T.kit_Late_Prompt
    have hM1 : 1 ≤ M := by omega
    obtain ⟨gr, hgr⟩ : ∃ gr, gr = My.great M n := ⟨_, rfl⟩
    have gr1 : 1 ≤ gr := by rw [hgr]; exact My.great_pos n hM1
    have grm : gr ≤ M := by rw [hgr]; exact (My.pieces_pos hM1 List.mem_cons_self).2
    have h30 : (10 : Nat) ^ 30 < 2 ^ 100 := by decide
    show WS _ _ _ _ [.v (chD (chC K l) (n : Nat) (M : Nat)), .v (.int x), .no, .no, .no, .no, .no, .no, .no, .no] _
    refine s_seq ?_
    repeat walk_at "e"
    refine ⟨l, n, M, rfl, rfl, ⟨⟨_, rfl⟩, ?_⟩⟩
    repeat walk_at "e"
    refine s_seq ?_
    repeat walk_at "e"
    refine ⟨l, n, M, x, rfl, rfl, x0, x1, ⟨⟨_, rfl⟩, ?_⟩⟩
    repeat walk_at "e"
    refine s_seq ?_
    repeat walk_at "e"
    refine ⟨M, n, rfl, rfl, hM1, by omega, ⟨⟨_, rfl⟩, ?_⟩⟩
    repeat walk_at "e"
    rw [← hgr]
    refine s_cut (fun ts' O' => O' = [] ∧ ts' = [.v (chD (chC K l) (n : Nat) (M : Nat)), .v (.int x), .v (.int (n : Nat)), .v (.int (gr : Nat)), .v (.int (My.lgG n x gr : Nat)), .no, .no, .no, .no, .no]) ?_ ?_
    · refine s_set ?_
      repeat walk_at "e"
      refine br (fun h2 => ?_) (fun h2 => ?_)
      · repeat walk_at "e"
        exact ⟨rfl, by unfold My.lgG; rw [if_pos (by omega)] <;> rfl⟩
      · repeat walk_at "e"
        refine ⟨gr, [x], rfl, rfl, gr1, by omega, by rw [List.length_singleton]; decide, fun ms hms => ⟨⟨_, rfl⟩, ?_⟩⟩
        repeat walk_at "e"
        have hg1 : 1 ≤ My.gcdL gr [x] := Nat.pos_of_dvd_of_pos (My.gcdL_dvd _ _) gr1
        have hg2 := Nat.le_of_dvd gr1 (My.gcdL_dvd [x] gr)
        refine w_fdivW (divW_ok (by omega) (by omega)) ?_
        repeat walk_at "e"
        have e9 : ((gr : Int) / ((My.gcdL gr [x] : Nat) : Int)) = ((My.lgG n x gr : Nat) : Int) := by
          unfold My.lgG
          rw [if_neg (by omega)] <;> rfl
        rw [e9]
        exact ⟨rfl, rfl⟩
    rintro _ _ ⟨rfl, rfl⟩
    refine s_seq ?_
    refine s_set ?_
    repeat walk_at "o"
    refine ⟨l, n, M, x, gr, 1, rfl, rfl, n1, n6, x0, by omega, gr1, by omega, by decide, by decide, ⟨⟨_, rfl⟩, ?_⟩⟩
    repeat walk_at "o"
    refine s_seq ?_
    refine s_forE ?_
    refine i_list ?_
    repeat walk_at "e"
    refine ⟨M, n, rfl, rfl, hM1, by omega, ⟨⟨_, rfl⟩, ?_⟩⟩
    repeat walk_at "e"
    refine for_A (xs := My.small M n) (e := smD) (fun i ts' O' => ∃ (ts : List Nat) (a b c d : G.T), ts.length = i ∧ (∀ (j : Nat) (y : Nat × Nat) (t : Nat), (My.small M n)[j]? = some y → ts[j]? = some t → LgT y.1 y.2 l x (n - 1) t) ∧ My.prodN (lgG n x gr :: List.zipWith (fun (y : Nat × Nat) t => y.1 ^ t) ((My.small M n).take i) ts) < 2 ^ (100 + 120 * i) ∧ O' = [.lst (((swS l n x gr 1, gr) :: List.zipWith (fun y t => (lsF l n x y.1 y.2 t, y.1 ^ y.2)) ((My.small M n).take i) ts).map prD)] ∧ ts' = [.v (chD (chC K l) (n : Nat) (M : Nat)), .v (.int x), .v (.int (n : Nat)), .v (.int (gr : Nat)), .v (.int (My.prodN (lgG n x gr :: List.zipWith (fun (y : Nat × Nat) t => y.1 ^ t) ((My.small M n).take i) ts) : Nat)), .own 0, a, b, c, d]) ⟨[], .no, .no, .no, .no, rfl, ?_, ?_, ?_, ?_⟩ ?_ ?_
    · intro j y t _ h
      rw [List.getElem?_nil] at h
      cases h
    · have hle : lgG n x gr ≤ gr := by
        unfold My.lgG
        split
        · exact Nat.le_refl _
        · exact Nat.div_le_self _ _
      rw [List.take_zero, List.zipWith_nil_left, My.prodN_cons, My.prodN_nil, Nat.mul_one]
      omega
    · rw [List.take_zero, List.zipWith_nil_left] <;> rfl
    · rw [List.take_zero, List.zipWith_nil_left, My.prodN_cons, My.prodN_nil, Nat.mul_one] <;> rfl
    · rintro i y _ _ hi hy ⟨ts, a, b, c, d, tl, hts, hbd, rfl, rfl⟩
      obtain ⟨x1, x2, x3, x4⟩ := My.small_mem (List.mem_of_getElem? hy)
      have xd := My.small_dvd (n := M) (by omega) (List.mem_of_getElem? hy)
      have hpw : PwOk y.1 y.2 := ⟨x1, by have := Nat.le_of_dvd (by omega) xd.2; omega⟩
      have xq := My.pr_two x1
      have te := hpw.e
      have xe1 : 1 ≤ y.2 := by
        obtain ⟨q', v1, v2⟩ := My.vl_spec xq.1 (show 1 ≤ M by omega)
        rw [x4]
        refine Nat.pos_of_ne_zero fun z => ?_
        rw [z, Nat.pow_zero, Nat.one_mul] at v1
        rw [← v1] at v2
        exact v2 x3
      refine g_pair rfl ?_
      refine s_seq ?_
      repeat walk_at "e"
      refine ⟨l, n, M, x, y.1, y.2, rfl, rfl, n1, n6, x0, by omega, hpw, xe1, fun t ht ht3 => ⟨⟨_, rfl⟩, ?_⟩⟩
      have tb := hpw.far ht3
      repeat walk_at "e"
      refine s_seq ?_
      refine s_set ?_
      repeat walk_at "e"
      refine ⟨y.1, t, rfl, rfl, by omega, by omega, ⟨⟨_, rfl⟩, ?_⟩⟩
      repeat walk_at "e"
      have hs5 := My.small_len M n
      have h3 : ((My.prodN (lgG n x gr :: List.zipWith (fun (y : Nat × Nat) t => y.1 ^ t) ((My.small M n).take i) ts) : Nat) : Int).natAbs < 2 ^ (100 + 120 * i) := by rw [Int.natAbs_natCast]; exact hbd
      have h4 : ((y.1 ^ t : Nat) : Int).natAbs < 2 ^ 120 := by rw [Int.natAbs_natCast]; exact tb
      refine w_mulW (mul_okP h3 h4 (by omega)) ?_
      repeat walk_at "e"
      refine ⟨y.1, y.2, rfl, rfl, by omega, by omega, ⟨⟨_, rfl⟩, ?_⟩⟩
      repeat walk_at "e"
      have ez : ∀ (α : Type) (f : Nat × Nat → Nat → α), List.zipWith f ((My.small M n).take (i + 1)) (ts ++ [t]) = List.zipWith f ((My.small M n).take i) ts ++ [f y t] := fun α f => by
        rw [List.take_succ, hy, Option.toList_some, List.zipWith_append (by rw [List.length_take]; omega)] <;> rfl
      refine m_append (by exact rfl) (lt_szN (by rw [List.length_map, List.length_cons, List.length_zipWith]; omega)) ?_
      refine ⟨ts ++ [t], .v (.int (y.1 : Nat)), .v (.int (y.2 : Nat)), .v (.int (t : Nat)), .v (LN (lsF l n x y.1 y.2 t)), by rw [List.length_append, tl] <;> rfl, ?_, ?_, ?_, ?_⟩
      · intro j z u hz hu
        by_cases hj : j < i
        · rw [List.getElem?_append_left (by omega)] at hu
          exact hts j z u hz hu
        · have hj2 : j = i := by
            have := (List.getElem?_eq_some_iff.mp hu).1
            rw [List.length_append, tl] at this
            have : [t].length = 1 := rfl
            omega
          subst hj2
          rw [List.getElem?_append_right (by omega), tl, Nat.sub_self] at hu
          cases (Option.some.inj hu)
          rw [hy] at hz
          cases (Option.some.inj hz)
          exact ht
      · rw [ez, ← List.cons_append, My.prodN_app, My.prodN_cons (y.1 ^ t) [], My.prodN_nil, Nat.mul_one]
        refine Nat.lt_of_lt_of_le (Nat.mul_lt_mul'' hbd tb) (Nat.le_of_eq ?_)
        rw [← Nat.pow_add] <;> rfl
      · rw [ez, ← List.cons_append, List.map_append] <;> rfl
      · rw [ez, ← List.cons_append, My.prodN_app, My.prodN_cons (y.1 ^ t) [], My.prodN_nil, Nat.mul_one, Int.natCast_mul] <;> rfl
    · rintro _ _ ⟨ts, a, b, c, d, tl, hts, hbd, rfl, rfl⟩
      rw [List.take_length]
      have hps : My.lgPs l n x M ts = (swS l n x gr 1, gr) :: List.zipWith (fun (y : Nat × Nat) t => (lsF l n x y.1 y.2 t, y.1 ^ y.2)) (My.small M n) ts := by
        unfold My.lgPs
        rw [hgr]
      have hsn := My.lgPs_snd (l := l) (x := x) tl
      rw [← hps]
      show WS _ _ _ _ _ _
      repeat walk_at "e"
      have hll : (My.lgPs l n x M ts).length ≤ 6 := by
        have := My.small_len M n
        rw [hps, List.length_cons, List.length_zipWith]
        omega
      have hpr : ∀ y ∈ My.lgPs l n x M ts, y.1.length = n - 1 ∧ 1 ≤ y.2 ∧ (y.2 : Int) ≤ 1000000000000000000000000000000 ∧ Sml 200 y.1 := fun y hy => by
        have hy2 : y.2 ∈ My.pieces M n := by rw [← hsn]; exact List.mem_map_of_mem hy
        have hy3 := My.pieces_pos hM1 hy2
        rw [hps] at hy
        rcases List.mem_cons.mp hy with rfl | hy
        · refine ⟨My.swS_len _ _ _ _ _, hy3.1, by omega, fun z hz => ?_⟩
          have := My.swF_in (l := l) (n := n) (x := x) (last := 1) gr1 (n - 1) z hz
          omega
        · obtain ⟨y2, t2, rfl⟩ := mem_zw _ _ _ y hy
          exact ⟨My.lsF_len _ _ _ _ _ _, hy3.1, by omega, lsF_sml _ _ _ _ _ _⟩
      refine w_lockL 0 rfl (fun j o hj ho => (by
        cases j with
        | zero => exact absurd rfl hj
        | succ j => simp at ho)) fun od ws => ?_
      repeat walk_at "e"
      refine ⟨l, n, (M : Int), My.lgPs l n x M ts, _, rfl, rfl, .inr ⟨od, ws, rfl⟩, n1, n6, hll, hpr, by rw [hsn]; exact My.pieces_cop n hM1, fun S s1 s2 s3 => ⟨⟨_, rfl⟩, ?_⟩⟩
      rw [hsn, My.pieces_prod n hM1] at s3
      have hfin := p (My.prodN (lgG n x gr :: List.zipWith (fun (y : Nat × Nat) t => y.1 ^ t) (My.small M n) ts)) S ⟨⟨ts, ⟨tl, hts⟩, by unfold My.lgLs; rw [hgr], s2⟩, s1, s3⟩
      refine ⟨rfl, _, rfl, by exact noYL_nums _, ?_⟩
      repeat walk_at "e"
      refine ⟨_, _, rfl, rfl, ?_⟩
      repeat walk_at "e"
      exact ⟨rfl, _, rfl, rfl, hfin⟩
end My

set_option Elab.async false
set_option linter.all false
set_option maxRecDepth 100000
set_option maxHeartbeats 0
namespace My
open PySem PySem.Spec PyProof.Rows L2 G
open La (Tri Fl putT lessT echT agT keptT fullF frow bez bezF diagT Red md Bq)

def kd (l : Bool) : D := match l with
  | true => .str "late"
  | false => .str "prompt"
theorem kind_ok {j : Nat} {d : D} (h : ([.str "prompt", .str "late"] : List D)[j]? = some d) : ∃ l, d = kd l := by
  match j, h with
  | 0, h => cases h; exact ⟨false, rfl⟩
  | 1, h => cases h; exact ⟨true, rfl⟩
  | n + 2, h => cases h
def sp_l_chain (K : PySem.W.Frag) : SpD := fun ts O P X => ∃ (l : Bool) (n : Nat) (m : Int), ts = [.v (kd l), .v (.int (n : Nat)), .v (.int m)] ∧ O = [] ∧ 1 ≤ n ∧ n ≤ 6 ∧ 2 ≤ m ∧ m ≤ 1000000000000000000000000000000 ∧ P (.v (chD (chC K l) (n : Nat) m)) []
theorem sp_l_chain_len {K : PySem.W.Frag} {ts O P X} (h : sp_l_chain K ts O P X) : ts.length = 3 := by
  obtain ⟨l, n, m, rfl, _⟩ := h
  rfl
def sp_l_beat (K : PySem.W.Frag) : SpD := fun ts O P X => ∃ (l : Bool) (m x : Int) (s : List Int), ts = [.v (kd l), .v (.int m), .v (.int x), .v (.lst (nums s))] ∧ O = [] ∧ 1 ≤ m ∧ s.length ≤ 8 ∧ P (.v (.lst (nums (ledM l m x s)))) []
theorem sp_l_beat_len {K : PySem.W.Frag} {ts O P X} (h : sp_l_beat K ts O P X) : ts.length = 4 := by
  obtain ⟨l, m, x, s, rfl, _⟩ := h
  rfl
def sp_l_all (K : PySem.W.Frag) : SpD := fun ts O P X => ∃ (b w : Nat), ts = [.v (.int (b : Nat)), .v (.int (w : Nat))] ∧ O = [] ∧ 2 ≤ b ∧ b ≤ 41 ∧ w ≤ 8 ∧ b ^ w ≤ 1000 ∧ P (.v (.lst ((La.allT b w).map LN))) []
theorem sp_l_all_len {K : PySem.W.Frag} {ts O P X} (h : sp_l_all K ts O P X) : ts.length = 2 := by
  obtain ⟨b, w, rfl, _⟩ := h
  rfl
def sp_l_round (K : PySem.W.Frag) : SpD := fun ts O P X => ∃ (l : Bool) (M : Nat) (x : Int) (s : List Int) (last : Int), ts = [.v (kd l), .v (.int (M : Nat)), .v (.int x), .v (LN (s ++ [last]))] ∧ O = [] ∧ 2 ≤ M ∧ M ≤ 100 ∧ s.length ≤ 5 ∧ La.Red (M : Int) s ∧ 0 ≤ last ∧ last < M ∧ ∀ T : Nat, My.IsLp M (My.cfL l x s) T → P (.v (.int (T : Nat))) []
theorem sp_l_round_len {K : PySem.W.Frag} {ts O P X} (h : sp_l_round K ts O P X) : ts.length = 4 := by
  obtain ⟨l, M, x, s, last, rfl, _⟩ := h
  rfl

local macro_rules | `(tactic| walk_at "ws") => `(tactic| first
  | with_reducible refine s_set ?_
  | with_reducible refine s_if ?_
  | with_reducible refine s_ret ?_
  | with_reducible refine s_retN ?_
  | with_reducible refine s_drop ?_
  | with_reducible refine s_next ?_
  | with_reducible refine s_par ?_
  | with_reducible refine s_par3 ?_
  | refine s_fldN (by assumption) (by assumption) ?_
  | with_reducible refine s_asg ?_
  | refine s_raise1 ?_
  | refine s_raise2 ?_)
local macro_rules | `(tactic| walk_at "we") => `(tactic| first
  | ((with_reducible refine w_v (d := ?k2) ?k1 ?_); (case k1 => exact rfl))
  | ((with_reducible refine w_o (j := ?k2) ?k1 ?_); (case k1 => exact rfl))
  | ((guard_target = G.WE _ _ (tFld _ _ _) _ _ _ _); (refine w_fldN (by assumption) (by assumption) ?_))
  | ((guard_target = G.WE _ _ (tC (.ref _)) _ _ _ _); (refine w_ctup (by assumption) ?_))
  | with_reducible refine w_ci ?_
  | with_reducible refine w_op ?_
  | with_reducible refine w_call ?_
  | with_reducible refine w_cty ?_
  | with_reducible refine w_cb ?_
  | with_reducible refine w_cn ?_
  | with_reducible refine w_cs ?_
  | with_reducible refine w_cr ?_
  | with_reducible refine w_un ?_
  | with_reducible refine w_andV ?_
  | with_reducible refine w_orV ?_
  | with_reducible refine w_notV ?_
  | with_reducible refine w_ife ?_
  | with_reducible refine w_chain ?_
  | with_reducible refine w_tup ?_
  | with_reducible refine w_revL ?_
  | with_reducible refine w_slL ?_
  | with_reducible refine w_slT ?_
  | (guard_target = G.WE _ _ (tCall (lift _ (sp_draw _)) _ _ _) _ _ _ _; refine w_fn10 0 ?_)
  | (guard_target = G.WE _ _ (tCall (lift _ (sp_pick _)) _ _ _) _ _ _ _; refine w_fn10 0 ?_)
  | (guard_target = G.WE _ _ (tCall (lift _ (sp_l_right _)) _ _ _) _ _ _ _; refine w_fn10 0 ?_)
  | (guard_target = G.WE _ _ (tCall (lift _ (sp_l_bent _)) _ _ _) _ _ _ _; refine w_fn10 0 ?_)
  | with_reducible refine w_fn0 ?_
  | with_reducible refine w_fnS0 ?_
  | with_reducible refine w_meth0 ?_
  | with_reducible refine w_make0 ?_
  | with_reducible refine w_bmL ?_
  | with_reducible refine w_bmL0 ?_
  | with_reducible refine w_lst ?_
  | with_reducible refine w_callKX ?_
  | with_reducible refine w_makeKX ?_
  | with_reducible refine w_makeX ?_
  | with_reducible refine w_smethX ?_
  | with_reducible refine w_smethK ?_
  | with_reducible refine w_smethK0 ?_
  | with_reducible refine w_fnV ?_
  | with_reducible refine w_fnX ?_
  | with_reducible refine w_fnSX ?_
  | with_reducible refine w_methX ?_
  | with_reducible refine w_callX ?_
  | with_reducible refine w_methK ?_
  | with_reducible refine w_callK2 ?_
  | with_reducible refine w_callI ?_
  | with_reducible refine w_prop ?_
  | with_reducible refine w_dic0 ?_
  | with_reducible refine w_jcons ?_
  | with_reducible refine w_jnil ?_
  | with_reducible refine w_join ?_
  | with_reducible refine w_split ?_
  | with_reducible refine w_smeth ?_
  | with_reducible refine w_fnKr ?_)
local macro_rules | `(tactic| walk_at "wt") => `(tactic| first
  | with_reducible refine w_test ?_
  | with_reducible refine w_B ?_
  | with_reducible refine w_and ?_
  | with_reducible refine w_or ?_
  | with_reducible refine w_not ?_)
local macro_rules | `(tactic| walk_at "wa") => `(tactic| first
  | with_reducible refine w_cons ?_
  | with_reducible refine w_nil ?_
  | with_reducible refine w_star ?_)
local macro_rules | `(tactic| walk_at "wr") => `(tactic| first
  | with_reducible refine w_add ?_
  | with_reducible refine w_sub ?_
  | with_reducible refine w_lt ?_
  | with_reducible refine w_le ?_
  | with_reducible refine w_gt ?_
  | with_reducible refine w_ge ?_
  | with_reducible refine w_eqI ?_
  | with_reducible refine w_neI ?_
  | with_reducible refine w_isN ?_
  | with_reducible refine w_notN ?_
  | ((with_reducible refine w_mod ?k1 ?_); (case k1 => first | decide | omega))
  | ((with_reducible refine w_mul ?k1 ?_); (case k1 => first | exact Or.inl ⟨by decide, by decide⟩ | exact Or.inr ⟨by decide, by decide⟩ | exact Or.inl ⟨by omega, by omega⟩ | exact Or.inr ⟨by omega, by omega⟩))
  | ((with_reducible refine w_pow ?k1 ?_); (case k1 => first | exact ⟨by decide, by decide, by decide⟩ | exact ⟨by omega, by omega, by omega⟩))
  | ((with_reducible refine w_fdivW ?k1 ?_); (case k1 => exact divW_ok (by first | decide | omega) (by first | decide | omega)))
  | ((with_reducible refine w_mulW ?k1 ?_); (case k1 => exact mulW_ok ⟨by omega, by omega⟩ ⟨by omega, by omega⟩))
  | ((guard_target = G.WR _ (rIxT _) _ _ _ _); (refine w_ixT (by first | exact atI_0 | exact atI_1 | exact atI_2 | exact atI_3 | exact atI_4 | exact atI_5 | exact atI_6 | assumption) ?_))
  | ((guard_target = G.WR _ (rIxL _) _ _ _ _); (refine w_ixL (by first | exact lstD_v | exact lstD_o rfl) (by first | exact atI_0 | exact atI_1 | exact atI_2 | exact atI_3 | exact atI_4 | exact atI_5 | exact atI_6 | assumption) ?_)))
local macro_rules | `(tactic| walk_at "wc") => `(tactic| first
  | with_reducible refine c_int ?_
  | with_reducible refine c_intB ?_
  | with_reducible refine c_abs ?_
  | ((guard_target = G.WC _ (G.rLen _) _ _ _); (refine c_lenL (by first | exact lstD_v | exact lstD_o rfl) ?_))
  | with_reducible refine c_lenT ?_
  | ((guard_target = G.WC _ (G.rListOf _) _ _ _); (refine c_listL (by first | exact lstD_v | exact lstD_o rfl) ?_))
  | with_reducible refine c_listT ?_
  | ((guard_target = G.WC _ (G.rTupOf _) _ _ _); (refine c_tupL (by first | exact lstD_v | exact lstD_o rfl) ?_))
  | with_reducible refine c_tupT ?_)
local macro_rules | `(tactic| walk_at "e") => `(tactic| first
  | (guard_target = G.WE _ _ _ _ _ _ _; walk_at "we")
  | (guard_target = G.WS _ _ _ _ _ _; walk_at "ws")
  | (guard_target = G.WA _ _ _ _ _ _ _; walk_at "wa")
  | (guard_target = G.WR _ _ _ _ _ _; walk_at "wr")
  | (guard_target = G.WT _ _ _ _ _ _ _; walk_at "wt")
  | (guard_target = G.WC _ _ _ _ _; walk_at "wc")
  | (guard_target = G.WU _ _ _ _ _; with_reducible refine w_neg ?_)
  | (guard_target = G.WG _ _ _ _ _ _ _; first | with_reducible refine g_name ?_ | with_reducible refine g_setL ?_ | refine g_pair rfl ?_ | refine g_trip rfl ?_ | refine g_quad rfl ?_)
  | (guard_target = G.WO _ _ _ _ _ _ _; first | with_reducible refine o_none ?_ | with_reducible refine o_some ?_)
  | with_reducible refine tt_ ?_
  | with_reducible refine ff_ ?_
  | with_reducible refine ntt_ ?_
  | with_reducible refine nff_ ?_
  | ((guard_target = ((!G.isNon _) = true → _) ∧ _); (first | refine bnF rfl ?_ | refine bnT rfl ?_))
  | ((guard_target = (G.isNon _ = true → _) ∧ _); (first | refine bF rfl ?_ | refine bT rfl ?_))
  | (guard_target = Exists _; first
    | refine ⟨_, rfl, Nat.le_of_ble_eq_true rfl, Nat.le_of_ble_eq_true rfl, ?_⟩
    | refine ⟨_, _, _, _, _, rfl, rfl, rfl, rfl, rfl, ?_⟩
    | refine ⟨_, _, _, rfl, rfl, rfl, Nat.le_of_ble_eq_true rfl, ?_⟩
    | refine ⟨_, _, rfl, rfl, rfl, ?_⟩
    | refine ⟨_, _, _, rfl, ?_⟩
    | refine ⟨_, _, (by first | exact insD_v | exact insD_o rfl), rfl, ?_⟩
    | refine ⟨_, _, rfl, ?_⟩
    | refine ⟨_, rfl, rfl, ?_⟩
    | refine ⟨_, rfl, Nat.le_of_ble_eq_true rfl, ?_⟩
    | refine ⟨_, (by first | exact lstD_v | exact lstD_o rfl), ?_⟩
    | refine ⟨_, rfl, ?_⟩))
local macro_rules | `(tactic| walk_at "o") => `(tactic| first | with_reducible refine w_lstO ?_ | walk_at "e")
local macro_rules | `(tactic| walk_at "g") => `(tactic| first | walk_at "e" | with_reducible refine s_seq ?_)
local macro_rules | `(tactic| walk_at "n") => `(tactic| (with_reducible refine s_seq ?_); (repeat walk_at "e"))
theorem sc_law_chain : FnScope ["_law_kind", "_law_stages", "_law_modulus"] ["_law_kind", "_law_stages", "_law_modulus"] (defScope (top 69)) := ⟨rfl, rfl, rfl, by decide +kernel, rfl, by decide +kernel, by decide +kernel⟩
theorem ok_law_chain {P : Program} {w : World} {K : PySem.W.Frag} {mg : Str → Option Value} {base : Heap} (T : Tx K mg) (h_PromptU_initU : Fn P w K mg base 4 (He.fAd K ("Prompt", some "__init__")) ["self", "stages", "modulus"] (sp_ch_init K (He.ga K "Prompt"))) (h_LateU_initU : Fn P w K mg base 4 (He.fAd K ("Late", some "__init__")) ["self", "stages", "modulus"] (sp_ch_init K (He.ga K "Late"))) : Fn P w K mg base 6 (He.fAd K ("_law_chain", none)) ["_law_kind", "_law_stages", "_law_modulus"] (sp_l_chain K) := by
  obtain ⟨_, F_PromptU_initU, b_PromptU_initU, kp_PromptU_initU, lk_PromptU_initU⟩ := h_PromptU_initU
  obtain ⟨_, F_LateU_initU, b_LateU_initU, kp_LateU_initU, lk_LateU_initU⟩ := h_LateU_initU
  obtain ⟨fd, F⟩ := T.d_law_chain
  refine ⟨fd, F.ok sc_law_chain (lift_len ?_) (fun cdv A outer s H vs Q E hr h => ?_), F.bindsN fun _ _ _ _ _ _ us hl => (match us, hl with | [_, _, _], _ => rfl), F.kp, lk_of F⟩
  · intro ts O P X h
    exact sp_l_chain_len h
  · have hu := hr.units
    refine ⟨_, (PSs.nox (pss_one (ps_ret (pe_ifExp (pt_cmpR op_eq (pv 0) pe_str (nomark _)) (pe_make T.mk_Prompt F_PromptU_initU (hr.mono (by decide)) (by rfl) T.g_Prompt b_PromptU_initU .nil passL (pa_cons (pv 1) (pa_cons (pv 2) pa_nil))) (pe_make T.mk_Late F_LateU_initU (hr.mono (by decide)) (by rfl) T.g_Late b_LateU_initU .nil passL (pa_cons (pv 1) (pa_cons (pv 2) pa_nil))))))), enter h fun ts O P X h _ => ?_⟩
    try dsimp only [cxOf, Cx.nox, Cx.wish]
    
    obtain ⟨l, n, m, rfl, rfl, n1, n2, m1, m2, p⟩ := h
    show WS _ _ _ _ [.v (kd l), .v (.int (n : Nat)), .v (.int m)] _
    repeat walk_at "e"
    cases l
    · unfold kd
      dsimp only
      repeat walk_at "e"
      refine w_eq rfl rfl rfl ?_
      rw [decide_eq_true rfl]
      repeat walk_at "e"
      exact ⟨(n : Int), m, rfl, rfl, by omega, by omega, m1, m2, rfl, _, rfl, ⟨rfl, p⟩⟩
    · unfold kd
      dsimp only
      repeat walk_at "e"
      refine w_eq rfl rfl rfl ?_
      rw [decide_eq_false (by decide)]
      repeat walk_at "e"
      exact ⟨(n : Int), m, rfl, rfl, by omega, by omega, m1, m2, rfl, _, rfl, ⟨rfl, p⟩⟩
theorem sc_law_beat : FnScope ["_law_kind", "_law_modulus", "_law_number", "_law_rests", "_law_found", "_law_handed", "_law_rest", "_law_later"] ["_law_kind", "_law_modulus", "_law_number", "_law_rests"] (defScope (top 70)) := ⟨rfl, rfl, rfl, by decide +kernel, rfl, by decide +kernel, by decide +kernel⟩
theorem ok_law_beat {P : Program} {w : World} {K : PySem.W.Frag} {mg : Str → Option Value} {base : Heap} (T : Tx K mg)  : Fn P w K mg base 1 (He.fAd K ("_law_beat", none)) ["_law_kind", "_law_modulus", "_law_number", "_law_rests"] (sp_l_beat K) := by
  obtain ⟨fd, F⟩ := T.d_law_beat
  refine ⟨fd, F.ok sc_law_beat (lift_len ?_) (fun cdv A outer s H vs Q E hr h => ?_), F.bindsN fun _ _ _ _ _ _ us hl => (match us, hl with | [_, _, _, _], _ => rfl), F.kp, lk_of F⟩
  · intro ts O P X h
    exact sp_l_beat_len h
  · have hu := hr.units
    refine ⟨_, (PSs.nox (pss_cons (ps_par (i := 4) (j := 5) rfl sc_law_beat.nd rfl rfl (by decide) rfl rfl (pa_cons (pe_lst pa_nil) (pa_cons (pv 2) pa_nil)) rfl)
    (pss_cons (ps_for PassesOwn.never rfl (pi_listK K (pv 3)) (pg_name (i := 6) sc_law_beat.nd rfl (.inl rfl))
    (pss_cons (ps_set (i := 7) sc_law_beat.nd rfl (.inl rfl) (pe_op op_mod (pe_callTy call_int1 (by rfl) T.n_int boot_int (pa_cons (pe_op op_add (pv 6) (pv 5)) pa_nil)) (pv 1)))
    (pss_cons (ps_expr (pe_bm PySem.F.plainAttrs_list PySem.F.slot_list_append PySem.F.type_list_append mt_append (pv 4) (pa_cons (pv 7) pa_nil)))
    (pss_one (ps_set (i := 5) sc_law_beat.nd rfl (.inl rfl) (pe_ifExp (pt_cmpR op_eq (pv 0) pe_str (nomark _)) (pv 7) (pv 6)))))))
    (pss_one (ps_ret (pv 4)))))), enter h fun ts O P X h _ => ?_⟩
    try dsimp only [cxOf, Cx.nox, Cx.wish]
    
    obtain ⟨l, m, x0, s, rfl, rfl, hm, hl, p⟩ := h
    show WS _ _ _ _ [.v (kd l), .v (.int m), .v (.int x0), .v (.lst (nums s)), .no, .no, .no, .no] _
    refine s_seq ?_
    repeat walk_at "o"
    refine s_seq ?_
    refine s_forE ?_
    refine i_list ?_
    repeat walk_at "e"
    refine for_A (xs := s) (e := D.int) (fun i ts' O' => ∃ (fs : List Int) (h1 : Int) (a b : G.T), fs.length = i ∧ ledM l m x0 s = fs ++ ledM l m h1 (s.drop i) ∧ O' = [.lst (nums fs)] ∧ ts' = [.v (kd l), .v (.int m), .v (.int x0), .v (.lst (nums s)), .own 0, .v (.int h1), a, b]) ⟨[], x0, _, _, rfl, rfl, rfl, rfl⟩ ?_ ?_
    · rintro i x _ _ hi hx ⟨fs, h1, a, b, hf, he, rfl, rfl⟩
      rw [drop_at hx] at he
      refine g_name ?_
      refine s_seq ?_
      repeat walk_at "e"
      refine s_seq ?_
      repeat walk_at "e"
      refine m_append (by exact rfl) (lt_sz (by omega)) ?_
      repeat walk_at "e"
      have hs : nums fs ++ [.int ((x + h1) % m)] = nums (fs ++ [(x + h1) % m]) := nums_app
      cases l
      · refine w_eq (d := .str "prompt") (e := .str "prompt") rfl rfl rfl ?_
        rw [decide_eq_true rfl]
        repeat walk_at "e"
        exact ⟨fs ++ [(x + h1) % m], (x + h1) % m, _, _, by rw [List.length_append, hf] <;> rfl, by rw [he, List.append_assoc] <;> rfl, by rw [← hs] <;> rfl, rfl⟩
      · refine w_eq (d := .str "late") (e := .str "prompt") rfl rfl rfl ?_
        rw [decide_eq_false (by decide)]
        repeat walk_at "e"
        exact ⟨fs ++ [(x + h1) % m], x, _, _, by rw [List.length_append, hf] <;> rfl, by rw [he, List.append_assoc] <;> rfl, by rw [← hs] <;> rfl, rfl⟩
    rintro _ _ ⟨fs, h1, a, b, hf, he, rfl, rfl⟩
    rw [List.drop_length, ledM, List.append_nil] at he
    rw [he] at p
    refine s_frz 0 rfl rfl ?_
    repeat walk_at "e"
    exact ⟨rfl, p⟩
theorem sc_law_round : FnScope ["_law_kind", "_law_modulus", "_law_number", "_law_starts", "_law_rests", "_law_found"] ["_law_kind", "_law_modulus", "_law_number", "_law_starts"] (defScope (top 71)) := ⟨rfl, rfl, rfl, by decide +kernel, rfl, by decide +kernel, by decide +kernel⟩
theorem ok_law_round {P : Program} {w : World} {K : PySem.W.Frag} {mg : Str → Option Value} {base : Heap} (T : Tx K mg) (h_law_beat : Fn P w K mg base 1 (He.fAd K ("_law_beat", none)) ["_law_kind", "_law_modulus", "_law_number", "_law_rests"] (sp_l_beat K)) : Fn P w K mg base 2 (He.fAd K ("_law_round", none)) ["_law_kind", "_law_modulus", "_law_number", "_law_starts"] (sp_l_round K) := by
  obtain ⟨_, F_law_beat, b_law_beat, kp_law_beat, lk_law_beat⟩ := h_law_beat
  obtain ⟨fd, F⟩ := T.d_law_round
  refine ⟨fd, F.ok sc_law_round (lift_len ?_) (fun cdv A outer s H vs Q E hr h => ?_), F.bindsN fun _ _ _ _ _ _ us hl => (match us, hl with | [_, _, _, _], _ => rfl), F.kp, lk_of F⟩
  · intro ts O P X h
    exact sp_l_round_len h
  · have hu := hr.units
    refine ⟨_, (PSs.nox (pss_cons (ps_par (i := 4) (j := 5) rfl sc_law_round.nd rfl rfl (by decide) rfl rfl (pa_cons (pe_call F_law_beat (hr.mono (by decide)) (by rfl) T.g__law_beat kp_law_beat b_law_beat .nil passL (pa_cons (pv 0) (pa_cons (pv 1) (pa_cons (pv 2) (pa_cons (pv 3) pa_nil))))) (pa_cons pe_int pa_nil)) rfl)
    (pss_cons (ps_while PassesOwn.never (pt_cmpR (op_neDK K hu) (pv 4) (pe_callTy (cr_listK K) (by rfl) T.n_list boot_list (pa_cons (pv 3) pa_nil)) (nomark _))
    (pss_one (ps_par (i := 4) (j := 5) rfl sc_law_round.nd rfl rfl (by decide) rfl rfl (pa_cons (pe_call F_law_beat (hr.mono (by decide)) (by rfl) T.g__law_beat kp_law_beat b_law_beat .nil passL (pa_cons (pv 0) (pa_cons (pv 1) (pa_cons (pv 2) (pa_cons (pv 4) pa_nil))))) (pa_cons (pe_op op_add (pv 5) pe_int) pa_nil)) rfl)))
    (pss_one (ps_ret (pv 5)))))), enter h fun ts O P X h _ => ?_⟩
    try dsimp only [cxOf, Cx.nox, Cx.wish]
    
    obtain ⟨l, M, x, s, last, rfl, rfl, hm, hm2, hl, hs, h0, h1, p⟩ := h
    obtain ⟨T, hT⟩ : ∃ T, T = lpN M (My.cfL l x s) := ⟨_, rfl⟩
    have hlp : My.IsLp M (My.cfL l x s) T := by rw [hT]; exact lpN_ok (by omega) (by rw [My.cfL_len]; omega)
    have T1 : 1 ≤ T := hlp.1
    have hw : ∀ t : Nat, walkM l (M : Int) x (s ++ [last]) t = s ++ [last] ↔ T ∣ t := fun t => by
      rw [My.walk_per (by omega) hs h0 h1 t, hlp.2 (t : Int)]
      exact Int.natCast_dvd_natCast
    have hlen : (s ++ [last]).length ≤ 6 := by rw [List.length_append, List.length_singleton]; omega
    show WS _ _ _ _ [.v (kd l), .v (.int (M : Nat)), .v (.int x), .v (LN (s ++ [last])), .no, .no] _
    refine s_seq ?_
    repeat walk_at "e"
    refine ⟨l, M, x, s ++ [last], rfl, rfl, by omega, by omega, ⟨⟨_, rfl⟩, ?_⟩⟩
    repeat walk_at "e"
    refine s_seq ?_
    refine s_while (fun j ts' O' => ∃ i : Nat, j + i + 1 = T ∧ O' = [] ∧ ts' = [.v (kd l), .v (.int (M : Nat)), .v (.int x), .v (LN (s ++ [last])), .v (LN (walkM l (M : Int) x (s ++ [last]) (i + 1))), .v (.int (i + 1 : Nat))]) (T - 1) ⟨0, by omega, rfl, rfl⟩ ?_
    rintro j _ _ ⟨i, hij, rfl, rfl⟩
    repeat walk_at "e"
    unfold LN
    refine w_neD valD_v valD_v pl_numsL pl_numsL ?_
    rw [eqD_numsL]
    by_cases hh : walkM l (M : Int) x (s ++ [last]) (i + 1) = s ++ [last]
    · have hd := (hw (i + 1)).mp hh
      have := Nat.le_of_dvd (by omega) hd
      have hiT : i + 1 = T := by omega
      rw [decide_eq_true hh]
      repeat walk_at "e"
      rw [hiT]
      exact ⟨rfl, p T hlp⟩
    · have hd : ¬ T ∣ i + 1 := fun z => hh ((hw (i + 1)).mpr z)
      have hne : i + 1 ≠ T := fun z => hd (by rw [z]; exact Nat.dvd_refl T)
      rw [decide_eq_false hh]
      repeat walk_at "e"
      refine ⟨l, M, x, walkM l (M : Int) x (s ++ [last]) (i + 1), rfl, rfl, by omega, by rw [walkM_len]; omega, ⟨⟨_, rfl⟩, ?_⟩⟩
      repeat walk_at "e"
      exact ⟨j - 1, by omega, i + 1, by omega, rfl, rfl⟩
theorem sc_law_all : FnScope ["_law_modulus", "_law_many", "_law_found", "_law_turn", "_law_longer", "_law_row", ".0", "_law_number"] ["_law_modulus", "_law_many"] (defScope (top 72)) := ⟨rfl, rfl, rfl, by decide +kernel, rfl, by decide +kernel, by decide +kernel⟩
theorem ok_law_all {P : Program} {w : World} {K : PySem.W.Frag} {mg : Str → Option Value} {base : Heap} (T : Tx K mg)  : Fn P w K mg base 1 (He.fAd K ("_law_all", none)) ["_law_modulus", "_law_many"] (sp_l_all K) := by
  obtain ⟨fd, F⟩ := T.d_law_all
  refine ⟨fd, F.ok sc_law_all (lift_len ?_) (fun cdv A outer s H vs Q E hr h => ?_), F.bindsN fun _ _ _ _ _ _ us hl => (match us, hl with | [_, _], _ => rfl), F.kp, lk_of F⟩
  · intro ts O P X h
    exact sp_l_all_len h
  · have hu := hr.units
    refine ⟨_, (PSs.nox (pss_cons (ps_set (i := 2) sc_law_all.nd rfl (.inl rfl) (pe_lst (pa_cons (pe_lst pa_nil) pa_nil)))
    (pss_cons (ps_for PassesOwn.never rfl (pi_range1 (by rfl) T.n_range (pa_cons (pv 1) pa_nil)) (pg_name (i := 3) sc_law_all.nd rfl (.inl rfl))
    (pss_cons (ps_set (i := 4) sc_law_all.nd rfl (.inl rfl) (pe_lst pa_nil))
    (pss_cons (ps_for PassesOwn.never rfl (pi_listK K (pv 2)) (pg_name (i := 5) sc_law_all.nd rfl (.inr rfl))
    (pss_one (ps_set (i := 4) sc_law_all.nd rfl (.inl rfl) (pe_op op_cat (pv 4) (pe_lc (own := [(".0", 6), ("_law_number", 7)]) rfl sc_law_all.nd (pi_range1 (by rfl) T.n_range (pa_cons (pv 0) pa_nil)) (blkOk_by (own := [(".0", 6), ("_law_number", 7)]) (N := ["_law_modulus", "_law_many", "_law_found", "_law_turn", "_law_longer", "_law_row", ".0", "_law_number"]) (sc := defScope (top 72)) (by decide +kernel)) (fun _ _ _ _ _ => (pg_name (i := 7) sc_law_all.nd rfl (.inl rfl))) (fun _ _ _ _ _ => pts_nil) (fun _ _ _ _ _ => (pe_op op_cat (pv 5) (pe_lst (pa_cons (pv 7) pa_nil)))))))))
    (pss_one (ps_set (i := 2) sc_law_all.nd rfl (.inl rfl) (pv 4))))))
    (pss_one (ps_ret (pv 2)))))), enter h fun ts O P X h _ => ?_⟩
    try dsimp only [cxOf, Cx.nox, Cx.wish]
    
    obtain ⟨b, w, rfl, rfl, hb, hb2, hw, hbw, p⟩ := h
    show WS _ _ _ _ [.v (.int (b : Nat)), .v (.int (w : Nat)), .no, .no, .no, .no, .no, .no] _
    refine s_seq ?_
    repeat walk_at "e"
    refine s_seq ?_
    refine s_forE ?_
    refine i_rng1 ?_
    repeat walk_at "e"
    refine ⟨by omega, ?_⟩
    rw [Int.toNat_natCast]
    refine for_R1 (n := w) (fun i ts' O' => ∃ a c d : G.T, O' = [] ∧ ts' = [.v (.int (b : Nat)), .v (.int (w : Nat)), .v (.lst ((La.allT b i).map LN)), a, c, d, .no, .no]) ⟨_, _, _, rfl, rfl⟩ ?_ ?_
    · rintro i _ _ hi ⟨a, c, d, rfl, rfl⟩
      have hpi : b ^ i ≤ 1000 := La.pow_sub hb hbw (by omega)
      have hpi1 : b ^ (i + 1) ≤ 1000 := La.pow_sub hb hbw (by omega)
      refine g_name ?_
      refine s_seq ?_
      repeat walk_at "e"
      refine s_seq ?_
      refine s_forE ?_
      refine i_list ?_
      repeat walk_at "e"
      refine for_A (xs := La.allT b i) (e := LN) (fun j ts' O' => ∃ d : G.T, O' = [] ∧ ts' = [.v (.int (b : Nat)), .v (.int (w : Nat)), .v (.lst ((La.allT b i).map LN)), .v (.int (i : Nat)), .v (.lst ((La.longer b ((La.allT b i).take j)).map LN)), d, .no, .no]) ⟨_, rfl, rfl⟩ ?_ ?_
      · rintro j x _ _ hj hx ⟨d, rfl, rfl⟩
        refine g_name ?_
        repeat walk_at "e"
        obtain ⟨hxl, _⟩ := La.allT_mem.mp (List.mem_of_getElem? hx)
        refine w_lc1 ?_ (by decide)
        refine i_rng1 ?_
        repeat walk_at "e"
        refine ⟨by omega, ?_⟩
        rw [Int.toNat_natCast]
        refine lc_R (n := b) (fun k => LN (x ++ [(k : Int)])) (by omega) (fun k acc hk => ?_) ?_
        · refine g_name ?_
          repeat walk_at "e"
          refine w_catL lstD_v lstD_v (by rw [nums_len]; show x.length + 1 ≤ 1000000; omega) ?_
          refine ⟨?_, rfl⟩
          unfold LN nums
          rw [List.map_append] <;> rfl
        rw [show ((List.range b).map fun k : Nat => LN (x ++ [(k : Int)])) = ((List.range b).map fun k : Nat => x ++ [(k : Int)]).map LN by rw [List.map_map] <;> rfl]
        repeat walk_at "e"
        have hlj : (La.longer b ((La.allT b i).take j)).length ≤ 1000 := by
          rw [La.longer_len, List.length_take]
          refine Nat.le_trans (Nat.mul_le_mul_right b (Nat.min_le_right _ _)) ?_
          rw [La.allT_len, ← Nat.pow_succ]
          exact hpi1
        refine w_catL lstD_v lstD_v (by rw [List.length_map, List.length_map, List.length_map, List.length_range]; omega) ?_
        have htk : (La.allT b i).take (j + 1) = (La.allT b i).take j ++ [x] := by rw [List.take_add_one, hx] <;> rfl
        rw [← List.map_append, ← La.longer_snoc, ← htk]
        exact ⟨_, rfl, rfl⟩
      rintro _ _ ⟨d, rfl, rfl⟩
      rw [List.take_length]
      repeat walk_at "e"
      exact ⟨_, _, _, rfl, rfl⟩
    rintro _ _ ⟨a, c, d, rfl, rfl⟩
    repeat walk_at "e"
    exact ⟨rfl, p⟩
end My

set_option Elab.async false
set_option linter.all false
set_option maxRecDepth 100000
set_option maxHeartbeats 4000000
namespace G
open PySem PySem.Spec PyProof.Rows L2 TL
end G

set_option Elab.async false
set_option linter.all false
set_option maxRecDepth 100000
set_option maxHeartbeats 0
namespace My
open PySem PySem.Spec PyProof.Rows L2 G
open La (Tri Fl putT lessT echT agT keptT fullF frow bez bezF diagT Red md Bq)
theorem iff_no {Q : Prop} (h : ¬ Q) : false = true ↔ Q := ⟨fun z => (by cases z), fun z => (h z).elim⟩
theorem numsI : ∀ {xs ys : List Int}, nums xs = nums ys → xs = ys
  | [], [], _ => rfl
  | [], _ :: _, h => by cases h
  | _ :: _, [], h => by cases h
  | x :: xs, y :: ys, h => by
    injection h with h1 h2
    injection h1 with h1
    rw [h1, numsI h2]
/-- a value that may stand in a paper -/
def Sv (d : D) : Prop := (∃ n : Int, d = .int n ∧ Sm n) ∨ (niB d = true ∧ (∃ p, Shows d p) ∧ pl 59 d = true ∧ pl 58 d = true)
theorem sv_n {n : Int} (h : Sm n) : Sv (.int n) := .inl ⟨n, rfl, h⟩
theorem Sv.show {d : D} (h : Sv d) : ∃ p, Shows d p := by
  rcases h with ⟨n, rfl, h⟩ | ⟨_, h, _⟩
  · exact ⟨_, shows_int h⟩
  · exact h
theorem Sv.pl {d : D} (h : Sv d) : G.pl 59 d = true ∧ G.pl 58 d = true := by
  rcases h with ⟨n, rfl, h⟩ | ⟨_, _, h⟩
  · exact ⟨pl_int, pl_int⟩
  · exact h
def btB (lo hi : Int) (d : D) : Bool := match d with
  | .int n => decide (lo ≤ n) && decide (n ≤ hi)
  | _ => false
theorem btB_ni {lo hi : Int} {d : D} (h : niB d = true) : btB lo hi d = false := by
  cases d with
  | int n => cases h
  | _ => rfl
theorem Sv.btw {K : PySem.W.Frag} {d : D} (h : Sv d) (lo hi : Int) : BtwQ K d lo hi (btB lo hi d) := by
  rcases h with ⟨n, rfl, _⟩ | ⟨h, _⟩
  · exact .inl ⟨n, rfl, rfl⟩
  · exact .inr ⟨ni_ok h, btB_ni h⟩
theorem btB_iff {lo hi : Int} {d : D} : btB lo hi d = true ↔ ∃ n : Int, d = .int n ∧ lo ≤ n ∧ n ≤ hi := by
  cases d with
  | int n =>
    show (decide (lo ≤ n) && decide (n ≤ hi)) = true ↔ _
    rw [Bool.and_eq_true_iff, decide_eq_true_iff, decide_eq_true_iff]
    refine ⟨fun h => ⟨n, rfl, h.1, h.2⟩, fun ⟨k, e, h1, h2⟩ => ?_⟩
    cases e
    exact ⟨h1, h2⟩
  | _ => exact ⟨fun z => (by cases z), fun ⟨k, e, _⟩ => (by cases e)⟩
def isI (d : D) : Bool := match d with
  | .int _ => true
  | _ => false
theorem Sv.isi {K : PySem.W.Frag} {d : D} (h : Sv d) : IntQ K d (isI d) := by
  rcases h with ⟨n, rfl, _⟩ | ⟨h, _⟩
  · exact intQ_int
  · have : isI d = false := by
      cases d with
      | int n => cases h
      | _ => rfl
    rw [this]
    exact ni_ok h
theorem isI_iff {d : D} : isI d = true ↔ ∃ n : Int, d = .int n := by
  cases d with
  | int n => exact ⟨fun _ => ⟨n, rfl⟩, fun _ => rfl⟩
  | _ => exact ⟨fun z => (by cases z), fun ⟨k, e⟩ => (by cases e)⟩
theorem Sv.pl60 {ds : List D} (h : ∀ x ∈ ds, Sv x) : G.pl 60 (.lst ds) = true := pl_lstA fun d hd => (h d hd).pl.1
theorem all_c {α : Type} {Q : α → Prop} {a : α} {l : List α} (h : Q a) (k : ∀ x ∈ l, Q x) : ∀ x ∈ a :: l, Q x := fun x hx => (List.mem_cons.mp hx).elim (fun e => by rw [e]; exact h) (k x)
theorem all_n {α : Type} {Q : α → Prop} : ∀ x ∈ ([] : List α), Q x := fun x hx => by cases hx
def svB (d : D) : Bool := niB d && (shB d && (pl 59 d && pl 58 d))
theorem sv_lit {d : D} (h : svB d = true) : Sv d := by
  obtain ⟨h1, h⟩ := He.ba h
  obtain ⟨h2, h3⟩ := He.ba h
  obtain ⟨p, sh, _⟩ := sv_of h2
  exact .inr ⟨h1, ⟨p, sh⟩, He.ba h3⟩
theorem svB_non : svB .non = true := by decide +kernel
theorem svB_tr : svB (.bl true) = true := by decide +kernel
theorem svB_0 : svB (.str "0") = true := by decide +kernel
theorem sv_k {n : Int} (h : n.natAbs < 2 ^ 190) : Sv (.int n) := sv_n (by unfold Sm; omega)
theorem sv_text {n : Int} (h : Sm n) : Sv (.str (toString n)) := by
  have h2 := text_len h
  have hc : ∀ c ∈ (Str.ofString (toString n)).cps.toList, c < 16 ^ 8 := fun c hc => by
    have h3 := strOk_of (toString n)
    unfold PyData.strOk at h3
    have h4 := Array.all_eq_true_iff_forall_mem.mp h3 c (Array.mem_toList_iff.mp hc)
    have := of_decide_eq_true h4
    omega
  have hl := PySem.StrLaws.reprText_len _ hc
  have h5 : 2012 ≤ sizeLine := Nat.le_of_ble_eq_true rfl
  refine .inr ⟨rfl, ⟨.str (toString n), rfl, rfl, (by show 0 ≤ 100; decide), ?_⟩, pl_int_shown 59 n, pl_int_shown 58 n⟩
  show (reprText (Str.ofString (toString n))).length ≤ sizeLine
  omega

theorem bt_all {lo hi : Int} : ∀ {ds : List D}, (∀ x ∈ ds, btB lo hi x = true) → ∃ ns : List Int, ds = nums ns ∧ ∀ y ∈ ns, lo ≤ y ∧ y ≤ hi
  | [], _ => ⟨[], rfl, fun x hx => by cases hx⟩
  | x :: r, h => by
    obtain ⟨ms, e, hm⟩ := bt_all (ds := r) fun y hy => h y (List.mem_cons_of_mem _ hy)
    obtain ⟨n, e2, n1, n2⟩ := btB_iff.mp (h x List.mem_cons_self)
    refine ⟨n :: ms, by rw [e, e2] <;> rfl, fun y hy => ?_⟩
    rcases List.mem_cons.mp hy with rfl | hy
    · exact ⟨n1, n2⟩
    · exact hm y hy
theorem bt_nums {lo hi : Int} {ns : List Int} (h : ∀ y ∈ ns, lo ≤ y ∧ y ≤ hi) : ∀ x ∈ nums ns, btB lo hi x = true := fun x hx => by
  obtain ⟨n, hn, rfl⟩ := List.mem_map.mp hx
  exact btB_iff.mpr ⟨n, rfl, h n hn⟩
/-- no tuple -/
def NoTp (d : D) : Prop := d = .non ∨ (∃ ds, d = .lst ds) ∨ ∃ n : Int, d = .int n
theorem NoTp.kit {K : PySem.W.Frag} {d : D} (h : NoTp d) : ∃ t, TyD K d t ∧ PySem.W.kitOne K t (.type "tuple") = some false := by
  rcases h with rfl | ⟨ds, rfl⟩ | ⟨n, rfl⟩
  · exact ⟨_, .non, kit_ty (r := false) (by decide +kernel)⟩
  · exact ⟨_, .lst ds, kit_ty (r := false) (by decide +kernel)⟩
  · exact ⟨_, .int n, kit_ty (r := false) (by decide +kernel)⟩
theorem NoTp.ne {d : D} (h : NoTp d) (ds : List D) : d ≠ .tup ds := fun e => by
  subst e
  rcases h with h | ⟨_, h⟩ | ⟨_, h⟩ <;> cases h
/-- what may stand for a tuple -/
def StV (d : D) : Prop := (∃ ds : List D, d = .tup ds ∧ ds.length ≤ 20 ∧ ∀ x ∈ ds, Sv x) ∨ NoTp d
theorem cutD_mem {ds : List D} {a b : Option Int} : ∀ x ∈ G.cutD ds a b, x ∈ ds := fun x hx => by
  unfold G.cutD at hx
  exact List.mem_of_mem_drop (List.mem_of_mem_take hx)
theorem cutD_le {ds : List D} {a b : Option Int} : (G.cutD ds a b).length ≤ ds.length := by
  unfold G.cutD
  rw [List.length_take, List.length_drop]
  omega
theorem cut_last1 {zs : List Int} {z : Int} : G.cutD (nums (zs ++ [z])) none (some (-1)) = nums zs := by
  rw [← nums_app]
  unfold G.cutD
  have e : HT.sIx (nums zs ++ [D.int z]).length (nums zs ++ [D.int z]).length (some (-1)) = (nums zs).length := by
    rw [List.length_append, List.length_singleton]
    unfold HT.sIx
    simp
    omega
  rw [HT.sIx_none, e, List.drop_zero, Nat.sub_zero, List.take_left']
  rfl
theorem dot_bd : ∀ (a b : List Int) (A B : Nat), (∀ x ∈ a, x.natAbs ≤ A) → (∀ y ∈ b, y.natAbs ≤ B) → (La.dot a b).natAbs ≤ a.length * (A * B)
  | [], b, A, B, _, _ => Nat.zero_le _
  | a :: xs, [], A, B, _, _ => Nat.zero_le _
  | a :: xs, b :: ys, A, B, ha, hb => by
    have i1 := dot_bd xs ys A B (fun z hz => ha z (List.mem_cons_of_mem _ hz)) (fun z hz => hb z (List.mem_cons_of_mem _ hz))
    have h3 : (a * b).natAbs ≤ A * B := by
      rw [Int.natAbs_mul]
      exact Nat.mul_le_mul (ha a List.mem_cons_self) (hb b List.mem_cons_self)
    have h4 := Int.natAbs_add_le (a * b) (La.dot xs ys)
    rw [show La.dot (a :: xs) (b :: ys) = a * b + La.dot xs ys from rfl, List.length_cons, Nat.add_mul, Nat.one_mul]
    omega
theorem cfL_sml {l : Bool} {n : Nat} {x : Int} {s : List Int} (hn : n = s.length + 1) (n6 : n ≤ 6) (hx : x.natAbs < 2 ^ 110) (hs : Sml 110 s) : Sml 140 (My.cfL l x s) := fun z hz => by
  subst hn
  obtain ⟨i, hi, rfl⟩ := List.mem_iff_getElem.mp hz
  cases i with
  | zero => exact (by decide : (0 : Int).natAbs < 2 ^ 140)
  | succ i =>
    have h1 := My.cfL_at l x s i
    rw [List.getD_eq_getElem?_getD (l := My.cfL l x s), List.getElem?_eq_getElem hi, Option.getD_some] at h1
    rw [← h1]
    have hil : i < s.length + 1 := by rw [My.cfL_len] at hi; omega
    have hFl : (formsOf l (s.length + 1)).length = s.length + 2 := by unfold formsOf; rw [formsF_len]; omega
    have hrl : ((formsOf l (s.length + 1)).getD (i + 1) []).length = s.length + 1 := by
      rw [List.getD_eq_getElem?_getD, List.getElem?_eq_getElem (by omega)]
      exact formsF_row l (s.length + 1) s.length _ (List.getElem_mem _)
    have hb := dot_bd ((formsOf l (s.length + 1)).getD (i + 1) []) (x :: s) 64 (2 ^ 110) (fun y hy => (by
      obtain ⟨j, hj, rfl⟩ := List.mem_iff_getElem.mp hy
      have := small_at (l := l) n6 (i + 1) j
      rw [List.getD_eq_getElem?_getD (l := (formsOf l (s.length + 1)).getD (i + 1) []), List.getElem?_eq_getElem hj] at this
      have h4 : 0 ≤ ((formsOf l (s.length + 1)).getD (i + 1) [])[j] ∧ ((formsOf l (s.length + 1)).getD (i + 1) [])[j] ≤ 64 := this
      omega)) (fun y hy => (by
      rcases List.mem_cons.mp hy with rfl | hy
      · exact Nat.le_of_lt hx
      · exact Nat.le_of_lt (hs y hy)))
    rw [hrl] at hb
    have h6 : (s.length + 1) * (64 * 2 ^ 110) ≤ 6 * (64 * 2 ^ 110) := Nat.mul_le_mul_right _ n6
    exact Nat.lt_of_le_of_lt (Nat.le_trans hb h6) (by decide)

def HasL (l : Bool) (n : Nat) (x : Int) (M : Nat) (a b : D) : Prop := ∃ (L : Nat) (S : List Int) (z : Int), a = .int (L : Nat) ∧ b = .tup (nums (S ++ [z])) ∧ S.length = n - 1 ∧ G.InR M S ∧ 0 ≤ z ∧ z < M ∧ My.IsLp M (My.cfL l x S) L
def DueL (l : Bool) (n : Nat) (x : Int) (M : Nat) (a b : D) : Prop := ∃ (L : Nat) (S : List Int) (z : Int), a = .int (L : Nat) ∧ b = .tup (nums (S ++ [z])) ∧ S.length = n - 1 ∧ G.InR M S ∧ 0 ≤ z ∧ z < M ∧ My.IsLp M (My.cfL l x S) L ∧ ∀ s : List Int, s.length = n - 1 → My.Per M (My.cfL l x s) (L : Int)
theorem DueL.has {l : Bool} {n : Nat} {x : Int} {M : Nat} {a b : D} (h : DueL l n x M a b) : HasL l n x M a b := by
  obtain ⟨L, S, z, h1, h2, h3, h4, h5, h6, h7, _⟩ := h
  exact ⟨L, S, z, h1, h2, h3, h4, h5, h6, h7⟩
theorem isLp_bd {M L : Nat} {cs : List Int} (hM : 1 ≤ M) (hl : cs.length ≤ 13) (h : My.IsLp M cs L) : L ≤ 27720 * M := by
  have h1 := My.per_great (M := M) hl 1
  rw [Int.mul_one, show (27720 : Int) * (M : Int) = ((27720 * M : Nat) : Int) by omega] at h1
  exact Nat.le_of_dvd (by omega) (Int.natCast_dvd_natCast.mp ((h.2 _).mp h1))
theorem app_last {ns : List Int} {n : Nat} (h : ns.length = n) (n1 : 1 ≤ n) : ∃ S z, ns = S ++ [z] ∧ S.length = n - 1 := by
  rcases List.eq_nil_or_concat ns with rfl | ⟨S, z, rfl⟩
  · simp at h
    omega
  · rw [List.concat_eq_append] at h ⊢
    refine ⟨S, z, rfl, ?_⟩
    rw [List.length_append, List.length_singleton] at h
    omega
def sp_l_cat (K : PySem.W.Frag) : SpD := fun ts O P X => ∃ (l : Bool) (n : Nat) (m0 x : Int) (s : List Int), ts = [.v (chD (chC K l) (n : Nat) m0), .v (.int x), .v (.tup (nums s))] ∧ O = [] ∧ n = s.length + 1 ∧ n ≤ 6 ∧ x.natAbs < 2 ^ 110 ∧ Sml 110 s ∧ P (.v (LN (My.cfL l x s))) []
theorem sp_l_cat_len {K : PySem.W.Frag} {ts O P X} (h : sp_l_cat K ts O P X) : ts.length = 3 := by
  obtain ⟨l, n, m0, x, s, rfl, _⟩ := h
  rfl
def sp_l_pat (K : PySem.W.Frag) : SpD := fun ts O P X => ∃ (l : Bool) (n M : Nat) (x : Int) (s : List Int), ts = [.v (chD (chC K l) (n : Nat) (M : Nat)), .v (.int x), .v (.tup (nums s))] ∧ O = [] ∧ n = s.length + 1 ∧ n ≤ 6 ∧ 2 ≤ M ∧ (M : Int) ≤ 10 ^ 30 ∧ x.natAbs < 2 ^ 110 ∧ Sml 110 s ∧ P (.v (.int (lpN M (My.cfL l x s) : Nat))) []
theorem sp_l_pat_len {K : PySem.W.Frag} {ts O P X} (h : sp_l_pat K ts O P X) : ts.length = 3 := by
  obtain ⟨l, n, M, x, s, rfl, _⟩ := h
  rfl
def sp_l_ares (K : PySem.W.Frag) : SpD := fun ts O P X => ∃ (l : Bool) (n : Nat) (m0 : Int) (b : D), ts = [.v (chD (chC K l) (n : Nat) m0), .v b] ∧ O = [] ∧ StV b ∧ n ≤ 6 ∧ ∀ r : Bool, (r = true ↔ ∃ ns : List Int, b = .tup (nums ns) ∧ ns.length = n ∧ ∀ y ∈ ns, 0 ≤ y ∧ y ≤ m0 - 1) → P (.v (.bl r)) []
theorem sp_l_ares_len {K : PySem.W.Frag} {ts O P X} (h : sp_l_ares K ts O P X) : ts.length = 2 := by
  obtain ⟨l, n, m0, b, rfl, _⟩ := h
  rfl
def sp_l_hasl (K : PySem.W.Frag) : SpD := fun ts O P X => ∃ (l : Bool) (n M : Nat) (x : Int) (a b : D), ts = [.v (chD (chC K l) (n : Nat) (M : Nat)), .v (.int x), .v (lgD K a b)] ∧ O = [] ∧ 1 ≤ n ∧ n ≤ 6 ∧ 2 ≤ M ∧ (M : Int) ≤ 10 ^ 30 ∧ 0 ≤ x ∧ x < M ∧ Sv a ∧ StV b ∧ ∀ r : Bool, (r = true ↔ HasL l n x M a b) → P (.v (.bl r)) []
theorem sp_l_hasl_len {K : PySem.W.Frag} {ts O P X} (h : sp_l_hasl K ts O P X) : ts.length = 3 := by
  obtain ⟨l, n, M, x, a, b, rfl, _⟩ := h
  rfl
def sp_l_shl (K : PySem.W.Frag) : SpD := fun ts O P X => ∃ (l : Bool) (n M : Nat) (x : Int) (v : D), ts = [.v (chD (chC K l) (n : Nat) (M : Nat)), .v (.int x), .v v] ∧ O = [] ∧ 1 ≤ n ∧ n ≤ 6 ∧ 2 ≤ M ∧ (M : Int) ≤ 10 ^ 30 ∧ 0 ≤ x ∧ x < M ∧ ((∃ t, TyD K v t ∧ PySem.W.kitOne K t (.ref (He.ga K "Longest")) = some false ∧ P (.v (.bl false)) []) ∨ ∃ a b, v = lgD K a b ∧ Sv a ∧ StV b ∧ ∀ r : Bool, (r = true ↔ DueL l n x M a b) → P (.v (.bl r)) [])
theorem sp_l_shl_len {K : PySem.W.Frag} {ts O P X} (h : sp_l_shl K ts O P X) : ts.length = 3 := by
  obtain ⟨l, n, M, x, v, rfl, _⟩ := h
  rfl

def sp_Sh_init (K : PySem.W.Frag) : SpD := fun ts O P _ => ∃ a b c : D, ts = [.own 0, .v a, .v b, .v c] ∧ O = [.ins (He.ga K "Shortest") []] ∧ P (.v .non) [.ins (He.ga K "Shortest") [("length", a), ("starts", b), ("bars", c)]]
theorem sp_Sh_init_len {K : PySem.W.Frag} {ts O P X} (h : sp_Sh_init K ts O P X) : ts.length = 4 := by
  obtain ⟨a, b, c, rfl, _⟩ := h
  rfl

local macro_rules | `(tactic| walk_at "ws") => `(tactic| first
  | with_reducible refine s_set ?_
  | with_reducible refine s_if ?_
  | with_reducible refine s_ret ?_
  | with_reducible refine s_retN ?_
  | with_reducible refine s_drop ?_
  | with_reducible refine s_next ?_
  | with_reducible refine s_par ?_
  | with_reducible refine s_par3 ?_
  | refine s_fldN (by assumption) (by assumption) ?_
  | with_reducible refine s_asg ?_
  | refine s_raise1 ?_
  | refine s_raise2 ?_)
local macro_rules | `(tactic| walk_at "we") => `(tactic| first
  | ((with_reducible refine w_v (d := ?k2) ?k1 ?_); (case k1 => exact rfl))
  | ((with_reducible refine w_o (j := ?k2) ?k1 ?_); (case k1 => exact rfl))
  | ((guard_target = G.WE _ _ (tFld _ _ _) _ _ _ _); (refine w_fldN (by assumption) (by assumption) ?_))
  | ((guard_target = G.WE _ _ (tC (.ref _)) _ _ _ _); (refine w_ctup (by assumption) ?_))
  | with_reducible refine w_ci ?_
  | with_reducible refine w_op ?_
  | with_reducible refine w_call ?_
  | with_reducible refine w_cty ?_
  | with_reducible refine w_cb ?_
  | with_reducible refine w_cn ?_
  | with_reducible refine w_cs ?_
  | with_reducible refine w_cr ?_
  | with_reducible refine w_un ?_
  | with_reducible refine w_andV ?_
  | with_reducible refine w_orV ?_
  | with_reducible refine w_notV ?_
  | with_reducible refine w_ife ?_
  | with_reducible refine w_chain ?_
  | with_reducible refine w_tup ?_
  | with_reducible refine w_revL ?_
  | with_reducible refine w_slL ?_
  | with_reducible refine w_slT ?_
  | (guard_target = G.WE _ _ (tCall (lift _ (sp_draw _)) _ _ _) _ _ _ _; refine w_fn10 0 ?_)
  | (guard_target = G.WE _ _ (tCall (lift _ (sp_pick _)) _ _ _) _ _ _ _; refine w_fn10 0 ?_)
  | (guard_target = G.WE _ _ (tCall (lift _ (sp_l_right _)) _ _ _) _ _ _ _; refine w_fn10 0 ?_)
  | (guard_target = G.WE _ _ (tCall (lift _ (sp_l_bent _)) _ _ _) _ _ _ _; refine w_fn10 0 ?_)
  | with_reducible refine w_fn0 ?_
  | with_reducible refine w_fnS0 ?_
  | with_reducible refine w_meth0 ?_
  | with_reducible refine w_make0 ?_
  | with_reducible refine w_bmL ?_
  | with_reducible refine w_bmL0 ?_
  | with_reducible refine w_lst ?_
  | with_reducible refine w_callKX ?_
  | with_reducible refine w_makeKX ?_
  | with_reducible refine w_makeX ?_
  | with_reducible refine w_smethX ?_
  | with_reducible refine w_smethK ?_
  | with_reducible refine w_smethK0 ?_
  | with_reducible refine w_fnV ?_
  | with_reducible refine w_fnX ?_
  | with_reducible refine w_fnSX ?_
  | with_reducible refine w_methX ?_
  | with_reducible refine w_callX ?_
  | with_reducible refine w_methK ?_
  | with_reducible refine w_callK2 ?_
  | with_reducible refine w_callI ?_
  | with_reducible refine w_prop ?_
  | with_reducible refine w_dic0 ?_
  | with_reducible refine w_jcons ?_
  | with_reducible refine w_jnil ?_
  | with_reducible refine w_join ?_
  | with_reducible refine w_split ?_
  | with_reducible refine w_smeth ?_
  | with_reducible refine w_fnKr ?_)
local macro_rules | `(tactic| walk_at "wt") => `(tactic| first
  | with_reducible refine w_test ?_
  | with_reducible refine w_B ?_
  | with_reducible refine w_and ?_
  | with_reducible refine w_or ?_
  | with_reducible refine w_not ?_)
local macro_rules | `(tactic| walk_at "wa") => `(tactic| first
  | with_reducible refine w_cons ?_
  | with_reducible refine w_nil ?_
  | with_reducible refine w_star ?_)
local macro_rules | `(tactic| walk_at "wr") => `(tactic| first
  | with_reducible refine w_add ?_
  | with_reducible refine w_sub ?_
  | with_reducible refine w_lt ?_
  | with_reducible refine w_le ?_
  | with_reducible refine w_gt ?_
  | with_reducible refine w_ge ?_
  | with_reducible refine w_eqI ?_
  | with_reducible refine w_neI ?_
  | with_reducible refine w_isN ?_
  | with_reducible refine w_notN ?_
  | ((with_reducible refine w_mod ?k1 ?_); (case k1 => first | decide | omega))
  | ((with_reducible refine w_mul ?k1 ?_); (case k1 => first | exact Or.inl ⟨by decide, by decide⟩ | exact Or.inr ⟨by decide, by decide⟩ | exact Or.inl ⟨by omega, by omega⟩ | exact Or.inr ⟨by omega, by omega⟩))
  | ((with_reducible refine w_pow ?k1 ?_); (case k1 => first | exact ⟨by decide, by decide, by decide⟩ | exact ⟨by omega, by omega, by omega⟩))
  | ((with_reducible refine w_fdivW ?k1 ?_); (case k1 => exact divW_ok (by first | decide | omega) (by first | decide | omega)))
  | ((with_reducible refine w_mulW ?k1 ?_); (case k1 => exact mulW_ok ⟨by omega, by omega⟩ ⟨by omega, by omega⟩))
  | ((guard_target = G.WR _ (rIxT _) _ _ _ _); (refine w_ixT (by first | exact atI_0 | exact atI_1 | exact atI_2 | exact atI_3 | exact atI_4 | exact atI_5 | exact atI_6 | assumption) ?_))
  | ((guard_target = G.WR _ (rIxL _) _ _ _ _); (refine w_ixL (by first | exact lstD_v | exact lstD_o rfl) (by first | exact atI_0 | exact atI_1 | exact atI_2 | exact atI_3 | exact atI_4 | exact atI_5 | exact atI_6 | assumption) ?_)))
local macro_rules | `(tactic| walk_at "wc") => `(tactic| first
  | with_reducible refine c_int ?_
  | with_reducible refine c_intB ?_
  | with_reducible refine c_abs ?_
  | ((guard_target = G.WC _ (G.rLen _) _ _ _); (refine c_lenL (by first | exact lstD_v | exact lstD_o rfl) ?_))
  | with_reducible refine c_lenT ?_
  | ((guard_target = G.WC _ (G.rListOf _) _ _ _); (refine c_listL (by first | exact lstD_v | exact lstD_o rfl) ?_))
  | with_reducible refine c_listT ?_
  | ((guard_target = G.WC _ (G.rTupOf _) _ _ _); (refine c_tupL (by first | exact lstD_v | exact lstD_o rfl) ?_))
  | with_reducible refine c_tupT ?_)
local macro_rules | `(tactic| walk_at "e") => `(tactic| first
  | (guard_target = G.WE _ _ _ _ _ _ _; walk_at "we")
  | (guard_target = G.WS _ _ _ _ _ _; walk_at "ws")
  | (guard_target = G.WA _ _ _ _ _ _ _; walk_at "wa")
  | (guard_target = G.WR _ _ _ _ _ _; walk_at "wr")
  | (guard_target = G.WT _ _ _ _ _ _ _; walk_at "wt")
  | (guard_target = G.WC _ _ _ _ _; walk_at "wc")
  | (guard_target = G.WU _ _ _ _ _; with_reducible refine w_neg ?_)
  | (guard_target = G.WG _ _ _ _ _ _ _; first | with_reducible refine g_name ?_ | with_reducible refine g_setL ?_ | refine g_pair rfl ?_ | refine g_trip rfl ?_ | refine g_quad rfl ?_)
  | (guard_target = G.WO _ _ _ _ _ _ _; first | with_reducible refine o_none ?_ | with_reducible refine o_some ?_)
  | with_reducible refine tt_ ?_
  | with_reducible refine ff_ ?_
  | with_reducible refine ntt_ ?_
  | with_reducible refine nff_ ?_
  | ((guard_target = ((!G.isNon _) = true → _) ∧ _); (first | refine bnF rfl ?_ | refine bnT rfl ?_))
  | ((guard_target = (G.isNon _ = true → _) ∧ _); (first | refine bF rfl ?_ | refine bT rfl ?_))
  | (guard_target = Exists _; first
    | refine ⟨_, rfl, Nat.le_of_ble_eq_true rfl, Nat.le_of_ble_eq_true rfl, ?_⟩
    | refine ⟨_, _, _, _, _, rfl, rfl, rfl, rfl, rfl, ?_⟩
    | refine ⟨_, _, _, rfl, rfl, rfl, Nat.le_of_ble_eq_true rfl, ?_⟩
    | refine ⟨_, _, rfl, rfl, rfl, ?_⟩
    | refine ⟨_, _, _, rfl, ?_⟩
    | refine ⟨_, _, (by first | exact insD_v | exact insD_o rfl), rfl, ?_⟩
    | refine ⟨_, _, rfl, ?_⟩
    | refine ⟨_, rfl, rfl, ?_⟩
    | refine ⟨_, rfl, Nat.le_of_ble_eq_true rfl, ?_⟩
    | refine ⟨_, (by first | exact lstD_v | exact lstD_o rfl), ?_⟩
    | refine ⟨_, rfl, ?_⟩))
local macro_rules | `(tactic| walk_at "o") => `(tactic| first | with_reducible refine w_lstO ?_ | walk_at "e")
local macro_rules | `(tactic| walk_at "g") => `(tactic| first | walk_at "e" | with_reducible refine s_seq ?_)
local macro_rules | `(tactic| walk_at "n") => `(tactic| (with_reducible refine s_seq ?_); (repeat walk_at "e"))
theorem sc_coefs_at : FnScope ["chain", "number", "starts", "numbers", ".0", "form"] ["chain", "number", "starts"] (defScope (top 53)) := ⟨rfl, rfl, rfl, by decide +kernel, rfl, by decide +kernel, by decide +kernel⟩
theorem ok_coefs_at {P : Program} {w : World} {K : PySem.W.Frag} {mg : Str → Option Value} {base : Heap} (T : Tx K mg) (h_forms_of : Fn P w K mg base 2 (He.fAd K ("forms_of", none)) ["chain"] (sp_st_forms K)) (h_products : Fn P w K mg base 1 (He.fAd K ("products", none)) ["one", "other"] (sp_st_prod K)) : Fn P w K mg base 3 (He.fAd K ("coefs_at", none)) ["chain", "number", "starts"] (sp_l_cat K) := by
  obtain ⟨_, F_forms_of, b_forms_of, kp_forms_of, lk_forms_of⟩ := h_forms_of
  obtain ⟨_, F_products, b_products, kp_products, lk_products⟩ := h_products
  obtain ⟨fd, F⟩ := T.d_coefs_at
  refine ⟨fd, F.ok sc_coefs_at (lift_len ?_) (fun cdv A outer s H vs Q E hr h => ?_), F.bindsN fun _ _ _ _ _ _ us hl => (match us, hl with | [_, _, _], _ => rfl), F.kp, lk_of F⟩
  · intro ts O P X h
    exact sp_l_cat_len h
  · have hu := hr.units
    refine ⟨_, (PSs.nox (pss_cons (ps_set (i := 3) sc_coefs_at.nd rfl (.inr rfl) (pe_lst (pa_cons (pv 1) (StX.pa_star (pv 2) pa_nil))))
    (pss_one (ps_ret (pe_lst (pa_cons pe_int (StX.pa_star (pe_lc (own := [(".0", 4), ("form", 5)]) rfl sc_coefs_at.nd (pi_listK K (pe_slice (sl_listK K) (pe_call F_forms_of (hr.mono (by decide)) (by rfl) T.g_forms_of kp_forms_of b_forms_of .nil passL (pa_cons (pv 0) pa_nil)) (po_some pe_int) po_none)) (blkOk_by (own := [(".0", 4), ("form", 5)]) (N := ["chain", "number", "starts", "numbers", ".0", "form"]) (sc := defScope (top 53)) (by decide +kernel)) (fun _ _ _ _ _ => (pg_name (i := 5) sc_coefs_at.nd rfl (.inl rfl))) (fun _ _ _ _ _ => pts_nil) (fun _ _ _ _ _ => (pe_call F_products (hr.mono (by decide)) (by rfl) T.g_products kp_products b_products .nil passL (pa_cons (pv 5) (pa_cons (pv 3) pa_nil))))) pa_nil))))))), enter h fun ts O P X h _ => ?_⟩
    try dsimp only [cxOf, Cx.nox, Cx.wish]
    
    obtain ⟨l, n, m0, x, s, rfl, rfl, hn, n6, hx, hs, p⟩ := h
    have hcU : Cls K (chC K l) := by
      cases l
      · exact T.cl_Prompt
      · exact T.cl_Late
    have hnS : NoAttr K (chC K l) "stages" := by
      cases l
      · exact T.na_Prompt_stages
      · exact T.na_Late_stages
    have hnM : NoAttr K (chC K l) "modulus" := by
      cases l
      · exact T.na_Prompt_modulus
      · exact T.na_Late_modulus
    have hiU : InsTy K (chC K l) := by
      cases l
      · exact T.it_Prompt
      · exact T.it_Late
    have hkU : PySem.W.kitAny K (.ref (chC K l)) [.ref (He.ga K "Prompt"), .ref (He.ga K "Late")] = some true := by
      cases l
      · exact kitAny_cons T.kit_Prompt_Prompt (fun z => by cases z) fun _ => rfl
      · exact kitAny_cons T.kit_Late_Prompt (fun _ => kitAny_cons T.kit_Late_Late (fun z => by cases z) fun _ => rfl) fun z => by cases z
    have hkP : PySem.W.kitOne K (.ref (chC K l)) (.ref (He.ga K "Prompt")) = some (!l) := by
      cases l
      · exact T.kit_Prompt_Prompt
      · exact T.kit_Late_Prompt
    show WS _ _ _ _ [.v (chD (chC K l) (n : Nat) m0), .v (.int x), .v (.tup (nums s)), .no, .no, .no] _
    refine s_seq ?_
    repeat walk_at "e"
    refine ⟨nums s, .inr rfl, ?_⟩
    repeat walk_at "e"
    refine ⟨.int x :: nums s, by exact (unv_vs (ds := .int x :: nums s) (ys := []) (es := []) rfl).trans (by rw [List.append_nil]), Nat.le_of_lt (lt_szN (by simp only [List.length_cons, List.length_append, List.length_map, List.length_nil, nums_len]; omega)), ?_⟩
    repeat walk_at "e"
    refine w_lc1 ?_ (by decide)
    refine i_list ?_
    repeat walk_at "e"
    refine ⟨l, n, m0, rfl, rfl, by omega, n6, ⟨⟨_, rfl⟩, ?_⟩⟩
    repeat walk_at "e"
    have hFl : (formsOf l n).length = n + 1 := by unfold formsOf; rw [formsF_len]; omega
    rw [show cutD ((formsOf l n).map LN) (some 1) none = ((formsOf l n).drop 1).map LN from (cutD_drop (n := 1) (by rw [List.length_map]; omega)).trans (by rw [List.map_drop])]
    have hxs : ∀ y ∈ x :: s, y.natAbs < 2 ^ 110 := fun z hz => by
      rcases List.mem_cons.mp hz with rfl | hz
      · exact hx
      · exact hs z hz
    refine lc_A ((formsOf l n).drop 1) LN (fun v => .int (La.dot v (x :: s))) (by rw [List.length_drop]; omega) (fun v acc hv => ?_) ?_
    · have hv := List.mem_of_mem_drop hv
      obtain ⟨i, hi, rfl⟩ := List.mem_iff_getElem.mp hv
      refine g_name ?_
      repeat walk_at "e"
      refine ⟨(formsOf l n)[i], x :: s, 8, 110, _, rfl, rfl, .inl rfl, by decide, ?_, by rw [List.length_cons]; omega, fun y hy => ?_, hxs, ⟨⟨_, rfl⟩, ?_⟩⟩
      · have := formsF_row l n (n - 1) _ hv
        omega
      · obtain ⟨j, hj, rfl⟩ := List.mem_iff_getElem.mp hy
        have := small_at (l := l) (n := n) (by omega) i j
        rw [List.getD_eq_getElem?_getD (l := formsOf l n), List.getElem?_eq_getElem hi, Option.getD_some, List.getD_eq_getElem?_getD, List.getElem?_eq_getElem hj] at this
        have h4 : 0 ≤ ((formsOf l n)[i])[j] ∧ ((formsOf l n)[i])[j] ≤ 64 := this
        omega
      repeat walk_at "e"
      exact ⟨rfl, rfl⟩
    have e1 : (((formsOf l n).drop 1).map fun v => D.int (La.dot v (x :: s))) = nums ((My.cfL l x s).drop 1) := by
      refine List.ext_getElem? fun i => ?_
      unfold nums
      rw [List.getElem?_map, List.getElem?_map, List.getElem?_drop, List.getElem?_drop]
      by_cases hi : i < n
      · have h1 := My.cfL_at l x s i
        rw [← hn] at h1
        rw [Nat.add_comm 1 i, List.getElem?_eq_getElem (by omega), List.getElem?_eq_getElem (by rw [My.cfL_len]; omega)]
        rw [List.getD_eq_getElem?_getD, List.getD_eq_getElem?_getD, List.getElem?_eq_getElem (by omega), List.getElem?_eq_getElem (by rw [My.cfL_len]; omega)] at h1
        exact congrArg (fun z => some (D.int z)) h1
      · rw [List.getElem?_eq_none (by omega), List.getElem?_eq_none (by rw [My.cfL_len]; omega)] <;> rfl
    rw [e1]
    repeat walk_at "e"
    refine ⟨nums ((My.cfL l x s).drop 1), .inl valD_v, ?_⟩
    repeat walk_at "e"
    have h7 : ((My.cfL l x s).drop 1).length ≤ 7 := by rw [List.length_drop, My.cfL_len]; omega
    refine ⟨nums (My.cfL l x s), by exact (unv_vs (ds := .int 0 :: nums ((My.cfL l x s).drop 1)) (ys := []) (es := []) rfl).trans (by rw [List.append_nil] <;> rfl), Nat.le_of_lt (lt_szN (by simp only [List.length_cons, List.length_append, List.length_map, List.length_nil, nums_len]; omega)), ?_⟩
    exact ⟨rfl, p⟩
theorem sc_period_at : FnScope ["chain", "number", "starts"] ["chain", "number", "starts"] (defScope (top 54)) := ⟨rfl, rfl, rfl, by decide +kernel, rfl, by decide +kernel, by decide +kernel⟩
theorem ok_period_at {P : Program} {w : World} {K : PySem.W.Frag} {mg : Str → Option Value} {base : Heap} (T : Tx K mg) (h_length_in : Fn P w K mg base 5 (He.fAd K ("length_in", none)) ["modulus", "coefs"] (sp_p_lin K)) (h_coefs_at : Fn P w K mg base 3 (He.fAd K ("coefs_at", none)) ["chain", "number", "starts"] (sp_l_cat K)) : Fn P w K mg base 6 (He.fAd K ("period_at", none)) ["chain", "number", "starts"] (sp_l_pat K) := by
  obtain ⟨_, F_length_in, b_length_in, kp_length_in, lk_length_in⟩ := h_length_in
  obtain ⟨_, F_coefs_at, b_coefs_at, kp_coefs_at, lk_coefs_at⟩ := h_coefs_at
  obtain ⟨fd, F⟩ := T.d_period_at
  have hc_Late := T.cl_Late
  have hn_Late_modulus := T.na_Late_modulus
  have hc_Prompt := T.cl_Prompt
  have hn_Prompt_modulus := T.na_Prompt_modulus
  refine ⟨fd, F.ok sc_period_at (lift_len ?_) (fun cdv A outer s H vs Q E hr h => ?_), F.bindsN fun _ _ _ _ _ _ us hl => (match us, hl with | [_, _, _], _ => rfl), F.kp, lk_of F⟩
  · intro ts O P X h
    exact sp_l_pat_len h
  · have hu := hr.units
    refine ⟨_, (PSs.nox (pss_one (ps_ret (pe_call F_length_in (hr.mono (by decide)) (by rfl) T.g_length_in kp_length_in b_length_in .nil passL (pa_cons (pe_fldK K (pv 0)) (pa_cons (pe_call F_coefs_at (hr.mono (by decide)) (by rfl) T.g_coefs_at kp_coefs_at b_coefs_at .nil passL (pa_cons (pv 0) (pa_cons (pv 1) (pa_cons (pv 2) pa_nil)))) pa_nil)))))), enter h fun ts O P X h _ => ?_⟩
    try dsimp only [cxOf, Cx.nox, Cx.wish]
    
    obtain ⟨l, n, M, x, s, rfl, rfl, hn, n6, m2, mb, hx, hs, p⟩ := h
    have hcU : Cls K (chC K l) := by
      cases l
      · exact T.cl_Prompt
      · exact T.cl_Late
    have hnS : NoAttr K (chC K l) "stages" := by
      cases l
      · exact T.na_Prompt_stages
      · exact T.na_Late_stages
    have hnM : NoAttr K (chC K l) "modulus" := by
      cases l
      · exact T.na_Prompt_modulus
      · exact T.na_Late_modulus
    have hiU : InsTy K (chC K l) := by
      cases l
      · exact T.it_Prompt
      · exact T.it_Late
    have hkU : PySem.W.kitAny K (.ref (chC K l)) [.ref (He.ga K "Prompt"), .ref (He.ga K "Late")] = some true := by
      cases l
      · exact kitAny_cons T.kit_Prompt_Prompt (fun z => by cases z) fun _ => rfl
      · exact kitAny_cons T.kit_Late_Prompt (fun _ => kitAny_cons T.kit_Late_Late (fun z => by cases z) fun _ => rfl) fun z => by cases z
    have hkP : PySem.W.kitOne K (.ref (chC K l)) (.ref (He.ga K "Prompt")) = some (!l) := by
      cases l
      · exact T.kit_Prompt_Prompt
      · exact T.kit_Late_Prompt
    show WS _ _ _ _ [.v (chD (chC K l) (n : Nat) (M : Nat)), .v (.int x), .v (.tup (nums s))] _
    repeat walk_at "e"
    refine ⟨l, n, (M : Int), x, s, rfl, rfl, hn, n6, hx, hs, ⟨⟨_, rfl⟩, ?_⟩⟩
    repeat walk_at "e"
    refine ⟨M, My.cfL l x s, rfl, rfl, by omega, by omega, by rw [My.cfL_len]; omega, by rw [My.cfL_len]; omega, cfL_sml hn n6 hx hs, ⟨⟨_, rfl⟩, ?_⟩⟩
    repeat walk_at "e"
    exact ⟨rfl, p⟩
theorem sc_are_starts : FnScope ["chain", "value", ".0", "start"] ["chain", "value"] (defScope (top 62)) := ⟨rfl, rfl, rfl, by decide +kernel, rfl, by decide +kernel, by decide +kernel⟩
theorem ok_are_starts {P : Program} {w : World} {K : PySem.W.Frag} {mg : Str → Option Value} {base : Heap} (T : Tx K mg) (h_is_between : Fn P w K mg base 2 (He.fAd K ("is_between", none)) ["value", "low", "high"] (sp_is_between K)) : Fn P w K mg base 3 (He.fAd K ("are_starts", none)) ["chain", "value"] (sp_l_ares K) := by
  obtain ⟨_, F_is_between, b_is_between, kp_is_between, lk_is_between⟩ := h_is_between
  obtain ⟨fd, F⟩ := T.d_are_starts
  have hc_Late := T.cl_Late
  have hn_Late_modulus := T.na_Late_modulus
  have hc_Late := T.cl_Late
  have hn_Late_stages := T.na_Late_stages
  have hc_Prompt := T.cl_Prompt
  have hn_Prompt_modulus := T.na_Prompt_modulus
  have hc_Prompt := T.cl_Prompt
  have hn_Prompt_stages := T.na_Prompt_stages
  refine ⟨fd, F.ok sc_are_starts (lift_len ?_) (fun cdv A outer s H vs Q E hr h => ?_), F.bindsN fun _ _ _ _ _ _ us hl => (match us, hl with | [_, _], _ => rfl), F.kp, lk_of F⟩
  · intro ts O P X h
    exact sp_l_ares_len h
  · have hu := hr.units
    refine ⟨_, (PSs.nox (pss_cons (ps_if (PW.pt (pw_or (pt_not (pt_val (pe_callB (call_isiK K) (by rfl) T.n_isinstance boot_isinstance (pa_cons (pv 1) (pa_cons (pe_bltn (v := .ty "tuple") (by rfl) T.n_tuple boot_tuple rfl) pa_nil))))) (pw_or1 (pt_cmpR op_ne (pe_callB (cr_lenK K) (by rfl) T.n_len boot_len (pa_cons (pv 1) pa_nil)) (pe_fldK K (pv 0)) (nomark _)))))
    (pss_one (ps_ret pe_bl))
    pss_nil)
    (pss_one (ps_ret (pe_callB (cr_allK K rfl) (by rfl) T.n_all boot_all (pa_cons (pe_lc (own := [(".0", 2), ("start", 3)]) rfl sc_are_starts.nd (pi_tupK K (pv 1)) (blkOk_by (own := [(".0", 2), ("start", 3)]) (N := ["chain", "value", ".0", "start"]) (sc := defScope (top 62)) (by decide +kernel)) (fun _ _ _ _ _ => (pg_name (i := 3) sc_are_starts.nd rfl (.inl rfl))) (fun _ _ _ _ _ => pts_nil) (fun _ _ _ _ _ => (pe_call F_is_between (hr.mono (by decide)) (by rfl) T.g_is_between kp_is_between b_is_between .nil passL (pa_cons (pv 3) (pa_cons pe_int (pa_cons (pe_op op_sub (pe_fldK K (pv 0)) pe_int) pa_nil)))))) pa_nil)))))), enter h fun ts O P X h _ => ?_⟩
    try dsimp only [cxOf, Cx.nox, Cx.wish]
    
    obtain ⟨l, n, m0, b, rfl, rfl, hb, n6, p⟩ := h
    have hcU : Cls K (chC K l) := by
      cases l
      · exact T.cl_Prompt
      · exact T.cl_Late
    have hnS : NoAttr K (chC K l) "stages" := by
      cases l
      · exact T.na_Prompt_stages
      · exact T.na_Late_stages
    have hnM : NoAttr K (chC K l) "modulus" := by
      cases l
      · exact T.na_Prompt_modulus
      · exact T.na_Late_modulus
    have hiU : InsTy K (chC K l) := by
      cases l
      · exact T.it_Prompt
      · exact T.it_Late
    have hkU : PySem.W.kitAny K (.ref (chC K l)) [.ref (He.ga K "Prompt"), .ref (He.ga K "Late")] = some true := by
      cases l
      · exact kitAny_cons T.kit_Prompt_Prompt (fun z => by cases z) fun _ => rfl
      · exact kitAny_cons T.kit_Late_Prompt (fun _ => kitAny_cons T.kit_Late_Late (fun z => by cases z) fun _ => rfl) fun z => by cases z
    have hkP : PySem.W.kitOne K (.ref (chC K l)) (.ref (He.ga K "Prompt")) = some (!l) := by
      cases l
      · exact T.kit_Prompt_Prompt
      · exact T.kit_Late_Prompt
    show WS _ _ _ _ [.v (chD (chC K l) (n : Nat) m0), .v b, .no, .no] _
    refine s_seq ?_
    repeat walk_at "e"
    rcases hb with ⟨ds, rfl, hl, hsv⟩ | hb
    case inr =>
      obtain ⟨t, ht, hk⟩ := hb.kit (K := K)
      refine c_isi ht (.ty _) hk ?_
      repeat walk_at "e"
      exact ⟨rfl, p false (iff_no fun ⟨_, e, _⟩ => hb.ne _ e)⟩
    refine c_isi (.tup _) (.ty _) (kit_ty (r := true) (by decide +kernel)) ?_
    repeat walk_at "e"
    refine nbr (fun h => ?_) (fun h => ?_)
    · repeat walk_at "e"
      refine ⟨rfl, p false (iff_no fun ⟨ns, e, e2, _⟩ => h ?_)⟩
      injection e with e
      rw [e, nums_len, e2]
    repeat walk_at "e"
    refine w_lc1 ?_ (by decide)
    refine i_tup ?_
    repeat walk_at "e"
    rw [show itD ds = itD (ds.map id) by rw [List.map_id]]
    refine lc_A ds id (fun d => .bl (btB 0 (m0 - 1) d)) (by omega) (fun d acc hd => ?_) ?_
    · refine g_name ?_
      repeat walk_at "e"
      refine u_is_between ((hsv d hd).btw _ _) ⟨⟨_, rfl⟩, ?_⟩
      repeat walk_at "e"
      exact ⟨rfl, rfl⟩
    rw [show (ds.map fun d => D.bl (btB 0 (m0 - 1) d)) = (ds.map fun d => btB 0 (m0 - 1) d).map D.bl by rw [List.map_map] <;> rfl]
    repeat walk_at "e"
    refine c_all lstD_v ?_
    refine ⟨rfl, p _ ?_⟩
    rw [List.all_map, List.all_eq_true]
    constructor
    · intro hall
      obtain ⟨ns, e, hns⟩ := bt_all hall
      subst e
      rw [nums_len] at h
      exact ⟨ns, rfl, by omega, hns⟩
    · rintro ⟨ns, e, _, hns⟩
      injection e with e
      subst e
      exact bt_nums hns
theorem sc_has_length : FnScope ["chain", "number", "value"] ["chain", "number", "value"] (defScope (top 63)) := ⟨rfl, rfl, rfl, by decide +kernel, rfl, by decide +kernel, by decide +kernel⟩
theorem ok_has_length {P : Program} {w : World} {K : PySem.W.Frag} {mg : Str → Option Value} {base : Heap} (T : Tx K mg) (h_is_integer : Fn P w K mg base 1 (He.fAd K ("is_integer", none)) ["value"] (sp_is_integer K)) (h_are_starts : Fn P w K mg base 3 (He.fAd K ("are_starts", none)) ["chain", "value"] (sp_l_ares K)) (h_period_at : Fn P w K mg base 6 (He.fAd K ("period_at", none)) ["chain", "number", "starts"] (sp_l_pat K)) : Fn P w K mg base 7 (He.fAd K ("has_length", none)) ["chain", "number", "value"] (sp_l_hasl K) := by
  obtain ⟨_, F_is_integer, b_is_integer, kp_is_integer, lk_is_integer⟩ := h_is_integer
  obtain ⟨_, F_are_starts, b_are_starts, kp_are_starts, lk_are_starts⟩ := h_are_starts
  obtain ⟨_, F_period_at, b_period_at, kp_period_at, lk_period_at⟩ := h_period_at
  obtain ⟨fd, F⟩ := T.d_has_length
  have hc_Longest := T.cl_Longest
  have hn_Longest_length := T.na_Longest_length
  have hc_Longest := T.cl_Longest
  have hn_Longest_starts := T.na_Longest_starts
  refine ⟨fd, F.ok sc_has_length (lift_len ?_) (fun cdv A outer s H vs Q E hr h => ?_), F.bindsN fun _ _ _ _ _ _ us hl => (match us, hl with | [_, _, _], _ => rfl), F.kp, lk_of F⟩
  · intro ts O P X h
    exact sp_l_hasl_len h
  · have hu := hr.units
    refine ⟨_, (PSs.nox (pss_cons (ps_if (PW.pt (pw_or (pt_not (pt_val (pe_call F_is_integer (hr.mono (by decide)) (by rfl) T.g_is_integer kp_is_integer b_is_integer .nil passL (pa_cons (pe_fldK K (pv 2)) pa_nil)))) (pw_or (pt_cmpR op_lt (pe_fldK K (pv 2)) pe_int (nomark _)) (pw_or1 (pt_not (pt_val (pe_call F_are_starts (hr.mono (by decide)) (by rfl) T.g_are_starts kp_are_starts b_are_starts .nil passL (pa_cons (pv 0) (pa_cons (pe_fldK K (pv 2)) pa_nil)))))))))
    (pss_one (ps_ret pe_bl))
    pss_nil)
    (pss_one (ps_ret (pe_cmpR op_eq (pe_call F_period_at (hr.mono (by decide)) (by rfl) T.g_period_at kp_period_at b_period_at .nil passL (pa_cons (pv 0) (pa_cons (pv 1) (pa_cons (pe_slice (sl_tupAK K) (pe_fldK K (pv 2)) po_none (po_some (pe_un un_neg pe_int))) pa_nil)))) (pe_fldK K (pv 2)) (nomark _)))))), enter h fun ts O P X h _ => ?_⟩
    try dsimp only [cxOf, Cx.nox, Cx.wish]
    
    obtain ⟨l, n, M, x, a, b, rfl, rfl, n1, n6, m2, mb, x0, x1, ha, hb, p⟩ := h
    have hcU : Cls K (chC K l) := by
      cases l
      · exact T.cl_Prompt
      · exact T.cl_Late
    have hnS : NoAttr K (chC K l) "stages" := by
      cases l
      · exact T.na_Prompt_stages
      · exact T.na_Late_stages
    have hnM : NoAttr K (chC K l) "modulus" := by
      cases l
      · exact T.na_Prompt_modulus
      · exact T.na_Late_modulus
    have hiU : InsTy K (chC K l) := by
      cases l
      · exact T.it_Prompt
      · exact T.it_Late
    have hkU : PySem.W.kitAny K (.ref (chC K l)) [.ref (He.ga K "Prompt"), .ref (He.ga K "Late")] = some true := by
      cases l
      · exact kitAny_cons T.kit_Prompt_Prompt (fun z => by cases z) fun _ => rfl
      · exact kitAny_cons T.kit_Late_Prompt (fun _ => kitAny_cons T.kit_Late_Late (fun z => by cases z) fun _ => rfl) fun z => by cases z
    have hkP : PySem.W.kitOne K (.ref (chC K l)) (.ref (He.ga K "Prompt")) = some (!l) := by
      cases l
      · exact T.kit_Prompt_Prompt
      · exact T.kit_Late_Prompt
    show WS _ _ _ _ [.v (chD (chC K l) (n : Nat) (M : Nat)), .v (.int x), .v (lgD K a b)] _
    refine s_seq ?_
    repeat walk_at "e"
    refine u_is_integer ha.isi ⟨⟨_, rfl⟩, ?_⟩
    cases hi : isI a with
    | false =>
      repeat walk_at "e"
      refine ⟨rfl, p false (iff_no fun ⟨L, _, _, e, _⟩ => ?_)⟩
      subst e
      cases hi
    | true =>
    obtain ⟨L0, rfl⟩ := isI_iff.mp hi
    repeat walk_at "e"
    refine br (fun hL => ?_) (fun hL => ?_)
    · repeat walk_at "e"
      refine ⟨rfl, p false (iff_no fun ⟨L, _, _, e, _, _, _, _, _, hlp⟩ => ?_)⟩
      injection e with e
      have := hlp.1
      omega
    repeat walk_at "e"
    refine ⟨l, n, (M : Int), b, rfl, rfl, hb, n6, fun r hr => ⟨⟨_, rfl⟩, ?_⟩⟩
    cases r with
    | false =>
      repeat walk_at "e"
      refine ⟨rfl, p false (iff_no fun ⟨L, S, z, _, e, hl, hin, z0, z1, _⟩ => ?_)⟩
      have := hr.mpr ⟨S ++ [z], e, by rw [List.length_append, hl, List.length_singleton]; omega, fun y hy => (by
        rcases List.mem_append.mp hy with hy | hy
        · have := hin y hy
          omega
        · rw [List.mem_singleton.mp hy]
          omega)⟩
      cases this
    | true =>
    obtain ⟨ns, rfl, hl, hin⟩ := hr.mp rfl
    obtain ⟨S, z, rfl, hS⟩ := app_last hl n1
    have hin1 : ∀ y ∈ S, 0 ≤ y ∧ y < (M : Int) := fun y hy => by
      have := hin y (List.mem_append_left _ hy)
      omega
    have hz := hin z (List.mem_append_right _ List.mem_cons_self)
    have hn : n = S.length + 1 := by rw [List.length_append, List.length_singleton] at hl; omega
    clear hl hin hr
    repeat walk_at "e"
    rw [cut_last1]
    refine ⟨l, n, M, x, S, rfl, rfl, hn, n6, m2, mb, by omega, fun y hy => (by have := hin1 y hy; omega), ⟨⟨_, rfl⟩, ?_⟩⟩
    repeat walk_at "e"
    refine ⟨rfl, p _ ?_⟩
    rw [decide_eq_true_iff]
    have hlp : My.IsLp M (My.cfL l x S) (lpN M (My.cfL l x S)) := lpN_ok (by omega) (by rw [My.cfL_len]; omega)
    constructor
    · intro e
      exact ⟨_, S, z, by rw [e], rfl, hS, hin1, hz.1, by omega, hlp⟩
    · rintro ⟨L, S', z', e1, e2, _, _, _, _, h⟩
      injection e1 with e1
      injection e2 with e2
      have e3 := numsI e2
      have e4 : S = S' := by
        have h1 := congrArg List.dropLast e3
        rwa [List.dropLast_concat, List.dropLast_concat] at h1
      subst e4
      rw [lpN_eq h, e1]
theorem sc_shows_longest : FnScope ["chain", "number", "value"] ["chain", "number", "value"] (defScope (top 64)) := ⟨rfl, rfl, rfl, by decide +kernel, rfl, by decide +kernel, by decide +kernel⟩
theorem ok_shows_longest {P : Program} {w : World} {K : PySem.W.Frag} {mg : Str → Option Value} {base : Heap} (T : Tx K mg) (h_need_chain : Fn P w K mg base 1 (He.fAd K ("need_chain", none)) ["chain"] (sp_st_nch K)) (h_need_input : Fn P w K mg base 3 (He.fAd K ("need_input", none)) ["chain", "number"] (sp_st_nin K)) (h_has_length : Fn P w K mg base 7 (He.fAd K ("has_length", none)) ["chain", "number", "value"] (sp_l_hasl K)) (h_all_keep : Fn P w K mg base 1 (He.fAd K ("all_keep", none)) ["rows", "number", "modulus"] (sp_st_ak K)) (h_rows_for : Fn P w K mg base 3 (He.fAd K ("rows_for", none)) ["chain", "length", "modulus"] (sp_st_rows K)) : Fn P w K mg base 8 (He.fAd K ("shows_longest", none)) ["chain", "number", "value"] (sp_l_shl K) := by
  obtain ⟨_, F_need_chain, b_need_chain, kp_need_chain, lk_need_chain⟩ := h_need_chain
  obtain ⟨_, F_need_input, b_need_input, kp_need_input, lk_need_input⟩ := h_need_input
  obtain ⟨_, F_has_length, b_has_length, kp_has_length, lk_has_length⟩ := h_has_length
  obtain ⟨_, F_all_keep, b_all_keep, kp_all_keep, lk_all_keep⟩ := h_all_keep
  obtain ⟨_, F_rows_for, b_rows_for, kp_rows_for, lk_rows_for⟩ := h_rows_for
  obtain ⟨fd, F⟩ := T.d_shows_longest
  have hc_Late := T.cl_Late
  have hn_Late_modulus := T.na_Late_modulus
  have hc_Longest := T.cl_Longest
  have hn_Longest_length := T.na_Longest_length
  have hc_Prompt := T.cl_Prompt
  have hn_Prompt_modulus := T.na_Prompt_modulus
  refine ⟨fd, F.ok sc_shows_longest (lift_len ?_) (fun cdv A outer s H vs Q E hr h => ?_), F.bindsN fun _ _ _ _ _ _ us hl => (match us, hl with | [_, _, _], _ => rfl), F.kp, lk_of F⟩
  · intro ts O P X h
    exact sp_l_shl_len h
  · have hu := hr.units
    refine ⟨_, (PSs.nox (pss_cons (ps_expr (pe_call F_need_chain (hr.mono (by decide)) (by rfl) T.g_need_chain kp_need_chain b_need_chain .nil passL (pa_cons (pv 0) pa_nil)))
    (pss_cons (ps_expr (pe_call F_need_input (hr.mono (by decide)) (by rfl) T.g_need_input kp_need_input b_need_input .nil passL (pa_cons (pv 0) (pa_cons (pv 1) pa_nil))))
    (pss_cons (ps_if (PW.pt (pw_or (pt_not (pt_val (pe_callB (call_isiK K) (by rfl) T.n_isinstance boot_isinstance (pa_cons (pv 2) (pa_cons (pe_glob (v := .ref (He.ga K "Longest")) (by rfl) T.g_Longest rfl) pa_nil))))) (pw_or1 (pt_not (pt_val (pe_call F_has_length (hr.mono (by decide)) (by rfl) T.g_has_length kp_has_length b_has_length .nil passL (pa_cons (pv 0) (pa_cons (pv 1) (pa_cons (pv 2) pa_nil)))))))))
    (pss_one (ps_ret pe_bl))
    pss_nil)
    (pss_one (ps_ret (pe_call F_all_keep (hr.mono (by decide)) (by rfl) T.g_all_keep kp_all_keep b_all_keep .nil passL (pa_cons (pe_call F_rows_for (hr.mono (by decide)) (by rfl) T.g_rows_for kp_rows_for b_rows_for .nil passL (pa_cons (pv 0) (pa_cons (pe_fldK K (pv 2)) (pa_cons (pe_fldK K (pv 0)) pa_nil)))) (pa_cons (pv 1) (pa_cons (pe_fldK K (pv 0)) pa_nil)))))))))), enter h fun ts O P X h _ => ?_⟩
    try dsimp only [cxOf, Cx.nox, Cx.wish]
    
    obtain ⟨l, n, M, x, v, rfl, rfl, n1, n6, m2, mb, x0, x1, hv⟩ := h
    have hcU : Cls K (chC K l) := by
      cases l
      · exact T.cl_Prompt
      · exact T.cl_Late
    have hnS : NoAttr K (chC K l) "stages" := by
      cases l
      · exact T.na_Prompt_stages
      · exact T.na_Late_stages
    have hnM : NoAttr K (chC K l) "modulus" := by
      cases l
      · exact T.na_Prompt_modulus
      · exact T.na_Late_modulus
    have hiU : InsTy K (chC K l) := by
      cases l
      · exact T.it_Prompt
      · exact T.it_Late
    have hkU : PySem.W.kitAny K (.ref (chC K l)) [.ref (He.ga K "Prompt"), .ref (He.ga K "Late")] = some true := by
      cases l
      · exact kitAny_cons T.kit_Prompt_Prompt (fun z => by cases z) fun _ => rfl
      · exact kitAny_cons T.kit_Late_Prompt (fun _ => kitAny_cons T.kit_Late_Late (fun z => by cases z) fun _ => rfl) fun z => by cases z
    have hkP : PySem.W.kitOne K (.ref (chC K l)) (.ref (He.ga K "Prompt")) = some (!l) := by
      cases l
      · exact T.kit_Prompt_Prompt
      · exact T.kit_Late_Prompt
    show WS _ _ _ _ [.v (chD (chC K l) (n : Nat) (M : Nat)), .v (.int x), .v v] _
    refine s_seq ?_
    repeat walk_at "e"
    refine ⟨l, n, M, rfl, rfl, ⟨⟨_, rfl⟩, ?_⟩⟩
    repeat walk_at "e"
    refine s_seq ?_
    repeat walk_at "e"
    refine ⟨l, n, M, x, rfl, rfl, x0, x1, ⟨⟨_, rfl⟩, ?_⟩⟩
    repeat walk_at "e"
    refine s_seq ?_
    repeat walk_at "e"
    rcases hv with ⟨t, ht, hk, p⟩ | ⟨a, b, rfl, ha, hb, p⟩
    · refine c_isi ht (.own _) hk ?_
      repeat walk_at "e"
      exact ⟨rfl, p⟩
    refine c_isi (.ins _ _ T.it_Longest) (.own _) T.kit_Longest_Longest ?_
    repeat walk_at "e"
    refine ⟨l, n, M, x, a, b, rfl, rfl, n1, n6, m2, mb, x0, x1, ha, hb, fun r hr => ⟨⟨_, rfl⟩, ?_⟩⟩
    cases r with
    | false =>
      repeat walk_at "e"
      refine ⟨rfl, p false (iff_no fun z => ?_)⟩
      have := hr.mpr z.has
      cases this
    | true =>
    obtain ⟨L, S, z, rfl, rfl, hS, hin, z0, z1, hlp⟩ := hr.mp rfl
    have L1 : 1 ≤ L := hlp.1
    have hbd := isLp_bd (show 1 ≤ M by omega) (by rw [My.cfL_len]; omega) hlp
    repeat walk_at "e"
    have hrow : ∀ v ∈ rowsF l n (L : Int) (M : Int), v.length = n - 1 + 1 ∧ Sml 110 v := fun v hv => by
      refine ⟨by rw [My.rowsF_mem v hv]; omega, fun y hy => ?_⟩
      obtain ⟨r, _, rfl⟩ := List.mem_map.mp hv
      unfold rowF at hy
      obtain ⟨pp, _, rfl⟩ := List.mem_map.mp hy
      have h1 := Int.emod_nonneg (La.dot (timesF (L : Int) (n - r)) (placeF (formsOf l n) r (n - r) pp)) (show (M : Int) ≠ 0 by omega)
      have h2 := Int.emod_lt_of_pos (La.dot (timesF (L : Int) (n - r)) (placeF (formsOf l n) r (n - r) pp)) (show (0 : Int) < (M : Int) by omega)
      omega
    refine ⟨l, n, (M : Int), (M : Int), (L : Int), rfl, rfl, ⟨by omega, by omega, n1, by omega⟩, n6, by omega, by omega, ⟨⟨_, rfl⟩, ?_⟩⟩
    repeat walk_at "e"
    refine ⟨_, x, M, n - 1, rfl, rfl, m2, by rw [My.rowsF_len]; omega, hrow, by omega, by omega, fun r2 hr2 => ⟨⟨_, rfl⟩, ?_⟩⟩
    have hk := My.allK_iff (q := M) (l := l) (x := x) (N := (L : Int)) (k := n - 1)
    rw [show n - 1 + 1 = n by omega] at hk
    refine ⟨rfl, p r2 (hr2.trans (hk.trans ⟨fun h => ⟨L, S, z, rfl, rfl, hS, hin, z0, z1, hlp, h⟩, ?_⟩))⟩
    rintro ⟨L', _, _, e, _, _, _, _, _, _, h⟩
    injection e with e
    rw [e]
    exact h
theorem sc_ShortestU_initU : FnScope ["self", "length", "starts", "bars"] ["self", "length", "starts", "bars"] (defScope (inClass (top 46) 0)) := ⟨rfl, rfl, rfl, by decide +kernel, rfl, by decide +kernel, by decide +kernel⟩
theorem ok_ShortestU_initU {P : Program} {w : World} {K : PySem.W.Frag} {mg : Str → Option Value} {base : Heap} (T : Tx K mg)  : Fn P w K mg base 1 (He.fAd K ("Shortest", some "__init__")) ["self", "length", "starts", "bars"] (sp_Sh_init K) := by
  obtain ⟨fd, F⟩ := T.d_ShortestU_initU
  have hc_Shortest := T.cl_Shortest
  have hn_Shortest_bars := T.na_Shortest_bars
  have hc_Shortest := T.cl_Shortest
  have hn_Shortest_length := T.na_Shortest_length
  have hc_Shortest := T.cl_Shortest
  have hn_Shortest_starts := T.na_Shortest_starts
  refine ⟨fd, F.ok sc_ShortestU_initU (lift_len ?_) (fun cdv A outer s H vs Q E hr h => ?_), F.bindsN fun _ _ _ _ _ _ us hl => (match us, hl with | [_, _, _, _], _ => rfl), F.kp, lk_of F⟩
  · intro ts O P X h
    exact sp_Sh_init_len h
  · have hu := hr.units
    refine ⟨_, (PSs.nox (pss_cons (ps_fld (pv 0) (pv 1) rfl)
    (pss_cons (ps_fld (pv 0) (pv 2) rfl)
    (pss_one (ps_fld (pv 0) (pv 3) rfl))))), enter h fun ts O P X h _ => ?_⟩
    try dsimp only [cxOf, Cx.nox, Cx.wish]
    
    obtain ⟨a, b, c, rfl, rfl, p⟩ := h
    show WS _ _ _ _ [.own 0, .v a, .v b, .v c] _
    repeat walk_at "g"
    exact ⟨rfl, p⟩
end My

set_option Elab.async false
set_option linter.all false
set_option maxRecDepth 100000
set_option maxHeartbeats 4000000
namespace G
open PySem PySem.Spec PyProof.Rows L2
end G

set_option Elab.async false
set_option linter.all false
set_option maxRecDepth 100000
set_option maxHeartbeats 4000000
namespace G
open PySem PySem.Spec PyProof.Rows L2
section
variable {K : PySem.W.Frag} {W : WX} {O : List OD} {ts : List T} {P : PT'} {X : XX} {sp : SpD} {tr : TA} {ta : TE} {C : Addr}
end
end G

set_option Elab.async false
set_option linter.all false
set_option maxRecDepth 100000
set_option maxHeartbeats 4000000
namespace G
open PySem PySem.Spec PyProof.Rows L2
section
variable {X : Cx} {CX : CXT} {k : Nat} {C g : Addr} {sp : Sp} {E1 : XK}
end
end G

set_option Elab.async false
set_option linter.all false
set_option maxRecDepth 100000
set_option maxHeartbeats 4000000
namespace G
open PySem PySem.Spec PyProof.Rows L2
section
variable {K : PySem.W.Frag} {W : WX} {O : List OD} {ts : List T} {P : PB} {P' : PT'} {X : XX} {sp : SpD} {ta : TE} {C : Addr}
end
end G

set_option Elab.async false
set_option linter.all false
set_option maxRecDepth 100000
set_option maxHeartbeats 4000000
namespace G
open PySem PySem.Spec PyProof.Rows L2
section
variable {K : PySem.W.Frag} {W : WX} {O : List OD} {ts : List T} {P : PB} {X : XX} {t1 t2 : TT}
end
end G

set_option Elab.async false
set_option linter.all false
set_option maxRecDepth 100000
set_option maxHeartbeats 1000000
namespace GQ
open PySem PySem.Spec PyProof.Rows GenW L2

/-- the consumer: its list, its other things, how many items it may take, what it wants to know at each -/
structure Con where
  S : Addr
  oth : List Addr
  B : Nat
  yd : List V → Hp → Prop
section
variable {X : Cx} {C : Con} {cs ip : List (Addr × Obj)} {ys : List V} {σ : L2.St} {H : Hp} {s s' : Shared}
end

structure GE where
  nx : List V → L2.St → Hp → Prop
  rt : List V → VK
  bk : List V → L2.St → Hp → Prop := fun _ _ _ => False
  ct : List V → L2.St → Hp → Prop := fun _ _ _ => False
abbrev TG2 := Con → GE → List V → L2.St → Hp → Prop
def GE.at (D : GE) (ys : List V) : Ends := { nx := D.nx ys, rt := D.rt ys, bk := D.bk ys, ct := D.ct ys }
section
variable {X : Cx} {st : Stmt} {rest : List Stmt}
end
end GQ

set_option Elab.async false
set_option linter.all false
set_option maxRecDepth 100000
set_option maxHeartbeats 1000000
namespace GQ
open PySem PySem.Spec PyProof.Rows GenW L2

/-- arguments, heap, how many items may be taken, what is known at each item, at the end, errors -/
abbrev SpQ := List V → Hp → Nat → (List V → Hp → Prop) → (List V → Hp → Prop) → XK → Prop
end GQ

set_option Elab.async false
set_option linter.all false
set_option maxRecDepth 100000
set_option maxHeartbeats 1000000
namespace GQ
open PySem PySem.Spec PyProof.Rows GenW L2

section
variable {X : Cx} {k : Nat} {f C : Addr} {fd : FuncData} {ps : List Str} {sp : SpQ} {dvs : List V} {ds : List Value} {x m : Str} {p pos pos' apos : Pos} {o : Expr} {ta : TE}
end
end GQ

set_option Elab.async false
set_option linter.all false
set_option maxRecDepth 100000
set_option maxHeartbeats 4000000
namespace G
open PySem PySem.Spec PyProof.Rows L2 GQ

/-- a generator def's promise over data: its arguments, the items that it hands out -/
abbrev SqD := List T → List D → Prop
structure DQ where
  it : List D → Prop
  nx : List D → List T → List OD → Prop
  rt : List D → Prop
  bk : List D → List T → List OD → Prop := fun _ _ _ => False
  ct : List D → List T → List OD → Prop := fun _ _ _ => False
def KM (K : PySem.W.Frag) (b : Bs) (A : List Addr) (O : List OD) (H : Hp) (N : List D → List T → List OD → Prop) (Q : List V → L2.St → Hp → Prop) : Prop :=
  ∀ out ts ys σ A' O' H', N out ts O' → StO K b A' O' H' → Nxt b A O H A' O' H' → RepS K (Fz b A' O' H') A' ts σ → RepL K (Fz b A' O' H') out ys → Q ys σ H'
structure KQ (K : PySem.W.Frag) (b : Bs) (A : List Addr) (O : List OD) (H : Hp) (E : DQ) (C : GQ.Con) (D : GQ.GE) : Prop where
  it : ∀ out ys A' O' H', E.it out → StO K b A' O' H' → Nxt b A O H A' O' H' → RepL K (Fz b A' O' H') out ys → C.yd ys H'
  nx : KM K b A O H E.nx D.nx
  rt : ∀ out ys A' O' H', E.rt out → StO K b A' O' H' → Nxt b A O H A' O' H' → RepL K (Fz b A' O' H') out ys → D.rt ys .non H'
  bk : KM K b A O H E.bk D.bk
  ct : KM K b A O H E.ct D.ct
section
variable {K : PySem.W.Frag} {b : Bs} {A A' : List Addr} {O O' : List OD} {H H' : Hp} {E : DQ} {C : GQ.Con} {D : GQ.GE} {ts : List T} {out : List G.D} {t u : GQ.TG2}
theorem KM.nxt {N : List G.D → List T → List OD → Prop} {Q : List V → L2.St → Hp → Prop} (k : KM K b A O H N Q) (n : Nxt b A O H A' O' H') : KM K b A' O' H' N Q := fun out ts ys σ A2 O2 H2 x s m r q => k out ts ys σ A2 O2 H2 x s (n.trans m) r q
theorem KQ.nxt (k : KQ K b A O H E C D) (n : Nxt b A O H A' O' H') : KQ K b A' O' H' E C D :=
  ⟨fun out ys A2 O2 H2 x s m r => k.it out ys A2 O2 H2 x s (n.trans m) r, k.nx.nxt n, fun out ys A2 O2 H2 x s m r => k.rt out ys A2 O2 H2 x s (n.trans m) r, k.bk.nxt n, k.ct.nxt n⟩
end
section
variable {K : PySem.W.Frag} {W : WX} {O : List OD} {ts : List T} {P : PT'} {X : XX} {sp : SqD} {C : Addr} {m : Str} {ta : TE} {tr : TA} {dvs : List V} {dds : List D}
end
end G

set_option Elab.async false
set_option linter.all false
set_option maxRecDepth 100000
set_option maxHeartbeats 4000000
namespace My2
open PySem PySem.W PyProof.Rows
section
variable {pr : Program} {wo : World} {B : Around} {Er : Value → Shared → Prop} {st : Shared} {K : Frag} {a cl lo me : Addr} {base : Heap} {nsm : Str → Option Value} {oa : Obj} {da : Option Obj}
end
end My2
namespace G
open PySem PySem.Spec PyProof.Rows L2
section
variable {X : Cx} {CX : CXT} {k : Nat} {C g : Addr} {sp : Sp} {E : XK} {m : Str}
end
section
variable {K : PySem.W.Frag} {W : WX} {O : List OD} {P : PT'}
end
end G

set_option Elab.async false
set_option linter.all false
namespace G
open PySem PySem.Spec PyProof.Rows L2
end G

set_option Elab.async false
set_option linter.all false
set_option maxRecDepth 100000
namespace G
open PySem PySem.Spec PyProof.Rows L2
section
variable {K : PySem.W.Frag} {O : List OD} {P : PT'}
end
end G

set_option Elab.async false
set_option linter.all false
namespace G
open PySem PySem.Spec PyProof.Rows L2
end G

set_option Elab.async false
set_option linter.all false
set_option maxRecDepth 100000
set_option maxHeartbeats 1000000
namespace FnK
open PySem
open Sem (wp)
section
variable {prog : Program} {w : World} {A : Around} {E : Value → Shared → Prop} {h : Heap} {g : Array GenState} {d : Drawn} {t : Nat} {os : OsState} {a : Addr} {o : Obj}
end
end FnK
namespace G
open PySem PySem.Spec PyProof.Rows L2
section
variable {K : PySem.W.Frag} {O : List OD} {P : PT'}
end
end G

set_option Elab.async false
set_option linter.all false
set_option maxRecDepth 100000
set_option maxHeartbeats 4000000
namespace G
open PySem PySem.Spec PyProof.Rows L2
section
variable {P : Program} {w : World} {K : PySem.W.Frag} {mg : Str → Option Value} {base : Heap} {k : Nat} {x qual : Str} {params : Arguments} {body : List Stmt} {scope : Scope} {f : Addr} {fd : FuncData} {N ps ks : List Str} {pv : Str} {sp : SpD} {tw : Bool}
end
section
variable {X : Cx} {k n : Nat} {f : Addr} {ks : List Str} {sp : SpD} {x : Str} {kws : List Keyword} {tk : TA} {tw : Bool} {p pos : Pos}
end
section
variable {K : PySem.W.Frag} {W : WX} {O : List OD} {ts : List T} {P : PT'} {X : XX} {sp : SpD} {tk : TA} {tw : Bool} {m n : Nat}
end
end G

set_option Elab.async false
set_option linter.all false
set_option maxRecDepth 100000
set_option maxHeartbeats 4000000
namespace G
open PySem PySem.Spec PyProof.Rows L2
end G

set_option Elab.async false
set_option linter.all false
set_option maxRecDepth 100000
set_option maxHeartbeats 1000000
namespace G
open PySem PySem.Spec PySem.Calls PyProof.Rows L2
section
variable {pr : Program} {wd : World} {B : Around} {F : Value → Shared → Prop} {z : Shared} {α : Type}
end
section
variable {P : Program} {w : World} {K : PySem.W.Frag} {d : Addr} {ob : Obj} {es : Array DictEntry} {ep : Nat}
end
section
variable {K : PySem.W.Frag} {W : WX} {O : List OD} {ts : List T} {P : PT'} {X : XX} {t td : TE}
end
end G

set_option Elab.async false
set_option linter.all false
set_option maxRecDepth 100000
set_option maxHeartbeats 2000000
namespace G
namespace DcO
open PySem PySem.Spec PySem.Calls PySem.SeqAt AutoSeq1 MeetsSeq
section
variable {pr : Program} {wd : World} {B : Around} {F : Value → Shared → Prop} {z : Shared}
/-- a dict stands at d -/
def DAt (z : Shared) (d : Addr) : Prop := ∃ es n dd sl, z.heap.get? d = some { cls := .type "dict", dict := dd, data := .dict es n, slots := sl }
theorem DAt.ty {d : Addr} (h : DAt z d) : z.TypeIs (.ref d) "dict" := let ⟨_, _, _, _, e⟩ := h; ⟨_, e, rfl⟩
end
section
variable {pr : Program} {wd : World} {B : Around} {F : Value → Shared → Prop} {z : Shared} {d : Addr} {v : Value} {Q : Value → Shared → Prop}
end
end DcO
end G

set_option Elab.async false
set_option linter.all false
set_option maxRecDepth 100000
set_option maxHeartbeats 2000000
namespace G
open PySem PySem.Spec PySem.Calls PyProof.Rows L2
section
variable {X : Cx} {pins : List (Addr × Obj)} {σ : L2.St} {H : Hp} {s : Shared}
end
end G

set_option Elab.async false
set_option linter.all false
set_option maxRecDepth 100000
set_option maxHeartbeats 2000000
namespace G
open PySem PySem.Spec PySem.Calls PyProof.Rows L2
section
variable {K : PySem.W.Frag} {b : Bs} {A : List Addr} {O : List OD} {H : Hp}
variable {P : PT'}
end

section
variable {X : Cx} {pins : List (Addr × Obj)} {σ : L2.St} {H : Hp} {s : Shared}
end
section
variable {X : Cx} {k : Nat}
end
end G

set_option Elab.async false
set_option linter.all false
set_option maxRecDepth 100000
set_option maxHeartbeats 0
namespace My
open PySem PySem.Spec PyProof.Rows L2 G
open La (Tri Fl putT lessT echT agT keptT fullF frow bez bezF diagT Red md Bq)
noncomputable def rndL (l : Bool) (M n : Nat) (x : Int) : List Int := (La.allT M (n - 1)).map fun v => ((lpN M (My.cfL l x v) : Nat) : Int)
theorem rnd_all {l : Bool} {n : Nat} {x : Int} {M L : Nat} {S : List Int} (n1 : 1 ≤ n) (n6 : n ≤ 6) (hM : 1 ≤ M) (ho : LgOk l n x M L S) : ∀ z ∈ rndL l M n x, ∃ u : Nat, z = (u : Nat) ∧ 1 ≤ u ∧ u ∣ L := fun z hz => by
  have hlp := ho.lp n1 n6 hM
  obtain ⟨v, hv, rfl⟩ := List.mem_map.mp hz
  have vl := (La.allT_mem.mp hv).1
  have h1 : My.IsLp M (My.cfL l x v) (lpN M (My.cfL l x v)) := lpN_ok (by omega) (by rw [My.cfL_len]; omega)
  exact ⟨_, rfl, h1.1, Int.natCast_dvd_natCast.mp ((h1.2 (L : Int)).mp (hlp.2 v vl))⟩
theorem rnd_most {l : Bool} {n : Nat} {x : Int} {M L : Nat} {S : List Int} (n1 : 1 ≤ n) (n6 : n ≤ 6) (hM : 1 ≤ M) (ho : LgOk l n x M L S) {m : Int} (hm : m ∈ rndL l M n x) (hmx : ∀ z ∈ rndL l M n x, z ≤ m) : m = (L : Nat) := by
  have hlp := ho.lp n1 n6 hM
  have hLm : ((L : Nat) : Int) ∈ rndL l M n x := List.mem_map.mpr ⟨S, La.allT_mem.mpr ⟨ho.len, fun y hy => ho.inr y hy⟩, by rw [lpN_eq hlp.1]⟩
  have h1 := hmx _ hLm
  obtain ⟨u, rfl, u1, u2⟩ := rnd_all n1 n6 hM ho m hm
  have := Nat.le_of_dvd hlp.1.1 u2
  omega
theorem rnd_D {l : Bool} {n : Nat} {x : Int} {M : Nat} : ((La.allT M (n - 1)).map fun v => D.int ((lpN M (My.cfL l x v) : Nat) : Int)) = (rndL l M n x).map D.int := by
  unfold rndL
  rw [List.map_map] <;> rfl
theorem rnd_len {l : Bool} {n : Nat} {x : Int} {M : Nat} : (rndL l M n x).length = M ^ (n - 1) := by
  unfold rndL
  rw [List.length_map, La.allT_len]

instance decAllK {q x : Int} {rows : List (List Int)} : Decidable (AllK q x rows) := by
  unfold My.AllK
  infer_instance
theorem all_24 {N : Nat} : AllK ((4 : Nat) : Int) 2 (rowsF false 2 (N : Int) ((4 : Nat) : Int)) ↔ ∀ s : List Int, s.length = 1 → My.Per 4 (My.cfL false 2 s) (N : Int) := My.allK_iff (q := 4) (k := 1)
theorem due_yes : DueL false 2 2 4 (.int 4) (.tup [.int 0, .int 3]) := by
  have h4 := all_24.mp (show AllK ((4 : Nat) : Int) 2 (rowsF false 2 ((4 : Nat) : Int) ((4 : Nat) : Int)) by decide +kernel)
  refine ⟨4, [0], 3, rfl, rfl, rfl, fun y hy => (by rw [List.mem_singleton.mp hy]; decide), by decide, by decide, My.lp_least (by decide) (h4 [0] rfl) (fun j j1 j2 z => ?_), h4⟩
  have hz := perB_iff.mpr z
  have : j = 1 ∨ j = 2 ∨ j = 3 := by omega
  rcases this with rfl | rfl | rfl <;> exact absurd hz (by decide +kernel)
theorem due_no : ¬ DueL false 2 2 4 (.int 2) (.tup [.int 1, .int 0]) := by
  rintro ⟨L, S, z, e, _, _, _, _, _, _, h⟩
  injection e with e
  obtain rfl : L = 2 := by omega
  exact absurd (all_24.mpr h) (by decide +kernel)
theorem shows_bl (b : Bool) : Shows (.bl b) (.bool b) := by cases b <;> exact ⟨rfl, rfl, (by decide +kernel : (0 : Nat) ≤ 100), (by rw [sizeLine_eq]; decide +kernel)⟩
def DueR (l : Bool) (n : Nat) (x : Int) (M L0 : Nat) (a b : D) : Prop := ∃ (S : List Int) (z : Int), a = .int (L0 : Nat) ∧ b = .tup (nums (S ++ [z])) ∧ S.length = n - 1 ∧ G.InR M S ∧ 0 ≤ z ∧ z < M ∧ My.IsLp M (My.cfL l x S) L0
theorem due_iff {l : Bool} {n : Nat} {x : Int} {M L0 : Nat} {S0 : List Int} {a b : D} (n1 : 1 ≤ n) (n6 : n ≤ 6) (hM : 1 ≤ M) (ho : LgOk l n x M L0 S0) : DueL l n x M a b ↔ DueR l n x M L0 a b := by
  have hlp := ho.lp n1 n6 hM
  constructor
  · rintro ⟨L, S, z, h1, h2, h3, h4, h5, h6, h7, h8⟩
    have e1 : L ∣ L0 := Int.natCast_dvd_natCast.mp ((h7.2 _).mp (hlp.2 S h3))
    have e2 : L0 ∣ L := Int.natCast_dvd_natCast.mp ((hlp.1.2 _).mp (h8 S0 ho.len))
    obtain rfl := Nat.dvd_antisymm e1 e2
    exact ⟨S, z, h1, h2, h3, h4, h5, h6, h7⟩
  · rintro ⟨S, z, h1, h2, h3, h4, h5, h6, h7⟩
    exact ⟨L0, S, z, h1, h2, h3, h4, h5, h6, h7, hlp.2⟩
def sp_l_isint (K : PySem.W.Frag) : SpD := fun ts O P X => ∃ (d : D), ts = [.v d] ∧ O = [] ∧ Sv d ∧ P (.v (.bl (isI d))) []
theorem sp_l_isint_len {K : PySem.W.Frag} {ts O P X} (h : sp_l_isint K ts O P X) : ts.length = 1 := by
  obtain ⟨d, rfl, _⟩ := h
  rfl
def sp_l_due (K : PySem.W.Frag) : SpD := fun ts O P X => ∃ (l : Bool) (n : Nat) (x : Int) (M L0 : Nat) (a b : D), ts = [.v (.tup [kd l, .int (n : Nat), .int (M : Nat), .int x]), .v (.int (L0 : Nat)), .v a, .v b] ∧ O = [] ∧ 1 ≤ n ∧ n ≤ 6 ∧ 2 ≤ M ∧ M ≤ 100 ∧ Sv a ∧ StV b ∧ ∀ r : Bool, (r = true ↔ DueR l n x M L0 a b) → P (.v (.bl r)) []
theorem sp_l_due_len {K : PySem.W.Frag} {ts O P X} (h : sp_l_due K ts O P X) : ts.length = 4 := by
  obtain ⟨l, n, x, M, L0, a, b, rfl, _⟩ := h
  rfl
def sp_l_bent (K : PySem.W.Frag) : SpD := fun ts O P X => ∃ (k : Nat) (p : List D) (ns : List Int) (M : Nat), ts = [.own 0, .v (.tup (nums ns)), .v (.int (M : Nat))] ∧ O = [.lst p] ∧ Pen k p ∧ k < 710000 ∧ 1 ≤ ns.length ∧ ns.length ≤ 6 ∧ (∀ y ∈ ns, 0 ≤ y ∧ y < (M : Int)) ∧ 2 ≤ M ∧ M ≤ 100 ∧ ∀ p' b, Pen (k + 4) p' → StV b → P (.v b) [.lst p']
theorem sp_l_bent_len {K : PySem.W.Frag} {ts O P X} (h : sp_l_bent K ts O P X) : ts.length = 3 := by
  obtain ⟨k, p, ns, M, rfl, _⟩ := h
  rfl
def sp_l_right (K : PySem.W.Frag) : SpD := fun ts O P X => ∃ (n : Nat) (p : List D), ts = [.own 0] ∧ O = [.lst p] ∧ Pen n p ∧ n < 700000 ∧ ∀ p', Pen (n + 100) p' → P (.v (.bl true)) [.lst p']
theorem sp_l_right_len {K : PySem.W.Frag} {ts O P X} (h : sp_l_right K ts O P X) : ts.length = 1 := by
  obtain ⟨n, p, rfl, _⟩ := h
  rfl

local macro_rules | `(tactic| walk_at "ws") => `(tactic| first
  | with_reducible refine s_set ?_
  | with_reducible refine s_if ?_
  | with_reducible refine s_ret ?_
  | with_reducible refine s_retN ?_
  | with_reducible refine s_drop ?_
  | with_reducible refine s_next ?_
  | with_reducible refine s_par ?_
  | with_reducible refine s_par3 ?_
  | refine s_fldN (by assumption) (by assumption) ?_
  | with_reducible refine s_asg ?_
  | refine s_raise1 ?_
  | refine s_raise2 ?_)
local macro_rules | `(tactic| walk_at "we") => `(tactic| first
  | ((with_reducible refine w_v (d := ?k2) ?k1 ?_); (case k1 => exact rfl))
  | ((with_reducible refine w_o (j := ?k2) ?k1 ?_); (case k1 => exact rfl))
  | ((guard_target = G.WE _ _ (tFld _ _ _) _ _ _ _); (refine w_fldN (by assumption) (by assumption) ?_))
  | ((guard_target = G.WE _ _ (tC (.ref _)) _ _ _ _); (refine w_ctup (by assumption) ?_))
  | with_reducible refine w_ci ?_
  | with_reducible refine w_op ?_
  | with_reducible refine w_call ?_
  | with_reducible refine w_cty ?_
  | with_reducible refine w_cb ?_
  | with_reducible refine w_cn ?_
  | with_reducible refine w_cs ?_
  | with_reducible refine w_cr ?_
  | with_reducible refine w_un ?_
  | with_reducible refine w_andV ?_
  | with_reducible refine w_orV ?_
  | with_reducible refine w_notV ?_
  | with_reducible refine w_ife ?_
  | with_reducible refine w_chain ?_
  | with_reducible refine w_tup ?_
  | with_reducible refine w_revL ?_
  | with_reducible refine w_slL ?_
  | with_reducible refine w_slT ?_
  | (guard_target = G.WE _ _ (tCall (lift _ (sp_draw _)) _ _ _) _ _ _ _; refine w_fn10 0 ?_)
  | (guard_target = G.WE _ _ (tCall (lift _ (sp_pick _)) _ _ _) _ _ _ _; refine w_fn10 0 ?_)
  | (guard_target = G.WE _ _ (tCall (lift _ (sp_l_right _)) _ _ _) _ _ _ _; refine w_fn10 0 ?_)
  | (guard_target = G.WE _ _ (tCall (lift _ (sp_l_bent _)) _ _ _) _ _ _ _; refine w_fn10 0 ?_)
  | with_reducible refine w_fn0 ?_
  | with_reducible refine w_fnS0 ?_
  | with_reducible refine w_meth0 ?_
  | with_reducible refine w_make0 ?_
  | with_reducible refine w_bmL ?_
  | with_reducible refine w_bmL0 ?_
  | with_reducible refine w_lst ?_
  | with_reducible refine w_callKX ?_
  | with_reducible refine w_makeKX ?_
  | with_reducible refine w_makeX ?_
  | with_reducible refine w_smethX ?_
  | with_reducible refine w_smethK ?_
  | with_reducible refine w_smethK0 ?_
  | with_reducible refine w_fnV ?_
  | with_reducible refine w_fnX ?_
  | with_reducible refine w_fnSX ?_
  | with_reducible refine w_methX ?_
  | with_reducible refine w_callX ?_
  | with_reducible refine w_methK ?_
  | with_reducible refine w_callK2 ?_
  | with_reducible refine w_callI ?_
  | with_reducible refine w_prop ?_
  | with_reducible refine w_dic0 ?_
  | with_reducible refine w_jcons ?_
  | with_reducible refine w_jnil ?_
  | with_reducible refine w_join ?_
  | with_reducible refine w_split ?_
  | with_reducible refine w_smeth ?_
  | with_reducible refine w_fnKr ?_)
local macro_rules | `(tactic| walk_at "wt") => `(tactic| first
  | with_reducible refine w_test ?_
  | with_reducible refine w_B ?_
  | with_reducible refine w_and ?_
  | with_reducible refine w_or ?_
  | with_reducible refine w_not ?_)
local macro_rules | `(tactic| walk_at "wa") => `(tactic| first
  | with_reducible refine w_cons ?_
  | with_reducible refine w_nil ?_
  | with_reducible refine w_star ?_)
local macro_rules | `(tactic| walk_at "wr") => `(tactic| first
  | with_reducible refine w_add ?_
  | with_reducible refine w_sub ?_
  | with_reducible refine w_lt ?_
  | with_reducible refine w_le ?_
  | with_reducible refine w_gt ?_
  | with_reducible refine w_ge ?_
  | with_reducible refine w_eqI ?_
  | with_reducible refine w_neI ?_
  | with_reducible refine w_isN ?_
  | with_reducible refine w_notN ?_
  | ((with_reducible refine w_mod ?k1 ?_); (case k1 => first | decide | omega))
  | ((with_reducible refine w_mul ?k1 ?_); (case k1 => first | exact Or.inl ⟨by decide, by decide⟩ | exact Or.inr ⟨by decide, by decide⟩ | exact Or.inl ⟨by omega, by omega⟩ | exact Or.inr ⟨by omega, by omega⟩))
  | ((with_reducible refine w_pow ?k1 ?_); (case k1 => first | exact ⟨by decide, by decide, by decide⟩ | exact ⟨by omega, by omega, by omega⟩))
  | ((with_reducible refine w_fdivW ?k1 ?_); (case k1 => exact divW_ok (by first | decide | omega) (by first | decide | omega)))
  | ((with_reducible refine w_mulW ?k1 ?_); (case k1 => exact mulW_ok ⟨by omega, by omega⟩ ⟨by omega, by omega⟩))
  | ((guard_target = G.WR _ (rIxT _) _ _ _ _); (refine w_ixT (by first | exact atI_0 | exact atI_1 | exact atI_2 | exact atI_3 | exact atI_4 | exact atI_5 | exact atI_6 | assumption) ?_))
  | ((guard_target = G.WR _ (rIxL _) _ _ _ _); (refine w_ixL (by first | exact lstD_v | exact lstD_o rfl) (by first | exact atI_0 | exact atI_1 | exact atI_2 | exact atI_3 | exact atI_4 | exact atI_5 | exact atI_6 | assumption) ?_)))
local macro_rules | `(tactic| walk_at "wc") => `(tactic| first
  | with_reducible refine c_int ?_
  | with_reducible refine c_intB ?_
  | with_reducible refine c_abs ?_
  | ((guard_target = G.WC _ (G.rLen _) _ _ _); (refine c_lenL (by first | exact lstD_v | exact lstD_o rfl) ?_))
  | with_reducible refine c_lenT ?_
  | ((guard_target = G.WC _ (G.rListOf _) _ _ _); (refine c_listL (by first | exact lstD_v | exact lstD_o rfl) ?_))
  | with_reducible refine c_listT ?_
  | ((guard_target = G.WC _ (G.rTupOf _) _ _ _); (refine c_tupL (by first | exact lstD_v | exact lstD_o rfl) ?_))
  | with_reducible refine c_tupT ?_)
local macro_rules | `(tactic| walk_at "e") => `(tactic| first
  | (guard_target = G.WE _ _ _ _ _ _ _; walk_at "we")
  | (guard_target = G.WS _ _ _ _ _ _; walk_at "ws")
  | (guard_target = G.WA _ _ _ _ _ _ _; walk_at "wa")
  | (guard_target = G.WR _ _ _ _ _ _; walk_at "wr")
  | (guard_target = G.WT _ _ _ _ _ _ _; walk_at "wt")
  | (guard_target = G.WC _ _ _ _ _; walk_at "wc")
  | (guard_target = G.WU _ _ _ _ _; with_reducible refine w_neg ?_)
  | (guard_target = G.WG _ _ _ _ _ _ _; first | with_reducible refine g_name ?_ | with_reducible refine g_setL ?_ | refine g_pair rfl ?_ | refine g_trip rfl ?_ | refine g_quad rfl ?_)
  | (guard_target = G.WO _ _ _ _ _ _ _; first | with_reducible refine o_none ?_ | with_reducible refine o_some ?_)
  | with_reducible refine tt_ ?_
  | with_reducible refine ff_ ?_
  | with_reducible refine ntt_ ?_
  | with_reducible refine nff_ ?_
  | ((guard_target = ((!G.isNon _) = true → _) ∧ _); (first | refine bnF rfl ?_ | refine bnT rfl ?_))
  | ((guard_target = (G.isNon _ = true → _) ∧ _); (first | refine bF rfl ?_ | refine bT rfl ?_))
  | (guard_target = Exists _; first
    | refine ⟨_, rfl, Nat.le_of_ble_eq_true rfl, Nat.le_of_ble_eq_true rfl, ?_⟩
    | refine ⟨_, _, _, _, _, rfl, rfl, rfl, rfl, rfl, ?_⟩
    | refine ⟨_, _, _, rfl, rfl, rfl, Nat.le_of_ble_eq_true rfl, ?_⟩
    | refine ⟨_, _, rfl, rfl, rfl, ?_⟩
    | refine ⟨_, _, _, rfl, ?_⟩
    | refine ⟨_, _, (by first | exact insD_v | exact insD_o rfl), rfl, ?_⟩
    | refine ⟨_, _, rfl, ?_⟩
    | refine ⟨_, rfl, rfl, ?_⟩
    | refine ⟨_, rfl, Nat.le_of_ble_eq_true rfl, ?_⟩
    | refine ⟨_, (by first | exact lstD_v | exact lstD_o rfl), ?_⟩
    | refine ⟨_, rfl, ?_⟩))
local macro_rules | `(tactic| walk_at "o") => `(tactic| first | with_reducible refine w_lstO ?_ | walk_at "e")
local macro_rules | `(tactic| walk_at "g") => `(tactic| first | walk_at "e" | with_reducible refine s_seq ?_)
local macro_rules | `(tactic| walk_at "n") => `(tactic| (with_reducible refine s_seq ?_); (repeat walk_at "e"))
theorem sc_law_is_int : FnScope ["_law_value"] ["_law_value"] (defScope (top 73)) := ⟨rfl, rfl, rfl, by decide +kernel, rfl, by decide +kernel, by decide +kernel⟩
theorem ok_law_is_int {P : Program} {w : World} {K : PySem.W.Frag} {mg : Str → Option Value} {base : Heap} (T : Tx K mg)  : Fn P w K mg base 1 (He.fAd K ("_law_is_int", none)) ["_law_value"] (sp_l_isint K) := by
  obtain ⟨fd, F⟩ := T.d_law_is_int
  refine ⟨fd, F.ok sc_law_is_int (lift_len ?_) (fun cdv A outer s H vs Q E hr h => ?_), F.bindsN fun _ _ _ _ _ _ us hl => (match us, hl with | [_], _ => rfl), F.kp, lk_of F⟩
  · intro ts O P X h
    exact sp_l_isint_len h
  · have hu := hr.units
    refine ⟨_, (PSs.nox (pss_one (ps_ret (pe_and (pe_callB (call_isiK K) (by rfl) T.n_isinstance boot_isinstance (pa_cons (pv 0) (pa_cons (pe_bltn (v := .ty "int") (by rfl) T.n_int boot_int rfl) pa_nil))) (pe_one (pe_not (pe_callB (call_isiK K) (by rfl) T.n_isinstance boot_isinstance (pa_cons (pv 0) (pa_cons (pe_bltn (v := .ty "bool") (by rfl) T.n_bool boot_bool rfl) pa_nil))))))))), enter h fun ts O P X h _ => ?_⟩
    try dsimp only [cxOf, Cx.nox, Cx.wish]
    
    obtain ⟨d, rfl, rfl, hd, p⟩ := h
    obtain ⟨t, b1, b2, ht, h1, h2, e⟩ := hd.isi (K := K)
    rw [e] at p
    show WS _ _ _ _ [.v d] _
    repeat walk_at "g"
    refine c_isi ht (.ty _) h1 ?_
    refine ⟨_, rfl, fun e => ?_, fun e => ?_⟩
    · subst e
      repeat walk_at "g"
      refine c_isi ht (.ty _) h2 ?_
      refine ⟨_, rfl, ?_⟩
      exact ⟨rfl, p⟩
    · subst e
      exact ⟨rfl, p⟩
theorem sc_law_due : FnScope ["_law_case", "_law_most", "_law_length", "_law_starts", "_law_kind", "_law_stages", "_law_modulus", "_law_number", ".0", "_law_one"] ["_law_case", "_law_most", "_law_length", "_law_starts"] (defScope (top 74)) := ⟨rfl, rfl, rfl, by decide +kernel, rfl, by decide +kernel, by decide +kernel⟩
theorem ok_law_due {P : Program} {w : World} {K : PySem.W.Frag} {mg : Str → Option Value} {base : Heap} (T : Tx K mg) (h_law_is_int : Fn P w K mg base 1 (He.fAd K ("_law_is_int", none)) ["_law_value"] (sp_l_isint K)) (h_law_round : Fn P w K mg base 2 (He.fAd K ("_law_round", none)) ["_law_kind", "_law_modulus", "_law_number", "_law_starts"] (sp_l_round K)) : Fn P w K mg base 3 (He.fAd K ("_law_due", none)) ["_law_case", "_law_most", "_law_length", "_law_starts"] (sp_l_due K) := by
  obtain ⟨_, F_law_is_int, b_law_is_int, kp_law_is_int, lk_law_is_int⟩ := h_law_is_int
  obtain ⟨_, F_law_round, b_law_round, kp_law_round, lk_law_round⟩ := h_law_round
  obtain ⟨fd, F⟩ := T.d_law_due
  refine ⟨fd, F.ok sc_law_due (lift_len ?_) (fun cdv A outer s H vs Q E hr h => ?_), F.bindsN fun _ _ _ _ _ _ us hl => (match us, hl with | [_, _, _, _], _ => rfl), F.kp, lk_of F⟩
  · intro ts O P X h
    exact sp_l_due_len h
  · have hu := hr.units
    refine ⟨_, (PSs.nox (pss_cons (ps_asg (pv 0) (pg_tupK K (n := 4) rfl (pgs_cons (pg_name (i := 4) sc_law_due.nd rfl (.inl rfl)) (pgs_cons (pg_name (i := 5) sc_law_due.nd rfl (.inl rfl)) (pgs_cons (pg_name (i := 6) sc_law_due.nd rfl (.inr rfl)) (pgs_cons (pg_name (i := 7) sc_law_due.nd rfl (.inl rfl)) pgs_nil))))))
    (pss_cons (ps_if (PW.pt (pw_or (pt_not (pt_val (pe_call F_law_is_int (hr.mono (by decide)) (by rfl) T.g__law_is_int kp_law_is_int b_law_is_int .nil passL (pa_cons (pv 2) pa_nil)))) (pw_or (pt_cmpR op_ne (pv 2) (pv 1) (nomark _)) (pw_or (pt_not (pt_val (pe_callB (call_isiK K) (by rfl) T.n_isinstance boot_isinstance (pa_cons (pv 3) (pa_cons (pe_bltn (v := .ty "tuple") (by rfl) T.n_tuple boot_tuple rfl) pa_nil))))) (pw_or1 (pt_cmpR op_ne (pe_callB (cr_lenK K) (by rfl) T.n_len boot_len (pa_cons (pv 3) pa_nil)) (pv 5) (nomark _)))))))
    (pss_one (ps_ret pe_bl))
    pss_nil)
    (pss_cons (ps_if (pt_cmpR (op_neDK K hu) (pe_lc (own := [(".0", 8), ("_law_one", 9)]) rfl sc_law_due.nd (pi_tupK K (pv 3)) (blkOk_by (own := [(".0", 8), ("_law_one", 9)]) (N := ["_law_case", "_law_most", "_law_length", "_law_starts", "_law_kind", "_law_stages", "_law_modulus", "_law_number", ".0", "_law_one"]) (sc := defScope (top 74)) (by decide +kernel)) (fun _ _ _ _ _ => (pg_name (i := 9) sc_law_due.nd rfl (.inl rfl))) (fun _ _ _ _ _ => (pts_one (PW.pt (pw_or (pt_not (pt_val (pe_call F_law_is_int (hr.mono (by decide)) (by rfl) T.g__law_is_int kp_law_is_int b_law_is_int .nil passL (pa_cons (pv 9) pa_nil)))) (pw_or1 (pt_not (pt_chain op_le op_lt pe_int (pv 9) (pv 6)))))))) (fun _ _ _ _ _ => (pv 9))) (pe_lst pa_nil) (nomark _))
    (pss_one (ps_ret pe_bl))
    pss_nil)
    (pss_one (ps_ret (pe_cmpR op_eq (pe_call F_law_round (hr.mono (by decide)) (by rfl) T.g__law_round kp_law_round b_law_round .nil passL (pa_cons (pv 4) (pa_cons (pv 6) (pa_cons (pv 7) (pa_cons (pe_callTy (cr_listK K) (by rfl) T.n_list boot_list (pa_cons (pv 3) pa_nil)) pa_nil))))) (pv 1) (nomark _)))))))), enter h fun ts O P X h _ => ?_⟩
    try dsimp only [cxOf, Cx.nox, Cx.wish]
    
    obtain ⟨l, n, x, M, L0, a, b, rfl, rfl, n1, n6, m2, m3, ha, hb, p⟩ := h
    show WS _ _ _ _ [.v (.tup [kd l, .int (n : Nat), .int (M : Nat), .int x]), .v (.int (L0 : Nat)), .v a, .v b, .no, .no, .no, .no, .no, .no] _
    refine s_seq ?_
    repeat walk_at "e"
    refine s_seq ?_
    repeat walk_at "e"
    refine ⟨a, rfl, rfl, ha, ⟨⟨_, rfl⟩, ?_⟩⟩
    cases hi : isI a with
    | false =>
      repeat walk_at "e"
      refine ⟨rfl, p false (iff_no fun ⟨_, _, e, _⟩ => ?_)⟩
      subst e
      cases hi
    | true =>
    obtain ⟨A, rfl⟩ := isI_iff.mp hi
    repeat walk_at "e"
    refine nbr (fun h => ?_) (fun h => ?_)
    · repeat walk_at "e"
      refine ⟨rfl, p false (iff_no fun ⟨_, _, e, _⟩ => h ?_)⟩
      injection e with e
    subst h
    repeat walk_at "e"
    rcases hb with ⟨ds, rfl, hl, hsv⟩ | hb
    case inr =>
      obtain ⟨t, ht, hk⟩ := hb.kit (K := K)
      refine c_isi ht (.ty _) hk ?_
      repeat walk_at "e"
      exact ⟨rfl, p false (iff_no fun ⟨_, _, _, e, _⟩ => hb.ne _ e)⟩
    refine c_isi (.tup _) (.ty _) (kit_ty (r := true) (by decide +kernel)) ?_
    repeat walk_at "e"
    refine nbr (fun h => ?_) (fun h => ?_)
    · repeat walk_at "e"
      refine ⟨rfl, p false (iff_no fun ⟨S, z, _, e, e2, _⟩ => h ?_)⟩
      injection e with e
      rw [e, nums_len, List.length_append, List.length_singleton, e2]
      omega
    repeat walk_at "e"
    try dsimp only
    refine s_seq ?_
    repeat walk_at "e"
    refine w_lcF1 ?_ (by decide)
    refine i_tup ?_
    repeat walk_at "e"
    rw [show itD ds = itD (ds.map id) by rw [List.map_id]]
    refine lcF_A ds id (fun d => !btB 0 ((M : Int) - 1) d) id (by omega) (fun d acc hd => ?_) ?_
    · have hs := hsv d hd
      refine g_name ?_
      repeat walk_at "e"
      dsimp only [id]
      refine ⟨d, rfl, rfl, hs, ⟨⟨_, rfl⟩, ?_⟩⟩
      cases hi2 : isI d with
      | false =>
        have hb : btB 0 ((M : Nat) - 1) d = false := by
          cases e : btB 0 ((M : Nat) - 1) d with
          | false => rfl
          | true =>
            obtain ⟨n, rfl, _⟩ := btB_iff.mp e
            cases hi2
        rw [hb]
        repeat walk_at "e"
        exact ⟨rfl, rfl, fun _ => (by repeat walk_at "e"; exact ⟨rfl, rfl⟩)⟩
      | true =>
      obtain ⟨y, rfl⟩ := isI_iff.mp hi2
      have hb : btB 0 ((M : Nat) - 1) (.int y) = (decide (0 ≤ y) && decide (y ≤ (M : Nat) - 1)) := rfl
      rw [hb]
      by_cases h1 : 0 ≤ y
      · by_cases h2 : y < (M : Int)
        · rw [decide_eq_true h1, decide_eq_true (show y ≤ (M : Int) - 1 by omega)]
          repeat walk_at "e"
          rw [decide_eq_true h1]
          refine ⟨fun _ => ?_, fun z => (by cases z)⟩
          repeat walk_at "e"
          rw [decide_eq_true h2]
          exact ⟨rfl, rfl, fun z => by cases z⟩
        · rw [decide_eq_true h1, decide_eq_false (show ¬ y ≤ (M : Int) - 1 by omega)]
          repeat walk_at "e"
          rw [decide_eq_true h1]
          refine ⟨fun _ => ?_, fun z => (by cases z)⟩
          repeat walk_at "e"
          rw [decide_eq_false h2]
          refine ⟨rfl, rfl, fun _ => ?_⟩
          repeat walk_at "e"
          exact ⟨rfl, rfl⟩
      · rw [decide_eq_false h1, Bool.false_and]
        repeat walk_at "e"
        rw [decide_eq_false h1]
        refine ⟨fun z => (by cases z), fun _ => ?_⟩
        repeat walk_at "e"
        refine ⟨rfl, fun _ => ?_⟩
        repeat walk_at "e"
        exact ⟨rfl, rfl⟩
    repeat walk_at "e"
    obtain ⟨os, hos⟩ : ∃ os, (ds.filter fun d => !btB 0 ((M : Int) - 1) d) = os := ⟨_, rfl⟩
    rw [List.map_id, hos]
    refine w_neD valD_v valD_v (Sv.pl60 fun x hx => hsv x (by rw [← hos] at hx; exact (List.mem_filter.mp hx).1)) pl_nilL ?_
    rw [eqD_nil]
    by_cases hz : os = []
    case neg =>
      rw [decide_eq_false hz]
      repeat walk_at "e"
      refine ⟨rfl, p false (iff_no fun ⟨S, z, _, e, _, h4, h5, h6, _⟩ => hz ?_)⟩
      injection e with e
      rw [← hos, List.filter_eq_nil_iff]
      intro y hy
      rw [e] at hy
      rw [bt_nums (lo := 0) (hi := (M : Int) - 1) (fun w hw => (by
        rcases List.mem_append.mp hw with hw | hw
        · have := h4 w hw
          omega
        · rw [List.mem_singleton.mp hw]
          omega)) y hy]
      decide
    rw [decide_eq_true hz]
    have hall : ∀ d ∈ ds, btB 0 ((M : Int) - 1) d = true := fun d hd => by
      rw [← hos, List.filter_eq_nil_iff] at hz
      have := hz d hd
      simpa using this
    obtain ⟨ns, rfl, hin⟩ := bt_all hall
    obtain ⟨S, z, rfl, hS⟩ := app_last (ns := ns) (n := n) (by rw [nums_len] at h; omega) n1
    have hin1 : ∀ y ∈ S, 0 ≤ y ∧ y < (M : Int) := fun y hy => by
      have := hin y (List.mem_append_left _ hy)
      omega
    have hz1 := hin z (List.mem_append_right _ List.mem_cons_self)
    clear hos hz hall hsv hin h
    repeat walk_at "e"
    try dsimp only
    repeat walk_at "e"
    refine ⟨l, M, x, S, z, (by unfold LN; rfl), rfl, m2, by omega, by omega, hin1, by omega, by omega, fun T hT => ⟨⟨_, rfl⟩, ?_⟩⟩
    repeat walk_at "e"
    refine ⟨rfl, p _ ?_⟩
    rw [decide_eq_true_iff]
    constructor
    · intro e
      obtain rfl : T = L0 := by omega
      exact ⟨S, z, rfl, rfl, hS, hin1, hz1.1, by omega, hT⟩
    · rintro ⟨S', z', _, e2, _, _, _, _, hT2⟩
      injection e2 with e2
      have e4 : S = S' := by
        have h1 := congrArg List.dropLast (numsI e2)
        rwa [List.dropLast_concat, List.dropLast_concat] at h1
      subst e4
      rw [hT.uniq hT2]
theorem sc_law_bent_starts : FnScope ["_law_pen_here", "_law_starts", "_law_modulus", "_law_way", "_law_at", "_law_odd"] ["_law_pen_here", "_law_starts", "_law_modulus"] (defScope (top 75)) := ⟨rfl, rfl, rfl, by decide +kernel, rfl, by decide +kernel, by decide +kernel⟩
theorem ok_law_bent_starts {P : Program} {w : World} {K : PySem.W.Frag} {mg : Str → Option Value} {base : Heap} (T : Tx K mg) (h_law_draw : Fn P w K mg base 1 (He.fAd K ("_law_draw", none)) ["_law_pen_here", "_law_many"] (sp_draw K)) (h_law_pick : Fn P w K mg base 2 (He.fAd K ("_law_pick", none)) ["_law_pen_here", "_law_some"] (sp_pick K)) : Fn P w K mg base 3 (He.fAd K ("_law_bent_starts", none)) ["_law_pen_here", "_law_starts", "_law_modulus"] (sp_l_bent K) := by
  obtain ⟨_, F_law_draw, b_law_draw, kp_law_draw, lk_law_draw⟩ := h_law_draw
  obtain ⟨_, F_law_pick, b_law_pick, kp_law_pick, lk_law_pick⟩ := h_law_pick
  obtain ⟨fd, F⟩ := T.d_law_bent_starts
  refine ⟨fd, F.ok sc_law_bent_starts (lift_len ?_) (fun cdv A outer s H vs Q E hr h => ?_), F.bindsN fun _ _ _ _ _ _ us hl => (match us, hl with | [_, _, _], _ => rfl), F.kp, lk_of F⟩
  · intro ts O P X h
    exact sp_l_bent_len h
  · have hu := hr.units
    refine ⟨_, (PSs.nox (pss_cons (ps_par (i := 3) (j := 4) rfl sc_law_bent_starts.nd rfl rfl (by decide) rfl rfl (pa_cons (pe_call F_law_draw (hr.mono (by decide)) (by rfl) T.g__law_draw kp_law_draw b_law_draw .nil passL (pa_cons (pv 0) (pa_cons pe_int pa_nil))) (pa_cons (pe_call F_law_draw (hr.mono (by decide)) (by rfl) T.g__law_draw kp_law_draw b_law_draw .nil passL (pa_cons (pv 0) (pa_cons (pe_callB (cr_lenK K) (by rfl) T.n_len boot_len (pa_cons (pv 1) pa_nil)) pa_nil))) pa_nil)) rfl)
    (pss_cons (ps_if (pt_cmpR op_lt (pv 3) pe_int (nomark _))
    (pss_one (ps_ret (pe_op (op_catAK K) (pe_op (op_catAK K) (pe_slice (sl_tupAK K) (pv 1) po_none (po_some (pv 4))) (pe_tup (pa_cons (pe_call F_law_draw (hr.mono (by decide)) (by rfl) T.g__law_draw kp_law_draw b_law_draw .nil passL (pa_cons (pv 0) (pa_cons (pv 2) pa_nil))) pa_nil))) (pe_slice (sl_tupAK K) (pv 1) (po_some (pe_op op_add (pv 4) pe_int)) po_none))))
    pss_nil)
    (pss_cons (ps_if (pt_cmpR op_eq (pv 3) pe_int (nomark _))
    (pss_cons (ps_set (i := 5) sc_law_bent_starts.nd rfl (.inl rfl) (pe_call F_law_pick (hr.mono (by decide)) (by rfl) T.g__law_pick kp_law_pick b_law_pick .nil passL (pa_cons (pv 0) (pa_cons (pe_lst (pa_cons pe_non (pa_cons pe_bl (pa_cons (pe_un un_neg pe_int) (pa_cons (pv 2) (pa_cons (pe_op op_add (pe_ix (ix_tupK K) (pv 1) (pv 4) (fun _ _ => rfl)) (pv 2)) (pa_cons pe_str (pa_cons (pe_op op_pow pe_int pe_int) pa_nil)))))))) pa_nil))))
    (pss_one (ps_ret (pe_op (op_catAK K) (pe_op (op_catAK K) (pe_slice (sl_tupAK K) (pv 1) po_none (po_some (pv 4))) (pe_tup (pa_cons (pv 5) pa_nil))) (pe_slice (sl_tupAK K) (pv 1) (po_some (pe_op op_add (pv 4) pe_int)) po_none)))))
    pss_nil)
    (pss_one (ps_ret (pe_call F_law_pick (hr.mono (by decide)) (by rfl) T.g__law_pick kp_law_pick b_law_pick .nil passL (pa_cons (pv 0) (pa_cons (pe_lst (pa_cons pe_non (pa_cons (pe_callTy (cr_listK K) (by rfl) T.n_list boot_list (pa_cons (pv 1) pa_nil)) (pa_cons (pe_op (op_catAK K) (pv 1) (pe_tup (pa_cons pe_int pa_nil))) (pa_cons (pe_slice (sl_tupAK K) (pv 1) (po_some pe_int) po_none) (pa_cons (pe_tup pa_nil) (pa_cons pe_int pa_nil))))))) pa_nil))))))))), enter h fun ts O P X h _ => ?_⟩
    try dsimp only [cxOf, Cx.nox, Cx.wish]
    
    obtain ⟨k0, p, ns, M, rfl, rfl, hp, hk0, l1, l6, hin, m2, m3, k⟩ := h
    have smv : ∀ x ∈ nums ns, Sv x := fun x hx => by
      obtain ⟨v, hv, rfl⟩ := List.mem_map.mp hx
      have := hin v hv
      exact sv_k (by omega)
    show WS _ _ _ _ [.own 0, .v (.tup (nums ns)), .v (.int (M : Nat)), .no, .no, .no] _
    refine s_seq ?_
    refine s_par ?_
    repeat walk_at "e"
    refine u_draw hp (by omega) (by decide) (by decide) fun p1 w hp1 w0 w1 => ⟨_, rfl, nno, ?_⟩
    repeat walk_at "e"
    rw [nums_len]
    refine u_draw hp1 (by omega) (by omega) (by omega) fun p2 a hp2 a0 a1 => ⟨_, rfl, nno, ?_⟩
    obtain ⟨v, hv, hv2⟩ := atI_nums (ns := ns) (i := a) a0 (by omega)
    have hvm := hin v (List.mem_of_getElem? hv2)
    have c1 : (cutD (nums ns) none (some a)).length ≤ 6 := by have := cutD_le (ds := nums ns) (a := none) (b := some a); rw [nums_len] at this; omega
    have c2 : (cutD (nums ns) (some (a + 1)) none).length ≤ 6 := by have := cutD_le (ds := nums ns) (a := some (a + 1)) (b := none); rw [nums_len] at this; omega
    repeat walk_at "e"
    refine s_seq ?_
    repeat walk_at "e"
    refine br (fun h => ?_) (fun h => ?_)
    · repeat walk_at "e"
      refine u_draw hp2 (by omega) (by omega) (by omega) fun p3 y hp3 y0 y1 => ⟨_, rfl, nno, ?_⟩
      repeat walk_at "e"
      refine w_catT (Nat.le_trans (show _ ≤ 10 by rw [List.length_singleton]; omega) (Nat.le_of_ble_eq_true rfl)) ?_
      repeat walk_at "e"
      refine w_catT (Nat.le_trans (show _ ≤ 20 by rw [List.length_append, List.length_singleton]; omega) (Nat.le_of_ble_eq_true rfl)) ?_
      refine ⟨rfl, k _ _ (hp3.mono (by omega)) (.inl ⟨_, rfl, by rw [List.length_append, List.length_append, List.length_singleton]; omega, fun z hz => ?_⟩)⟩
      rcases List.mem_append.mp hz with hz | hz
      · rcases List.mem_append.mp hz with hz | hz
        · exact smv z (cutD_mem z hz)
        · rw [List.mem_singleton.mp hz]
          exact sv_k (by omega)
      · exact smv z (cutD_mem z hz)
    repeat walk_at "e"
    refine s_seq ?_
    repeat walk_at "e"
    refine br (fun h2 => ?_) (fun h2 => ?_)
    · repeat walk_at "e"
      refine s_seq ?_
      repeat walk_at "e"
      refine u_pick hp2 (by omega) (Nat.le_of_ble_eq_true rfl) (Nat.le_of_ble_eq_true rfl) fun p3 j y hp3 hy => ⟨_, rfl, nno, ?_⟩
      have hy : Sv y := (all_c (sv_lit svB_non) (all_c (sv_lit svB_tr) (all_c (sv_k (by decide)) (all_c (sv_k (by omega)) (all_c (sv_k (by omega)) (all_c (sv_lit svB_0) (all_c (sv_k (by decide)) all_n))))))) y (List.mem_of_getElem? hy)
      repeat walk_at "e"
      refine w_catT (Nat.le_trans (show _ ≤ 10 by rw [List.length_singleton]; omega) (Nat.le_of_ble_eq_true rfl)) ?_
      repeat walk_at "e"
      refine w_catT (Nat.le_trans (show _ ≤ 20 by rw [List.length_append, List.length_singleton]; omega) (Nat.le_of_ble_eq_true rfl)) ?_
      refine ⟨rfl, k _ _ (hp3.mono (by omega)) (.inl ⟨_, rfl, by rw [List.length_append, List.length_append, List.length_singleton]; omega, fun z hz => ?_⟩)⟩
      rcases List.mem_append.mp hz with hz | hz
      · rcases List.mem_append.mp hz with hz | hz
        · exact smv z (cutD_mem z hz)
        · rw [List.mem_singleton.mp hz]
          exact hy
      · exact smv z (cutD_mem z hz)
    repeat walk_at "e"
    refine w_catT (Nat.le_trans (show _ ≤ 20 by rw [nums_len]; show ns.length + 1 ≤ 20; omega) (Nat.le_of_ble_eq_true rfl)) ?_
    repeat walk_at "e"
    refine u_pick hp2 (by omega) (Nat.le_of_ble_eq_true rfl) (Nat.le_of_ble_eq_true rfl) fun p3 j y hp3 hy => ⟨_, rfl, nno, ?_⟩
    have hy : StV y := (all_c (Q := StV) (.inr (.inl rfl)) (all_c (.inr (.inr (.inl ⟨_, rfl⟩))) (all_c (.inl ⟨_, rfl, by rw [List.length_append, nums_len]; show ns.length + 1 ≤ 20; omega, fun z hz => (List.mem_append.mp hz).elim (smv z) fun h => by rw [List.mem_singleton.mp h]; exact sv_k (by decide)⟩) (all_c (.inl ⟨_, rfl, Nat.le_trans cutD_le (by rw [nums_len]; omega), fun z hz => smv z (cutD_mem z hz)⟩) (all_c (.inl ⟨_, rfl, by decide, all_n⟩) (all_c (.inr (.inr (.inr ⟨_, rfl⟩))) all_n)))))) y (List.mem_of_getElem? hy)
    exact ⟨rfl, k _ _ (hp3.mono (by omega)) hy⟩
theorem sc_law_right : FnScope ["_law_pen_here", "_law_kind", "_law_stages", "_law_modulus", "_law_number", "_law_chain_here", "_law_case", "_law_some", "_law_rounds", "_law_most", "_law_told", "_law_turn", "_law_length", "_law_starts", "_law_value", "_law_odd", ".0", "_law_one", "_law_stage"] ["_law_pen_here"] (defScope (top 76)) := ⟨rfl, rfl, rfl, by decide +kernel, rfl, by decide +kernel, by decide +kernel⟩
theorem ok_law_right {P : Program} {w : World} {K : PySem.W.Frag} {mg : Str → Option Value} {base : Heap} (T : Tx K mg) (h_law_draw : Fn P w K mg base 1 (He.fAd K ("_law_draw", none)) ["_law_pen_here", "_law_many"] (sp_draw K)) (h_law_pick : Fn P w K mg base 2 (He.fAd K ("_law_pick", none)) ["_law_pen_here", "_law_some"] (sp_pick K)) (h_law_chain : Fn P w K mg base 6 (He.fAd K ("_law_chain", none)) ["_law_kind", "_law_stages", "_law_modulus"] (sp_l_chain K)) (h_law_all : Fn P w K mg base 1 (He.fAd K ("_law_all", none)) ["_law_modulus", "_law_many"] (sp_l_all K)) (h_law_round : Fn P w K mg base 2 (He.fAd K ("_law_round", none)) ["_law_kind", "_law_modulus", "_law_number", "_law_starts"] (sp_l_round K)) (h_longest : Fn P w K mg base 5 (He.fAd K ("longest", none)) ["chain", "number"] (sp_st_lg K)) (h_shows_longest : Fn P w K mg base 8 (He.fAd K ("shows_longest", none)) ["chain", "number", "value"] (sp_l_shl K)) (h_law_bent_starts : Fn P w K mg base 3 (He.fAd K ("_law_bent_starts", none)) ["_law_pen_here", "_law_starts", "_law_modulus"] (sp_l_bent K)) (h_LongestU_initU : Fn P w K mg base 1 (He.fAd K ("Longest", some "__init__")) ["self", "length", "starts"] (sp_Lg_init K)) (h_law_due : Fn P w K mg base 3 (He.fAd K ("_law_due", none)) ["_law_case", "_law_most", "_law_length", "_law_starts"] (sp_l_due K)) (h_ShortestU_initU : Fn P w K mg base 1 (He.fAd K ("Shortest", some "__init__")) ["self", "length", "starts", "bars"] (sp_Sh_init K)) : FnG P w K mg base 9 (He.fAd K ("_law_right", none)) 1 (sp_l_right K) := by
  obtain ⟨_, F_law_draw, b_law_draw, kp_law_draw, lk_law_draw⟩ := h_law_draw
  obtain ⟨_, F_law_pick, b_law_pick, kp_law_pick, lk_law_pick⟩ := h_law_pick
  obtain ⟨_, F_law_chain, b_law_chain, kp_law_chain, lk_law_chain⟩ := h_law_chain
  obtain ⟨_, F_law_all, b_law_all, kp_law_all, lk_law_all⟩ := h_law_all
  obtain ⟨_, F_law_round, b_law_round, kp_law_round, lk_law_round⟩ := h_law_round
  obtain ⟨_, F_longest, b_longest, kp_longest, lk_longest⟩ := h_longest
  obtain ⟨_, F_shows_longest, b_shows_longest, kp_shows_longest, lk_shows_longest⟩ := h_shows_longest
  obtain ⟨_, FK_shows_longest⟩ := T.d_shows_longest
  have kw_shows_longest := kwB (ps := ["chain", "number", "value"]) FK_shows_longest lk_shows_longest fun _ _ _ _ _ _ ws hl => (match ws, hl with | [_, _, _], _ => rfl)
  obtain ⟨_, F_law_bent_starts, b_law_bent_starts, kp_law_bent_starts, lk_law_bent_starts⟩ := h_law_bent_starts
  obtain ⟨_, F_LongestU_initU, b_LongestU_initU, kp_LongestU_initU, lk_LongestU_initU⟩ := h_LongestU_initU
  obtain ⟨_, F_law_due, b_law_due, kp_law_due, lk_law_due⟩ := h_law_due
  obtain ⟨_, F_ShortestU_initU, b_ShortestU_initU, kp_ShortestU_initU, lk_ShortestU_initU⟩ := h_ShortestU_initU
  have kr_shows_longest := kwR (ps := ["chain", "number", "value"]) FK_shows_longest lk_shows_longest fun _ _ _ _ _ _ ws hl => (match ws, hl with | [_, _, _], _ => rfl)
  obtain ⟨fd, F⟩ := T.d_law_right
  have hc_Longest := T.cl_Longest
  have hn_Longest_length := T.na_Longest_length
  have hc_Longest := T.cl_Longest
  have hn_Longest_starts := T.na_Longest_starts
  refine fnG (ps := ["_law_pen_here"]) F sc_law_right (lift_len ?_) (F.bindsN fun _ _ _ _ _ _ us hl => (match us, hl with | [_], _ => rfl)) (fun cdv A outer s H vs Q E hgd hr h => ?_)
  · intro ts O P X h
    exact sp_l_right_len h
  · have hu := hr.units
    refine ⟨_, (PSs.nox (pss_cons (ps_asg (pe_tup (pa_cons (pe_call F_law_pick (hr.mono (by decide)) (by rfl) T.g__law_pick kp_law_pick b_law_pick .nil passL (pa_cons (pv 0) (pa_cons (pe_lst (pa_cons pe_str (pa_cons pe_str pa_nil))) pa_nil))) (pa_cons (pe_op op_add pe_int (pe_call F_law_draw (hr.mono (by decide)) (by rfl) T.g__law_draw kp_law_draw b_law_draw .nil passL (pa_cons (pv 0) (pa_cons pe_int pa_nil)))) pa_nil))) (pg_tupK K (n := 2) rfl (pgs_cons (pg_name (i := 1) sc_law_right.nd rfl (.inr rfl)) (pgs_cons (pg_name (i := 2) sc_law_right.nd rfl (.inl rfl)) pgs_nil))))
    (pss_cons (ps_set (i := 3) sc_law_right.nd rfl (.inr rfl) (pe_op op_add pe_int (pe_call F_law_draw (hr.mono (by decide)) (by rfl) T.g__law_draw kp_law_draw b_law_draw .nil passL (pa_cons (pv 0) (pa_cons (pe_ix (ix_listK K) (pe_lst (pa_cons pe_int (pa_cons pe_int (pa_cons pe_int pa_nil)))) (pe_op op_sub (pv 2) pe_int) (fun _ _ => rfl)) pa_nil)))))
    (pss_cons (ps_set (i := 4) sc_law_right.nd rfl (.inr rfl) (pe_call F_law_pick (hr.mono (by decide)) (by rfl) T.g__law_pick kp_law_pick b_law_pick .nil passL (pa_cons (pv 0) (pa_cons (pe_lst (pa_cons pe_int (pa_cons pe_int (pa_cons (pe_op op_sub (pv 3) pe_int) (pa_cons (pe_op op_fdivW (pv 3) pe_int) (pa_cons (pe_call F_law_draw (hr.mono (by decide)) (by rfl) T.g__law_draw kp_law_draw b_law_draw .nil passL (pa_cons (pv 0) (pa_cons (pv 3) pa_nil))) pa_nil)))))) pa_nil))))
    (pss_cons (ps_par (i := 5) (j := 6) rfl sc_law_right.nd rfl rfl (by decide) rfl rfl (pa_cons (pe_call F_law_chain (hr.mono (by decide)) (by rfl) T.g__law_chain kp_law_chain b_law_chain .nil passL (pa_cons (pv 1) (pa_cons (pv 2) (pa_cons (pv 3) pa_nil)))) (pa_cons (pe_tup (pa_cons (pv 1) (pa_cons (pv 2) (pa_cons (pv 3) (pa_cons (pv 4) pa_nil))))) pa_nil)) rfl)
    (pss_cons (ps_setLc (i := 8) (own := [(".0", 16), ("_law_some", 7)]) rfl sc_law_right.nd rfl rfl (sw_true rfl rfl rfl (by decide +kernel)) (pi_listK K (pe_call F_law_all (hr.mono (by decide)) (by rfl) T.g__law_all kp_law_all b_law_all .nil passL (pa_cons (pv 3) (pa_cons (pe_op op_sub (pv 2) pe_int) pa_nil)))) (blkOk_by (own := [(".0", 16), ("_law_some", 7)]) (N := ["_law_pen_here", "_law_kind", "_law_stages", "_law_modulus", "_law_number", "_law_chain_here", "_law_case", "_law_some", "_law_rounds", "_law_most", "_law_told", "_law_turn", "_law_length", "_law_starts", "_law_value", "_law_odd", ".0", "_law_one", "_law_stage"]) (sc := defScope (top 76)) (by decide +kernel)) (fun _ _ _ _ _ => (pg_name (i := 7) sc_law_right.nd rfl (.inl rfl))) (fun _ _ _ _ _ => pts_nil) (fun _ _ _ _ _ => (pe_call F_law_round (hr.mono (by decide)) (by rfl) T.g__law_round kp_law_round b_law_round .nil passL (pa_cons (pv 1) (pa_cons (pv 3) (pa_cons (pv 4) (pa_cons (pe_op op_cat (pv 7) (pe_lst (pa_cons pe_int pa_nil))) pa_nil)))))))
    (pss_cons (ps_par (i := 9) (j := 10) rfl sc_law_right.nd rfl rfl (by decide) rfl rfl (pa_cons (pe_callB (cr_mostK K rfl) (by rfl) T.n_max boot_max (pa_cons (pe_lc (own := [(".0", 16), ("_law_one", 17)]) rfl sc_law_right.nd (pi_listK K (pv 8)) (blkOk_by (own := [(".0", 16), ("_law_one", 17)]) (N := ["_law_pen_here", "_law_kind", "_law_stages", "_law_modulus", "_law_number", "_law_chain_here", "_law_case", "_law_some", "_law_rounds", "_law_most", "_law_told", "_law_turn", "_law_length", "_law_starts", "_law_value", "_law_odd", ".0", "_law_one", "_law_stage"]) (sc := defScope (top 76)) (by decide +kernel)) (fun _ _ _ _ _ => (pg_name (i := 17) sc_law_right.nd rfl (.inl rfl))) (fun _ _ _ _ _ => pts_nil) (fun _ _ _ _ _ => (pe_callTy call_int1 (by rfl) T.n_int boot_int (pa_cons (pv 17) pa_nil)))) pa_nil)) (pa_cons (pe_call F_longest (hr.mono (by decide)) (by rfl) T.g_longest kp_longest b_longest .nil passL (pa_cons (pv 5) (pa_cons (pv 4) pa_nil))) pa_nil)) rfl)
    (pss_cons (ps_if (pt_cmpR op_notBl (pe_call F_shows_longest (hr.mono (by decide)) (by rfl) T.g_shows_longest kp_shows_longest b_shows_longest .nil passL (pa_cons (pv 5) (pa_cons (pv 4) (pa_cons (pv 10) pa_nil)))) pe_bl (nomark _))
    (pss_one (ps_ret pe_bl))
    pss_nil)
    (pss_cons (ps_for PassesOwn.never rfl (pi_range1 (by rfl) T.n_range (pa_cons pe_int pa_nil)) (pg_name (i := 11) sc_law_right.nd rfl (.inl rfl))
    (pss_cons (ps_par (i := 12) (j := 13) rfl sc_law_right.nd rfl rfl (by decide) rfl rfl (pa_cons (pe_fldK K (pv 10)) (pa_cons (pe_fldK K (pv 10)) pa_nil)) rfl)
    (pss_cons (ps_if (pt_cmpR op_eq (pe_call F_law_draw (hr.mono (by decide)) (by rfl) T.g__law_draw kp_law_draw b_law_draw .nil passL (pa_cons (pv 0) (pa_cons pe_int pa_nil))) pe_int (nomark _))
    (pss_cons (ps_set (i := 7) sc_law_right.nd rfl (.inl rfl) (pe_lst (pa_cons (pe_op op_mul (pv 9) pe_int) (pa_cons (pe_op op_mul (pv 9) pe_int) (pa_cons (pe_op op_sub (pv 9) pe_int) (pa_cons pe_int (pa_cons (pv 3) (pa_cons pe_non (pa_cons pe_bl (pa_cons (pe_callTy call_str_int (by rfl) T.n_str boot_str (pa_cons (pv 9) pa_nil)) (pa_cons pe_int (pa_cons (pe_un un_neg (pv 9)) (pa_cons (pe_op op_pow pe_int pe_int) pa_nil)))))))))))))
    (pss_one (ps_set (i := 12) sc_law_right.nd rfl (.inl rfl) (pe_call F_law_pick (hr.mono (by decide)) (by rfl) T.g__law_pick kp_law_pick b_law_pick .nil passL (pa_cons (pv 0) (pa_cons (pv 7) pa_nil))))))
    pss_nil)
    (pss_cons (ps_if (pt_cmpR op_gt (pe_call F_law_draw (hr.mono (by decide)) (by rfl) T.g__law_draw kp_law_draw b_law_draw .nil passL (pa_cons (pv 0) (pa_cons pe_int pa_nil))) pe_int (nomark _))
    (pss_one (ps_set (i := 13) sc_law_right.nd rfl (.inl rfl) (pe_call F_law_bent_starts (hr.mono (by decide)) (by rfl) T.g__law_bent_starts kp_law_bent_starts b_law_bent_starts .nil passL (pa_cons (pv 0) (pa_cons (pv 13) (pa_cons (pv 3) pa_nil))))))
    pss_nil)
    (pss_cons (ps_set (i := 14) sc_law_right.nd rfl (.inl rfl) (pe_make T.mk_Longest F_LongestU_initU (hr.mono (by decide)) (by rfl) T.g_Longest b_LongestU_initU .nil passL (pa_cons (pv 12) (pa_cons (pv 13) pa_nil))))
    (pss_one (ps_if (pt_cmpR op_ne (pe_callB (call_reprG hgd hr K) (by rfl) T.n_repr boot_repr (pa_cons (pe_callKn F_shows_longest (hr.mono (by decide)) (by rfl) T.g_shows_longest kp_shows_longest kr_shows_longest passL (pk_cons (pv 14) (pk_cons (pv 4) (pk_cons (pv 5) pk_nil)))) pa_nil)) (pe_callB (call_reprG hgd hr K) (by rfl) T.n_repr boot_repr (pa_cons (pe_call F_law_due (hr.mono (by decide)) (by rfl) T.g__law_due kp_law_due b_law_due .nil passL (pa_cons (pv 6) (pa_cons (pv 9) (pa_cons (pv 12) (pa_cons (pv 13) pa_nil))))) pa_nil)) (nomark _))
    (pss_one (ps_ret pe_bl))
    pss_nil)))))))
    (pss_cons (ps_setLc (i := 7) (own := [(".0", 16), ("_law_stage", 18)]) rfl sc_law_right.nd rfl rfl (sw_true rfl rfl rfl (by decide +kernel)) (pi_range1 (by rfl) T.n_range (pa_cons (pv 2) pa_nil)) (blkOk_by (own := [(".0", 16), ("_law_stage", 18)]) (N := ["_law_pen_here", "_law_kind", "_law_stages", "_law_modulus", "_law_number", "_law_chain_here", "_law_case", "_law_some", "_law_rounds", "_law_most", "_law_told", "_law_turn", "_law_length", "_law_starts", "_law_value", "_law_odd", ".0", "_law_one", "_law_stage"]) (sc := defScope (top 76)) (by decide +kernel)) (fun _ _ _ _ _ => (pg_name (i := 18) sc_law_right.nd rfl (.inl rfl))) (fun _ _ _ _ _ => pts_nil) (fun _ _ _ _ _ => (pe_call F_law_draw (hr.mono (by decide)) (by rfl) T.g__law_draw kp_law_draw b_law_draw .nil passL (pa_cons (pv 0) (pa_cons (pv 3) pa_nil)))))
    (pss_cons (ps_set (i := 12) sc_law_right.nd rfl (.inl rfl) (pe_call F_law_round (hr.mono (by decide)) (by rfl) T.g__law_round kp_law_round b_law_round .nil passL (pa_cons (pv 1) (pa_cons (pv 3) (pa_cons (pv 4) (pa_cons (pv 7) pa_nil))))))
    (pss_cons (ps_if (pt_cmpR op_ne (pe_call F_shows_longest (hr.mono (by decide)) (by rfl) T.g_shows_longest kp_shows_longest b_shows_longest .nil passL (pa_cons (pv 5) (pa_cons (pv 4) (pa_cons (pe_make T.mk_Longest F_LongestU_initU (hr.mono (by decide)) (by rfl) T.g_Longest b_LongestU_initU .nil passL (pa_cons (pv 12) (pa_cons (pe_callTy (cr_tupK K) (by rfl) T.n_tuple boot_tuple (pa_cons (pv 7) pa_nil)) pa_nil))) pa_nil)))) (pe_cmpR op_eq (pv 12) (pv 9) (nomark _)) (nomark _))
    (pss_one (ps_ret pe_bl))
    pss_nil)
    (pss_cons (ps_set (i := 15) sc_law_right.nd rfl (.inl rfl) (pe_call F_law_pick (hr.mono (by decide)) (by rfl) T.g__law_pick kp_law_pick b_law_pick .nil passL (pa_cons (pv 0) (pa_cons (pe_lst (pa_cons pe_non (pa_cons pe_int (pa_cons (pv 9) (pa_cons (pe_tup (pa_cons (pv 9) (pa_cons (pe_fldK K (pv 10)) pa_nil))) (pa_cons pe_dnewK (pa_cons (pv 5) (pa_cons (pe_make T.mk_Shortest F_ShortestU_initU (hr.mono (by decide)) (by rfl) T.g_Shortest b_ShortestU_initU .nil passL (pa_cons (pv 9) (pa_cons (pe_fldK K (pv 10)) (pa_cons (pe_tup pa_nil) pa_nil)))) pa_nil)))))))) pa_nil))))
    (pss_one (ps_ret (pe_cmpR op_isBl (pe_call F_shows_longest (hr.mono (by decide)) (by rfl) T.g_shows_longest kp_shows_longest b_shows_longest .nil passL (pa_cons (pv 5) (pa_cons (pv 4) (pa_cons (pv 15) pa_nil)))) pe_bl (nomark _))))))))))))))))), enter h fun ts O P X h _ => ?_⟩
    try dsimp only [cxOf, Cx.nox, Cx.wish]
    
    obtain ⟨k0, p, rfl, rfl, hp, hk0, k⟩ := h
    show WS _ _ _ _ [.own 0, .no, .no, .no, .no, .no, .no, .no, .no, .no, .no, .no, .no, .no, .no, .no, .no, .no, .no] _
    refine s_seq ?_
    repeat walk_at "e"
    refine u_pick hp (by omega) (Nat.le_of_ble_eq_true rfl) (Nat.le_of_ble_eq_true rfl) fun p1 j d hp1 hd => ⟨_, rfl, nno, ?_⟩
    obtain ⟨l, rfl⟩ := kind_ok hd
    repeat walk_at "e"
    refine u_draw hp1 (by omega) (by decide) (by decide) fun p2 r hp2 r0 r1 => ⟨_, rfl, nno, ?_⟩
    repeat walk_at "e"
    obtain ⟨n, hn⟩ : ∃ n : Nat, 1 + r = (n : Int) := ⟨(1 + r).toNat, by omega⟩
    have n1 : 1 ≤ n := by omega
    have n3 : n ≤ 3 := by omega
    rw [hn]
    refine s_seq ?_
    repeat walk_at "e"
    obtain ⟨y, hy, y1, y2, yp⟩ : ∃ y : Nat, atI ([D.int 30, D.int 14, D.int 5]) ((n : Int) - 1) = some (D.int (y : Nat)) ∧ 1 ≤ y ∧ y ≤ 40 ∧ (y + 1) ^ (n - 1) ≤ 1000 := by
      rcases (show n = 1 ∨ n = 2 ∨ n = 3 by omega) with z | z | z <;> rw [z]
      · exact ⟨30, (by rw [show ((1 : Nat) : Int) - 1 = ((0 : Nat) : Int) from rfl]; exact atI_nat rfl), by decide, by decide, by decide⟩
      · exact ⟨14, (by rw [show ((2 : Nat) : Int) - 1 = ((1 : Nat) : Int) from rfl]; exact atI_nat rfl), by decide, by decide, by decide⟩
      · exact ⟨5, (by rw [show ((3 : Nat) : Int) - 1 = ((2 : Nat) : Int) from rfl]; exact atI_nat rfl), by decide, by decide, by decide⟩
    refine w_ixL lstD_v hy ?_
    repeat walk_at "e"
    refine u_draw hp2 (by omega) (by omega) (by omega) fun p3 r3 hp3 r30 r31 => ⟨_, rfl, nno, ?_⟩
    obtain ⟨M, hM⟩ : ∃ M : Nat, 2 + r3 = (M : Int) := ⟨(2 + r3).toNat, by omega⟩
    have m2 : 2 ≤ M := by omega
    have m3 : M ≤ 41 := by omega
    have mw : M ^ (n - 1) ≤ 1000 := Nat.le_trans (Nat.pow_le_pow_left (show M ≤ y + 1 by omega) (n - 1)) yp
    repeat walk_at "e"
    rw [hM]
    refine s_seq ?_
    repeat walk_at "e"
    refine u_draw hp3 (by omega) (by omega) (by omega) fun p4 r4 hp4 r40 r41 => ⟨_, rfl, nno, ?_⟩
    repeat walk_at "e"
    refine u_pick hp4 (by omega) (Nat.le_of_ble_eq_true rfl) (Nat.le_of_ble_eq_true rfl) fun p5 j5 d5 hp5 hd5 => ⟨_, rfl, nno, ?_⟩
    obtain ⟨x, rfl, x0, x1⟩ : ∃ x : Int, d5 = .int x ∧ 0 ≤ x ∧ x < M := by
      rcases List.mem_cons.mp (List.mem_of_getElem? hd5) with rfl | h
      · exact ⟨0, rfl, by omega, by omega⟩
      rcases List.mem_cons.mp h with rfl | h
      · exact ⟨1, rfl, by omega, by omega⟩
      rcases List.mem_cons.mp h with rfl | h
      · exact ⟨_, rfl, by omega, by omega⟩
      rcases List.mem_cons.mp h with rfl | h
      · exact ⟨_, rfl, by omega, by omega⟩
      · cases List.mem_singleton.mp h
        exact ⟨_, rfl, by omega, by omega⟩
    repeat walk_at "e"
    
    refine s_seq ?_
    refine s_par ?_
    repeat walk_at "e"
    refine ⟨l, n, (M : Int), rfl, rfl, n1, by omega, by omega, by omega, ⟨⟨_, rfl⟩, ?_⟩⟩
    repeat walk_at "e"
    refine s_seq ?_
    refine s_set ?_
    refine w_lc1 ?_ (by decide)
    refine i_list ?_
    repeat walk_at "e"
    rw [show ((n : Nat) : Int) - 1 = ((n - 1 : Nat) : Int) by omega]
    refine ⟨M, n - 1, rfl, rfl, by omega, by omega, by omega, mw, ⟨⟨_, rfl⟩, ?_⟩⟩
    repeat walk_at "e"
    refine lc_A (La.allT M (n - 1)) LN (fun v => .int (lpN M (My.cfL l x v) : Nat)) (by rw [La.allT_len]; omega) (fun v acc hv => ?_) ?_
    · have vlen := (La.allT_mem.mp hv).1
      refine g_name ?_
      repeat walk_at "e"
      unfold LN
      refine w_catL lstD_v lstD_v (by rw [nums_len]; show v.length + 1 ≤ 1000000; omega) ?_
      rw [show nums v ++ [.int 0] = nums (v ++ [0]) from nums_app]
      repeat walk_at "e"
      refine ⟨l, M, x, v, 0, rfl, rfl, m2, by omega, by omega, (La.allT_mem.mp hv).2, by omega, by omega, fun T hT => ⟨⟨_, rfl⟩, ?_⟩⟩
      rw [lpN_eq hT]
      repeat walk_at "e"
      exact ⟨rfl, rfl⟩
    repeat walk_at "e"
    rw [rnd_D]
    have hrl : (rndL l M n x).length ≤ 1000 := by rw [rnd_len]; exact mw
    have hrp : 0 < (rndL l M n x).length := by rw [rnd_len]; exact Nat.pow_pos (by omega)
    refine s_seq ?_
    refine s_par ?_
    repeat walk_at "e"
    refine w_lc1 ?_ (by decide)
    refine i_list ?_
    repeat walk_at "e"
    refine lc_A (rndL l M n x) D.int D.int (by omega) (fun z acc hz => ?_) ?_
    · refine g_name ?_
      repeat walk_at "e"
      exact ⟨rfl, rfl⟩
    repeat walk_at "e"
    refine c_most lstD_v hrp fun m hm hmx => ?_
    repeat walk_at "e"
    refine ⟨l, n, M, x, rfl, rfl, n1, by omega, m2, by omega, x0, x1, fun L S ho => ⟨⟨_, rfl⟩, ?_⟩⟩
    have hlp := ho.lp n1 (show n ≤ 6 by omega) (show 1 ≤ M by omega)
    have L1 := hlp.1.1
    have hmL := rnd_most n1 (show n ≤ 6 by omega) (show 1 ≤ M by omega) ho hm hmx
    subst hmL
    have hbd := isLp_bd (show 1 ≤ M by omega) (by rw [My.cfL_len, ho.len]; omega) hlp.1
    have due0 : DueL l n x M (.int (L : Nat)) (.tup (nums (S ++ [0]))) := ⟨L, S, 0, rfl, rfl, ho.len, ho.inr, by omega, by omega, hlp.1, hlp.2⟩
    have hSl : (S ++ [0]).length = n := by rw [List.length_append, ho.len, List.length_singleton]; omega
    have hSr : ∀ y ∈ S ++ [0], 0 ≤ y ∧ y < (M : Int) := fun y hy => by
      rcases List.mem_append.mp hy with hy | hy
      · exact ho.inr y hy
      · rw [List.mem_singleton.mp hy]; omega
    have sva : Sv (.int (L : Nat)) := sv_k (by omega)
    have stb : StV (.tup (nums (S ++ [0]))) := .inl ⟨_, rfl, by rw [nums_len]; omega, fun d hd => (by
      obtain ⟨v, hv, rfl⟩ := List.mem_map.mp hd
      have := hSr v hv
      exact sv_k (by omega))⟩
    clear hm hmx
    repeat walk_at "e"
    refine s_seq ?_
    repeat walk_at "e"
    refine ⟨l, n, M, x, _, rfl, rfl, n1, by omega, m2, by omega, x0, x1, .inr ⟨_, _, rfl, sva, stb, fun r hr => ⟨⟨_, rfl⟩, ?_⟩⟩⟩
    rw [hr.mpr due0]
    repeat walk_at "e"
    refine w_notBl ?_
    rw [decide_eq_true rfl]
    repeat walk_at "e"
    try dsimp only
    refine s_seq ?_
    refine s_forE ?_
    refine i_rng1 ?_
    repeat walk_at "e"
    refine ⟨by decide, ?_⟩
    refine for_R1 (n := 6) (fun i ts' O' => ∃ (q : List D) (y1 y2 y3 y4 y5 : G.T), Pen (k0 + 10 + 8 * i) q ∧ O' = [.lst q] ∧ ts' = [.own 0, .v (kd l), .v (.int (n : Nat)), .v (.int (M : Nat)), .v (.int x), .v (chD (chC K l) (n : Nat) (M : Nat)), .v (.tup [kd l, .int (n : Nat), .int (M : Nat), .int x]), y4, .v (.lst ((rndL l M n x).map D.int)), .v (.int (L : Nat)), .v (lgD K (.int (L : Nat)) (.tup (nums (S ++ [0])))), y1, y2, y3, y5, .no, .no, .no, .no]) ⟨_, _, _, _, _, _, hp5.mono (by omega), rfl, rfl⟩ ?_ ?_
    · rintro i _ _ hi ⟨q, y1, y2, y3, y4, y5, hq, rfl, rfl⟩
      refine g_name ?_
      refine s_seq ?_
      refine s_par ?_
      repeat walk_at "e"
      refine s_cut (fun ts' O' => ∃ (q : List D) (a : D) (y4 : G.T), Pen (k0 + 12 + 8 * i) q ∧ Sv a ∧ O' = [.lst q] ∧ ts' = [.own 0, .v (kd l), .v (.int (n : Nat)), .v (.int (M : Nat)), .v (.int x), .v (chD (chC K l) (n : Nat) (M : Nat)), .v (.tup [kd l, .int (n : Nat), .int (M : Nat), .int x]), y4, .v (.lst ((rndL l M n x).map D.int)), .v (.int (L : Nat)), .v (lgD K (.int (L : Nat)) (.tup (nums (S ++ [0])))), .v (.int (i : Nat)), .v a, .v (.tup (nums (S ++ [0]))), y5, .no, .no, .no, .no]) ?_ ?_
      · try dsimp only
        refine s_if ?_
        repeat walk_at "e"
        refine u_draw hq (by omega) (by decide) (by decide) fun q1 z hq1 z0 z1 => ⟨_, rfl, nno, ?_⟩
        repeat walk_at "e"
        refine br (fun h0 => ?_) (fun h0 => ?_)
        · repeat walk_at "e"
          refine s_seq ?_
          repeat walk_at "e"
          refine c_strI (sm_1920 (by unfold Sm; omega)) ?_
          repeat walk_at "e"
          refine u_pick hq1 (by omega) (Nat.le_of_ble_eq_true rfl) (Nat.le_of_ble_eq_true rfl) fun q2 j a hq2 ha => ⟨_, rfl, nno, ?_⟩
          have ha : Sv a := (all_c (sv_k (by omega)) (all_c (sv_k (by omega)) (all_c (sv_k (by omega)) (all_c (sv_k (by decide)) (all_c (sv_k (by omega)) (all_c (sv_lit svB_non) (all_c (sv_lit svB_tr) (all_c (sv_text (by unfold Sm; omega)) (all_c (sv_k (by decide)) (all_c (sv_k (by omega)) (all_c (sv_k (by decide)) all_n))))))))))) a (List.mem_of_getElem? ha)
          repeat walk_at "e"
          exact ⟨_, _, _, hq2.mono (by omega), ha, rfl, rfl⟩
        · repeat walk_at "e"
          exact ⟨_, _, _, hq1.mono (by omega), sva, rfl, rfl⟩
      rintro _ _ ⟨q1, a, z4, hq1, ha, rfl, rfl⟩
      refine s_cut (fun ts' O' => ∃ (q : List D) (b : D), Pen (k0 + 17 + 8 * i) q ∧ StV b ∧ O' = [.lst q] ∧ ts' = [.own 0, .v (kd l), .v (.int (n : Nat)), .v (.int (M : Nat)), .v (.int x), .v (chD (chC K l) (n : Nat) (M : Nat)), .v (.tup [kd l, .int (n : Nat), .int (M : Nat), .int x]), z4, .v (.lst ((rndL l M n x).map D.int)), .v (.int (L : Nat)), .v (lgD K (.int (L : Nat)) (.tup (nums (S ++ [0])))), .v (.int (i : Nat)), .v a, .v b, y5, .no, .no, .no, .no]) ?_ ?_
      · try dsimp only
        refine s_if ?_
        repeat walk_at "e"
        refine u_draw hq1 (by omega) (by decide) (by decide) fun q2 z hq2 z0 z1 => ⟨_, rfl, nno, ?_⟩
        repeat walk_at "e"
        refine br (fun h0 => ?_) (fun h0 => ?_)
        · repeat walk_at "e"
          refine ⟨_, _, S ++ [0], M, rfl, rfl, hq2, by omega, by omega, by omega, hSr, m2, by omega, fun q3 b hq3 hb => ⟨_, rfl, nno, ?_⟩⟩
          repeat walk_at "e"
          exact ⟨_, _, hq3.mono (by omega), hb, rfl, rfl⟩
        · repeat walk_at "e"
          exact ⟨_, _, hq2.mono (by omega), stb, rfl, rfl⟩
      rintro _ _ ⟨q2, b, hq2, hb, rfl, rfl⟩
      refine s_seq ?_
      repeat walk_at "e"
      refine ⟨_, _, rfl, rfl, rfl, _, rfl, ?_⟩
      repeat walk_at "e"
      try dsimp only
      repeat walk_at "e"
      refine ⟨l, n, M, x, _, rfl, rfl, n1, by omega, m2, by omega, x0, x1, .inr ⟨_, _, rfl, ha, hb, fun r hr => ⟨⟨_, rfl⟩, ?_⟩⟩⟩
      repeat walk_at "e"
      refine c_repr (shows_bl r) ?_
      repeat walk_at "e"
      refine ⟨l, n, x, M, L, a, b, rfl, rfl, n1, by omega, m2, by omega, ha, hb, fun r2 hr2 => ⟨⟨_, rfl⟩, ?_⟩⟩
      have e12 : r = r2 := Bool.eq_iff_iff.mpr (hr.trans ((due_iff n1 (by omega) (by omega) ho).trans hr2.symm))
      subst e12
      repeat walk_at "e"
      refine c_repr (shows_bl r) ?_
      refine w_ne rfl rfl rfl ?_
      rw [decide_eq_true rfl]
      repeat walk_at "e"
      exact ⟨_, _, _, _, _, _, hq2.mono (by omega), rfl, rfl⟩
    rintro _ _ ⟨q, y1, y2, y3, y4, y5, hq, rfl, rfl⟩
    refine s_seq ?_
    repeat walk_at "e"
    refine w_lc1 ?_ (by decide)
    refine i_rng1 ?_
    repeat walk_at "e"
    refine ⟨by omega, ?_⟩
    rw [Int.toNat_natCast]
    refine lc_RI (by omega) (fun i acc O' => ∃ (xs : List Int) (p' : List D), acc = nums xs ∧ xs.length = i ∧ G.InR M xs ∧ Pen (k0 + 70 + i) p' ∧ O' = [.lst p']) ⟨[], _, rfl, rfl, G.InR.nil, hq.mono (by omega), rfl⟩ ?_ ?_ ?_
    · rintro i _ _ ⟨xs, p', rfl, rfl, _, _, rfl⟩
      exact ⟨rfl, nums_len⟩
    · rintro i _ _ hi ⟨xs, p', rfl, hxl, hx, hp', rfl⟩
      refine g_name ?_
      repeat walk_at "e"
      refine u_draw hp' (by omega) (by omega) (by omega) fun p7 z hp7 z0 z1 => ⟨_, rfl, nno, ?_⟩
      exact ⟨_, _, rfl, rfl, xs ++ [z], p7, nums_app, by rw [List.length_append, hxl] <;> rfl, hx.snoc z0 z1, hp7.mono (by omega), rfl⟩
    rintro _ _ ⟨row, p8, rfl, hl, hr, hp8, rfl⟩
    obtain ⟨S1, z1, rfl, hS1⟩ := app_last hl n1
    have hin1 : G.InR M S1 := fun y hy => hr y (List.mem_append_left _ hy)
    have hz1 := hr z1 (List.mem_append_right _ List.mem_cons_self)
    repeat walk_at "e"
    try dsimp only
    refine s_seq ?_
    repeat walk_at "e"
    refine ⟨l, M, x, S1, z1, (by unfold LN; rfl), rfl, m2, by omega, by omega, hin1, by omega, by omega, fun T1 hT => ⟨⟨_, rfl⟩, ?_⟩⟩
    have hT2 := isLp_bd (show 1 ≤ M by omega) (by rw [My.cfL_len, hS1]; omega) hT
    repeat walk_at "e"
    try dsimp only
    refine s_seq ?_
    repeat walk_at "e"
    refine ⟨_, _, rfl, rfl, rfl, _, rfl, ?_⟩
    repeat walk_at "e"
    refine ⟨l, n, M, x, _, rfl, rfl, n1, by omega, m2, by omega, x0, x1, .inr ⟨_, _, rfl, sv_k (by omega), .inl ⟨_, rfl, by rw [nums_len]; omega, fun d hd => ?_⟩, fun r hr2 => ⟨⟨_, rfl⟩, ?_⟩⟩⟩
    · obtain ⟨v, hv, rfl⟩ := List.mem_map.mp hd
      have := hr v hv
      exact sv_k (by omega)
    have er : r = decide (((T1 : Nat) : Int) = ((L : Nat) : Int)) := Bool.eq_iff_iff.mpr (by
      rw [decide_eq_true_iff]
      refine hr2.trans ((due_iff n1 (by omega) (by omega) ho).trans ⟨?_, fun e => ?_⟩)
      · rintro ⟨_, _, e, _⟩
        injection e
      · exact ⟨S1, z1, by rw [e], rfl, hS1, hin1, hz1.1, hz1.2, by rw [show L = T1 by omega]; exact hT⟩)
    subst er
    repeat walk_at "e"
    refine w_ne rfl rfl rfl ?_
    rw [decide_eq_true rfl]
    repeat walk_at "e"
    try dsimp only
    refine s_seq ?_
    repeat walk_at "e"
    refine ⟨_, _, _, rfl, rfl, rfl, _, rfl, ?_⟩
    repeat walk_at "e"
    refine u_pick hp8 (by omega) (Nat.le_of_ble_eq_true rfl) (Nat.le_of_ble_eq_true rfl) fun p9 j v hp9 hv => ⟨_, rfl, nno, ?_⟩
    have hv : ∃ t, TyD K v t ∧ PySem.W.kitOne K t (.ref (He.ga K "Longest")) = some false := (all_c (Q := fun v => ∃ t, TyD K v t ∧ PySem.W.kitOne K t (.ref (He.ga K "Longest")) = some false) ⟨_, .non, T.kn_Longest _ (by decide)⟩ (all_c ⟨_, .int _, T.kn_Longest _ (by decide)⟩ (all_c ⟨_, .int _, T.kn_Longest _ (by decide)⟩ (all_c ⟨_, .tup _, T.kn_Longest _ (by decide)⟩ (all_c ⟨_, .dic _, T.kn_Longest _ (by decide)⟩ (all_c (by cases l <;> first | exact ⟨_, .ins _ _ T.it_Prompt, T.kit_Prompt_Longest⟩ | exact ⟨_, .ins _ _ T.it_Late, T.kit_Late_Longest⟩) (all_c ⟨_, .ins _ _ T.it_Shortest, T.kit_Shortest_Longest⟩ all_n))))))) v (List.mem_of_getElem? hv)
    obtain ⟨t, ht, hk⟩ := hv
    repeat walk_at "e"
    try dsimp only
    repeat walk_at "e"
    refine ⟨l, n, M, x, v, rfl, rfl, n1, by omega, m2, by omega, x0, x1, .inl ⟨t, ht, hk, ⟨⟨_, rfl⟩, ?_⟩⟩⟩
    repeat walk_at "e"
    refine w_isBl ?_
    exact ⟨rfl, k _ (hp9.mono (by omega))⟩
theorem sc_law : FnScope ["_law_script", "_law_pen_here", "_law_lap", "_law_two"] ["_law_script"] (defScope (top 77)) := ⟨rfl, rfl, rfl, by decide +kernel, rfl, by decide +kernel, by decide +kernel⟩
theorem ok_law {P : Program} {w : World} {K : PySem.W.Frag} {mg : Str → Option Value} {base : Heap} (T : Tx K mg) (h_law_pen : FnRaw P w K mg base 1 (He.fAd K ("_law_pen", none)) ["_law_script"] (penSp K 63)) (h_law_right : FnG P w K mg base 9 (He.fAd K ("_law_right", none)) 1 (sp_l_right K)) (h_PromptU_initU : Fn P w K mg base 4 (He.fAd K ("Prompt", some "__init__")) ["self", "stages", "modulus"] (sp_ch_init K (He.ga K "Prompt"))) (h_shows_longest : Fn P w K mg base 8 (He.fAd K ("shows_longest", none)) ["chain", "number", "value"] (sp_l_shl K)) (h_LongestU_initU : Fn P w K mg base 1 (He.fAd K ("Longest", some "__init__")) ["self", "length", "starts"] (sp_Lg_init K)) : FnG P w K mg base 10 (He.fAd K ("law", none)) 1 (sp_law K) := by
  obtain ⟨_, F_law_pen, b_law_pen, kp_law_pen, lk_law_pen⟩ := h_law_pen
  obtain ⟨F_law_right, kp_law_right⟩ := h_law_right
  obtain ⟨_, F_PromptU_initU, b_PromptU_initU, kp_PromptU_initU, lk_PromptU_initU⟩ := h_PromptU_initU
  obtain ⟨_, F_shows_longest, b_shows_longest, kp_shows_longest, lk_shows_longest⟩ := h_shows_longest
  obtain ⟨_, F_LongestU_initU, b_LongestU_initU, kp_LongestU_initU, lk_LongestU_initU⟩ := h_LongestU_initU
  obtain ⟨fd, F⟩ := T.d_law
  refine fnG (ps := ["_law_script"]) F sc_law (lift_len ?_) (F.bindsN fun _ _ _ _ _ _ us hl => (match us, hl with | [_], _ => rfl)) (fun cdv A outer s H vs Q E hgd hr h => ?_)
  · intro ts O P X h
    exact sp_law_len h
  · have hu := hr.units
    refine ⟨_, (PSs.nox (pss_cons (ps_set (i := 1) sc_law.nd rfl (.inl rfl) (pe_call F_law_pen (hr.mono (by decide)) (by rfl) T.g__law_pen kp_law_pen b_law_pen .nil passL (pa_cons (pv 0) pa_nil)))
    (pss_cons (ps_for PassesOwn.never rfl (pi_range1 (by rfl) T.n_range (pa_cons pe_int pa_nil)) (pg_name (i := 2) sc_law.nd rfl (.inl rfl))
    (pss_one (ps_if (pt_not (pt_val (pe_callG F_law_right hgd (hr.mono (by decide)) (by rfl) T.g__law_right kp_law_right passL (pa_cons (pv 1) pa_nil))))
    (pss_one (ps_ret pe_bl))
    pss_nil)))
    (pss_cons (ps_set (i := 3) sc_law.nd rfl (.inl rfl) (pe_make T.mk_Prompt F_PromptU_initU (hr.mono (by decide)) (by rfl) T.g_Prompt b_PromptU_initU .nil passL (pa_cons pe_int (pa_cons pe_int pa_nil))))
    (pss_one (ps_ret (pe_cmpR (op_eqDK K hu) (pe_lst (pa_cons (pe_call F_shows_longest (hr.mono (by decide)) (by rfl) T.g_shows_longest kp_shows_longest b_shows_longest .nil passL (pa_cons (pv 3) (pa_cons pe_int (pa_cons (pe_make T.mk_Longest F_LongestU_initU (hr.mono (by decide)) (by rfl) T.g_Longest b_LongestU_initU .nil passL (pa_cons pe_int (pa_cons (pe_tup (pa_cons pe_int (pa_cons pe_int pa_nil))) pa_nil))) pa_nil)))) (pa_cons (pe_call F_shows_longest (hr.mono (by decide)) (by rfl) T.g_shows_longest kp_shows_longest b_shows_longest .nil passL (pa_cons (pv 3) (pa_cons pe_int (pa_cons (pe_make T.mk_Longest F_LongestU_initU (hr.mono (by decide)) (by rfl) T.g_Longest b_LongestU_initU .nil passL (pa_cons pe_int (pa_cons (pe_tup (pa_cons pe_int (pa_cons pe_int pa_nil))) pa_nil))) pa_nil)))) pa_nil))) (pe_lst (pa_cons pe_bl (pa_cons pe_bl pa_nil))) (nomark _)))))))), enter h fun ts O P X h _ => ?_⟩
    try dsimp only [cxOf, Cx.nox, Cx.wish]
    
    obtain ⟨cs, rfl, rfl, hcs, p⟩ := h
    show WS _ _ _ _ [.v (.scr cs), .no, .no, .no] _
    refine s_seq ?_
    refine s_set ?_
    refine w_pen ?_
    repeat walk_at "e"
    intro p0 hp0
    refine s_seq ?_
    refine s_forE ?_
    refine i_rng1 ?_
    repeat walk_at "e"
    refine ⟨by decide, ?_⟩
    refine for_R1 (n := 6) (fun i ts' O' => ∃ (q : List D) (x1 : G.T), Pen (110 * i) q ∧ O' = [.lst q] ∧ ts' = [.v (.scr cs), .own 0, x1, .no]) ⟨_, _, hp0, rfl, rfl⟩ ?_ ?_
    · rintro i _ _ hi ⟨q0, x1, hpq, rfl, rfl⟩
      refine g_name ?_
      repeat walk_at "e"
      refine ⟨_, _, rfl, rfl, hpq, by omega, fun q1 hq1 => ⟨_, rfl, nno, ?_⟩⟩
      repeat walk_at "e"
      exact ⟨q1, _, hq1.mono (by omega), rfl, rfl⟩
    rintro _ _ ⟨q0, x1, hpq, rfl, rfl⟩
    
    refine s_seq ?_
    repeat walk_at "e"
    refine ⟨2, 4, rfl, rfl, by decide, by decide, by decide, by decide, rfl, _, rfl, ?_⟩
    repeat walk_at "e"
    refine ⟨_, _, rfl, rfl, rfl, _, rfl, ?_⟩
    repeat walk_at "e"
    refine ⟨false, 2, 4, 2, _, rfl, rfl, by decide, by decide, by decide, by decide, by decide, by decide, .inr ⟨_, _, rfl, sv_k (by decide), .inl ⟨_, rfl, by decide, all_c (sv_k (by decide)) (all_c (sv_k (by decide)) all_n)⟩, fun r hr => ⟨⟨_, rfl⟩, ?_⟩⟩⟩
    rw [hr.mpr due_yes]
    clear hr r
    repeat walk_at "e"
    refine ⟨_, _, rfl, rfl, rfl, _, rfl, ?_⟩
    repeat walk_at "e"
    refine ⟨false, 2, 4, 2, _, rfl, rfl, by decide, by decide, by decide, by decide, by decide, by decide, .inr ⟨_, _, rfl, sv_k (by decide), .inl ⟨_, rfl, by decide, all_c (sv_k (by decide)) (all_c (sv_k (by decide)) all_n)⟩, fun r hr => ⟨⟨_, rfl⟩, ?_⟩⟩⟩
    have er : r = false := Bool.eq_false_iff.mpr fun z => due_no (hr.mp z)
    subst er
    repeat walk_at "e"
    refine w_eqT (d := .lst [.bl true, .bl false]) valD_v valD_v (by decide +kernel) ?_
    exact ⟨rfl, p⟩
end My

set_option Elab.async false
set_option linter.all false
set_option maxRecDepth 100000
set_option maxHeartbeats 0
namespace My
open PySem PySem.Spec PyProof.Rows L2 G
theorem facts {P : Program} {w : World} {K : PySem.W.Frag} {h : Heap} {mg : Str → Option Value} {f : Addr} (X : K.In h) (G : h.Ns mainGlobals mg) (hfa : mg ("law" : Str) = some (.ref f)) (c : He.SaysD fa fn K) (e : ex K = true) (ee : es.map (fun d => fnE K (d.f K)) ++ prs.map (fun d => fnE K (d.g K)) = es.map ExD.val ++ prs.map PrD.val) (hP : POk P "/claim/cut.py") :
    ∀ base : Heap, K.In base → base.Ns mainGlobals mg → TabsB K mg base → FnRG P w K mg base (CXa P) 10 f (lift K (_root_.G.sp_law K)) := by
  have T := tx X G c e ee
  have ef := hfa.symm.trans T.g_law
  cases ef
  intro base _ _ TB
  have h_is_integer : Fn P w K mg base 1 (He.fAd K ("is_integer", none)) ["value"] (sp_is_integer K) := ok_is_integer T 
  have h_is_between : Fn P w K mg base 2 (He.fAd K ("is_between", none)) ["value", "low", "high"] (sp_is_between K) := ok_is_between T h_is_integer
  have h_fits_modulus : Fn P w K mg base 3 (He.fAd K ("fits_modulus", none)) ["value"] (sp_fits_modulus K) := ok_fits_modulus T h_is_between
  have h_law_pen : FnRaw P w K mg base 1 (He.fAd K ("_law_pen", none)) ["_law_script"] (penSp K 63) := ok_law_pen T 
  have h_law_draw : Fn P w K mg base 1 (He.fAd K ("_law_draw", none)) ["_law_pen_here", "_law_many"] (sp_draw K) := ok_law_draw T 
  have h_law_pick : Fn P w K mg base 2 (He.fAd K ("_law_pick", none)) ["_law_pen_here", "_law_some"] (sp_pick K) := ok_law_pick T h_law_draw
  have h_binomial : Fn P w K mg base 1 (He.fAd K ("binomial", none)) ["n", "j"] (sp_binomial K) := ok_binomial T 
  have h_power_of : Fn P w K mg base 1 (He.fAd K ("power_of", none)) ["number", "times"] (sp_power_of K) := ok_power_of T 
  have h_times_in : Fn P w K mg base 1 (He.fAd K ("times_in", none)) ["number", "prime"] (sp_times_in K) := ok_times_in T 
  have h_small_in : Fn P w K mg base 2 (He.fAd K ("small_in", none)) ["number", "most"] (sp_small_in K) := ok_small_in T h_times_in
  have h_great_in : Fn P w K mg base 3 (He.fAd K ("great_in", none)) ["number", "most"] (sp_great_in K) := ok_great_in T h_small_in h_power_of
  have h_combined : Fn P w K mg base 1 (He.fAd K ("combined", none)) ["one", "other"] (sp_combined K) := ok_combined T 
  have h_shared_in : Fn P w K mg base 2 (He.fAd K ("shared_in", none)) ["modulus", "numbers"] (sp_shared_in K) := ok_shared_in T h_combined
  have h_joined : Fn P w K mg base 2 (He.fAd K ("joined", none)) ["parts"] (sp_joined K) := ok_joined T h_combined
  have h_PromptU_initU : Fn P w K mg base 4 (He.fAd K ("Prompt", some "__init__")) ["self", "stages", "modulus"] (sp_ch_init K (He.ga K "Prompt")) := ok_PromptU_initU T h_is_between h_fits_modulus
  have h_LateU_initU : Fn P w K mg base 4 (He.fAd K ("Late", some "__init__")) ["self", "stages", "modulus"] (sp_ch_init K (He.ga K "Late")) := ok_LateU_initU T h_is_between h_fits_modulus
  have h_left_in : Fn P w K mg base 2 (He.fAd K ("left_in", none)) ["coefs", "row", "length"] (sp_p_leftin K) := ok_left_in T h_binomial
  have h_keeps : Fn P w K mg base 3 (He.fAd K ("keeps", none)) ["coefs", "modulus", "length"] (sp_p_keeps K) := ok_keeps T h_left_in
  have h_small_power : Fn P w K mg base 4 (He.fAd K ("small_power", none)) ["coefs", "prime", "times"] (sp_p_power K) := ok_small_power T h_keeps h_power_of
  have h_length_in : Fn P w K mg base 5 (He.fAd K ("length_in", none)) ["modulus", "coefs"] (sp_p_lin K) := ok_length_in T h_great_in h_shared_in h_small_in h_power_of h_small_power
  have h_need_chain : Fn P w K mg base 1 (He.fAd K ("need_chain", none)) ["chain"] (sp_st_nch K) := ok_need_chain T 
  have h_need_input : Fn P w K mg base 3 (He.fAd K ("need_input", none)) ["chain", "number"] (sp_st_nin K) := ok_need_input T h_is_between
  have h_products : Fn P w K mg base 1 (He.fAd K ("products", none)) ["one", "other"] (sp_st_prod K) := ok_products T 
  have h_named : Fn P w K mg base 1 (He.fAd K ("named", none)) ["width", "place"] (sp_st_named K) := ok_named T 
  have h_next_forms : Fn P w K mg base 1 (He.fAd K ("next_forms", none)) ["forms", "begin", "is_prompt"] (sp_st_next K) := ok_next_forms T 
  have h_forms_of : Fn P w K mg base 2 (He.fAd K ("forms_of", none)) ["chain"] (sp_st_forms K) := ok_forms_of T h_named h_next_forms
  have h_rows_for : Fn P w K mg base 3 (He.fAd K ("rows_for", none)) ["chain", "length", "modulus"] (sp_st_rows K) := ok_rows_for T h_forms_of h_binomial h_products
  have h_starts_with : Fn P w K mg base 3 (He.fAd K ("starts_with", none)) ["chain", "number", "modulus", "last"] (sp_st_sw K) := ok_starts_with T h_forms_of h_products
  have h_whole_starts : Fn P w K mg base 3 (He.fAd K ("whole_starts", none)) ["chain", "parts"] (sp_st_ws K) := ok_whole_starts T h_joined
  have h_all_keep : Fn P w K mg base 1 (He.fAd K ("all_keep", none)) ["rows", "number", "modulus"] (sp_st_ak K) := ok_all_keep T 
  have h_leaving_starts : Fn P w K mg base 2 (He.fAd K ("leaving_starts", none)) ["rows", "number", "modulus"] (sp_st_lv K) := ok_leaving_starts T h_named
  have h_longest_small : Fn P w K mg base 4 (He.fAd K ("longest_small", none)) ["chain", "number", "prime", "times"] (sp_st_ls K) := ok_longest_small T h_power_of h_all_keep h_rows_for h_named h_leaving_starts
  have h_LongestU_initU : Fn P w K mg base 1 (He.fAd K ("Longest", some "__init__")) ["self", "length", "starts"] (sp_Lg_init K) := ok_LongestU_initU T 
  have h_longest : Fn P w K mg base 5 (He.fAd K ("longest", none)) ["chain", "number"] (sp_st_lg K) := ok_longest T h_need_chain h_need_input h_great_in h_shared_in h_starts_with h_small_in h_longest_small h_power_of h_LongestU_initU h_whole_starts
  have h_law_chain : Fn P w K mg base 6 (He.fAd K ("_law_chain", none)) ["_law_kind", "_law_stages", "_law_modulus"] (sp_l_chain K) := ok_law_chain T h_PromptU_initU h_LateU_initU
  have h_law_beat : Fn P w K mg base 1 (He.fAd K ("_law_beat", none)) ["_law_kind", "_law_modulus", "_law_number", "_law_rests"] (sp_l_beat K) := ok_law_beat T 
  have h_law_round : Fn P w K mg base 2 (He.fAd K ("_law_round", none)) ["_law_kind", "_law_modulus", "_law_number", "_law_starts"] (sp_l_round K) := ok_law_round T h_law_beat
  have h_law_all : Fn P w K mg base 1 (He.fAd K ("_law_all", none)) ["_law_modulus", "_law_many"] (sp_l_all K) := ok_law_all T 
  have h_coefs_at : Fn P w K mg base 3 (He.fAd K ("coefs_at", none)) ["chain", "number", "starts"] (sp_l_cat K) := ok_coefs_at T h_forms_of h_products
  have h_period_at : Fn P w K mg base 6 (He.fAd K ("period_at", none)) ["chain", "number", "starts"] (sp_l_pat K) := ok_period_at T h_length_in h_coefs_at
  have h_are_starts : Fn P w K mg base 3 (He.fAd K ("are_starts", none)) ["chain", "value"] (sp_l_ares K) := ok_are_starts T h_is_between
  have h_has_length : Fn P w K mg base 7 (He.fAd K ("has_length", none)) ["chain", "number", "value"] (sp_l_hasl K) := ok_has_length T h_is_integer h_are_starts h_period_at
  have h_shows_longest : Fn P w K mg base 8 (He.fAd K ("shows_longest", none)) ["chain", "number", "value"] (sp_l_shl K) := ok_shows_longest T h_need_chain h_need_input h_has_length h_all_keep h_rows_for
  have h_ShortestU_initU : Fn P w K mg base 1 (He.fAd K ("Shortest", some "__init__")) ["self", "length", "starts", "bars"] (sp_Sh_init K) := ok_ShortestU_initU T 
  have h_law_is_int : Fn P w K mg base 1 (He.fAd K ("_law_is_int", none)) ["_law_value"] (sp_l_isint K) := ok_law_is_int T 
  have h_law_due : Fn P w K mg base 3 (He.fAd K ("_law_due", none)) ["_law_case", "_law_most", "_law_length", "_law_starts"] (sp_l_due K) := ok_law_due T h_law_is_int h_law_round
  have h_law_bent_starts : Fn P w K mg base 3 (He.fAd K ("_law_bent_starts", none)) ["_law_pen_here", "_law_starts", "_law_modulus"] (sp_l_bent K) := ok_law_bent_starts T h_law_draw h_law_pick
  have h_law_right : FnG P w K mg base 9 (He.fAd K ("_law_right", none)) 1 (sp_l_right K) := ok_law_right T h_law_draw h_law_pick h_law_chain h_law_all h_law_round h_longest h_shows_longest h_law_bent_starts h_LongestU_initU h_law_due h_ShortestU_initU
  have h_law : FnG P w K mg base 10 (He.fAd K ("law", none)) 1 (sp_law K) := ok_law T h_law_pen h_law_right h_PromptU_initU h_shows_longest h_LongestU_initU
  exact fn_endG h_law (by decide)
end My
open PySem PySem.W PySem.Calls PyProof.Rows
theorem PySem.Challenge.cw_restchains_k61_longest_looked_at_holds : PySem.Challenge.rw_restchains_k61_longest_looked_at.Holds := by
  w_on; o_law
  refine HandSHeadRun.head_any (r := My.R) (q := view My.R.prog [77]) (H := My.hk) (ob := My.ob) (M := 9000) (loose := My.loose) (d := HandSHeadRun.topDef My.R.prog 77) (kwd := []) My.ob_eq
    (by kernel_rfl) (fun s => by kernel_rfl) My.run (by kernel_rfl) (by kernel_rfl) (by kernel_rfl) (by rfl) (by first | assumption | decide +kernel) (by decide +kernel) ⟨rfl, rfl, rfl, rfl, rfl, by decide +kernel⟩ ?hw ?hc
  case hw => w_witness2

  case hc =>
    refine _root_.G.walk_ofG (l := PySem.Challenge.rw_restchains_k61_longest_looked_at) (n := 63) (k := 10) (CX := G.CXa My.R.prog) rfl (by decide) (by kernel_rfl) ⟨rfl, by decide, by decide⟩ ?F (fun _ _ _ _ z => G.cxa_nil z)
    intro w mg fa h Y G hmg0
    obtain ⟨K, KX, c, e, ee, th⟩ := Y
    have hmg : mg ("law" : PySem.Str) = some (.ref fa) := by
      have e0 : (HandSHeadRun.topDef My.R.prog 77).name = ("law" : PySem.Str) := by kernel_rfl
      rw [← e0]
      exact hmg0
    exact ⟨K, KX, th, My.facts (P := My.R.prog) (w := w) KX G hmg c e ee (⟨by kernel_rfl, by kernel_rfl⟩ : _root_.G.POk My.R.prog "/claim/cut.py")⟩


