import PyProof.Rows.All
import Wide.All
import OpenK.AllK
import Wide.FinOn
import HandS.Base
import HandS.Call
import HandS.List
import HandS.Flow
import HandS.Words
import HandS.SetKeys
import HandS.Text
import HandS.TupAny
import HandS.TupLe
import HandS.Style
import HandS.Deep
import HandS.IsInst
import HandS.SetFor
import HandS.Exc
import HandS.ExcOwn
import HandS.WordsExc
import HandS.Dict
import HandS.WordsDict
import HandS.RaiseMore
import PyProof.ReprRoads
import HandS.Comp
import HandS.Iter
import HandS.TryOnly
import KE.KUnpackStar
import HandS.Defaults
import HandS.HeadWalk
import KE.KExcPX
import KE.KExcIs
import HandS.SetBool
import KE.KExcInit
import HandS.ExcInit
import OpenK.KCls
import HandS.Keys
import KE.KTryMore
import HandS.RevTup
import HandS.HeadHook1
import KE.KStateDown
import HandS.Ends
import HandS.Head0
import HandS.Head1
import HandS.Head2
import HandS.HeadEnd
import HandS.HeadHook2
import HandS.HeadHook4
import PyProof.StrLawsIn
import PyProof.StrLawsRepr
import PyProof.FitsInt
import PyProof.Rows.RegStrFacts
import PySem.Challenge.RW_trueheads_k02_refusals_apart
set_option Elab.async false
set_option linter.all false
set_option maxRecDepth 100000
set_option maxHeartbeats 4000000
set_option autoImplicit false
namespace Mn
open PySem PySem.Spec PyProof.Rows L2

/-! values, stores, outcomes -/
inductive D where
  | non | bl (b : Bool) | int (i : Int) | str (x : Str) | tup (xs : List D) | ros (xs : List D) | loc (n : Nat) | ty (n : String) | gl (x : Str) | exo (c : Str) (ks : List Str) (vs : List D)

inductive Cell where
  | lst (xs : List D)
  | dct (kvs : List (Key × D))
  | ins (c : Str) (fs : List (Str × D))
  | set (ks : List Key)
abbrev Store := List Cell
abbrev Env := List (Option D)

inductive Rs (α : Type) where
  | ok (a : α) (S : Store)
  | exc (c : Str) (fl : List (Str × D)) (S : Store)
  | bad

def Rs.bind {α β : Type} (r : Rs α) (f : α → Store → Rs β) : Rs β := match r with
  | .ok a S => f a S
  | .exc c fl S => .exc c fl S
  | .bad => .bad

/-! what stands for what -/
structure Pm where
  K : PySem.W.Frag
  mg : Str → Option Value
  P : Program
  w : World

/-- a list that is only read -/
def RoL (K : PySem.W.Frag) (H : Hp) (a : Addr) (xs : List V) : Prop :=
  (∃ o, H a = some (.frz o (.lst xs))) ∨
    ∃ (o : Obj) (its : Array Value) (n : Nat), K.lookup a = some o ∧ o.cls = .type "list" ∧ o.dict = none ∧ o.data = .seq its n ∧ its.size ≤ sizeLine ∧ Vals xs its.toList
theorem RoL.sq {K : PySem.W.Frag} {H : Hp} {a : Addr} {xs : List V} (h : RoL K H a xs) : SqL K H a xs := by
  rcases h with ⟨o, h⟩ | h
  · exact .inl (.inr ⟨o, h⟩)
  · exact .inr h

/-- an exception object of the class cls, its dict d, held as a value -/
def ExV (cls : Value) (d : Option Addr) (a : Addr) : HO := .ext fun h => ∃ (oe : Obj) (fv : Array Value), h.get? a = some oe ∧ oe.cls = cls ∧ oe.dict = d ∧ oe.data = .fields fv
/-- what a class of exceptions must say, so that its instances are read rightly -/
structure ExcF (K : PySem.W.Frag) (C : Addr) : Prop where
  cl : (PySem.W.clsIn K C).isSome = true
  ga : PySem.W.findIn K (.ref C) "__getattribute__" = some (some (.builtin "BaseException.__getattribute__"))
  gg : PySem.W.findIn K (.ref C) "__getattr__" = some none
  sub : PySem.W.subIn K (.ref C) (.type "BaseException") = some true
  ha : PySem.W.findIn K (.ref C) "__class__" = some (some (.builtin "object.__class__"))
  hn : PySem.W.specialIn K (.builtin "object.__class__") "__get__" = some (some (.builtin "getset_descriptor.__get__"))
  ht : PySem.W.takesIn K (.builtin "object.__class__") = some true
  hm : PySem.W.mroIn K C (.type "object") = some true
  hd : PySem.W.hasDictIn K C = true
/-- no attribute of the class hides these fields -/
def NoAts (K : PySem.W.Frag) (C : Addr) (fs : List Str) : Prop := ∀ f ∈ fs, NoAttr K C f
mutual
def VR (p : Pm) (ρ : List Addr) (H : Hp) : D → V → Prop
  | .non, v => v = .non
  | .bl b, v => v = .bl b
  | .int i, v => v = .int i
  | .str x, v => v = .str x
  | .tup ds, v => ∃ a xs, v = .ref a ∧ SqT p.K H a xs ∧ VRs p ρ H ds xs
  | .ros ds, v => ∃ a xs, v = .ref a ∧ RoL p.K H a xs ∧ VRs p ρ H ds xs
  | .loc n, v => ∃ a, v = .ref a ∧ ρ[n]? = some a
  | .ty n, v => v = .ty n
  | .gl x, v => ∃ a, v = .ref a ∧ p.mg x = some (.ref a)
  | .exo c ks vs, v => ∃ a C dd, v = .ref a ∧ a ∉ ρ ∧ (p.mg c = some (.ref C) ∧ ExcF p.K C ∧ NoAts p.K C ks) ∧ H a = some (ExV (.ref C) dd a) ∧ ∃ xs, VRs p ρ H vs xs ∧ ks.length = xs.length ∧ ((ks = [] ∧ dd = none) ∨ ∃ d, dd = some d ∧ H d = some (.xd (ks.zip xs)))
def VRs (p : Pm) (ρ : List Addr) (H : Hp) : List D → List V → Prop
  | [], xs => xs = []
  | d :: ds, xs => ∃ x r, xs = x :: r ∧ VR p ρ H d x ∧ VRs p ρ H ds r
end

/-- the world grown -/
structure Ext (p : Pm) (ρ : List Addr) (H : Hp) (ρ' : List Addr) (H' : Hp) : Prop where
  pre : ∃ r, ρ' = ρ ++ r ∧ ∀ b ∈ r, H b = none
  tr : ∀ b, H b ≠ none → H' b ≠ none
  tup : ∀ a xs, SqT p.K H a xs → SqT p.K H' a xs
  ros : ∀ a xs, RoL p.K H a xs → RoL p.K H' a xs
  exs : ∀ a φ, a ∉ ρ → H a = some (.ext φ) → H' a = some (.ext φ)
  xds : ∀ a ws, H a = some (.xd ws) → H' a = some (.xd ws)
theorem Ext.out {p : Pm} {ρ ρ1 : List Addr} {H H1 : Hp} (x : Ext p ρ H ρ1 H1) {a : Addr} (h : a ∉ ρ) (e : H a ≠ none) : a ∉ ρ1 := by
  obtain ⟨r, e1, e2⟩ := x.pre
  rw [e1, List.mem_append, not_or]
  exact ⟨h, fun z => e (e2 a z)⟩
theorem Ext.refl (p : Pm) (ρ : List Addr) (H : Hp) : Ext p ρ H ρ H := ⟨⟨[], by simp⟩, fun _ h => h, fun _ _ h => h, fun _ _ h => h, fun _ _ _ h => h, fun _ _ h => h⟩
theorem Ext.trans {p : Pm} {ρ ρ1 ρ2 : List Addr} {H H1 H2 : Hp} (a : Ext p ρ H ρ1 H1) (b : Ext p ρ1 H1 ρ2 H2) : Ext p ρ H ρ2 H2 := by
  obtain ⟨r1, e1, n1⟩ := a.pre
  obtain ⟨r2, e2, n2⟩ := b.pre
  refine ⟨⟨r1 ++ r2, by rw [e2, e1, List.append_assoc], fun c hc => ?_⟩, fun c h => b.tr c (a.tr c h), fun c xs h => b.tup c xs (a.tup c xs h), fun c xs h => b.ros c xs (a.ros c xs h), fun c φ n h => b.exs c φ (a.out n (by rw [h]; simp)) (a.exs c φ n h), fun c ws h => b.xds c ws (a.xds c ws h)⟩
  rcases List.mem_append.mp hc with h | h
  · exact n1 c h
  · cases q : H c with
    | none => rfl
    | some o => exact absurd (n2 c h) (a.tr c (by rw [q]; simp))
theorem Ext.get {p : Pm} {ρ ρ1 : List Addr} {H H1 : Hp} (a : Ext p ρ H ρ1 H1) {n : Nat} {c : Addr} (h : ρ[n]? = some c) : ρ1[n]? = some c := by
  obtain ⟨r, e, _⟩ := a.pre
  have hl : n < ρ.length := (List.getElem?_eq_some_iff.mp h).1
  rw [e, List.getElem?_append_left hl]
  exact h
mutual
theorem VR.mono {p : Pm} {ρ ρ1 : List Addr} {H H1 : Hp} (e : Ext p ρ H ρ1 H1) : ∀ (d : D) (v : V), VR p ρ H d v → VR p ρ1 H1 d v
  | .non, _, h => h
  | .bl _, _, h => h
  | .int _, _, h => h
  | .str _, _, h => h
  | .tup ds, _, ⟨a, xs, h1, h2, h3⟩ => ⟨a, xs, h1, e.tup _ _ h2, VRs.mono e ds xs h3⟩
  | .ros ds, _, ⟨a, xs, h1, h2, h3⟩ => ⟨a, xs, h1, e.ros _ _ h2, VRs.mono e ds xs h3⟩
  | .loc _, _, ⟨a, h1, h2⟩ => ⟨a, h1, e.get h2⟩
  | .ty _, _, h => h
  | .gl _, _, h => h
  | .exo c ks vs, _, ⟨a, C, dd, h1, h0, h2, h3, xs, h4, h5, h6⟩ => ⟨a, C, dd, h1, e.out h0 (by rw [h3]; simp [ExV]), h2, e.exs _ _ h0 h3, xs, VRs.mono e vs xs h4, h5, h6.imp id fun ⟨d, q1, q2⟩ => ⟨d, q1, e.xds _ _ q2⟩⟩
theorem VRs.mono {p : Pm} {ρ ρ1 : List Addr} {H H1 : Hp} (e : Ext p ρ H ρ1 H1) : ∀ (ds : List D) (vs : List V), VRs p ρ H ds vs → VRs p ρ1 H1 ds vs
  | [], _, h => h
  | d :: ds, _, ⟨x, r, h1, h2, h3⟩ => ⟨x, r, h1, VR.mono e d x h2, VRs.mono e ds r h3⟩
end
theorem VRs.length {p : Pm} {ρ : List Addr} {H : Hp} : ∀ {ds : List D} {xs : List V}, VRs p ρ H ds xs → ds.length = xs.length
  | [], _, h => by rw [show _ = [] from h]; rfl
  | _ :: _, _, ⟨x, r, h1, _, h3⟩ => by rw [h1, List.length_cons, List.length_cons, VRs.length h3]
theorem VRs.get {p : Pm} {ρ : List Addr} {H : Hp} : ∀ {ds : List D} {xs : List V} {i : Nat} {d : D}, VRs p ρ H ds xs → ds[i]? = some d → ∃ x, xs[i]? = some x ∧ VR p ρ H d x
  | [], _, _, _, _, e => by simp at e
  | d :: _, _, 0, _, ⟨x, r, h1, h2, _⟩, e => ⟨x, by rw [h1]; rfl, by simp at e; rw [← e]; exact h2⟩
  | _ :: ds, _, i + 1, _, ⟨x, r, h1, _, h3⟩, e => by
    obtain ⟨y, e1, e2⟩ := VRs.get (i := i) h3 (by simpa using e)
    exact ⟨y, by rw [h1]; simpa using e1, e2⟩
theorem VRs.getV {p : Pm} {ρ : List Addr} {H : Hp} {ds : List D} {xs : List V} {i : Nat} {x : V} (h : VRs p ρ H ds xs) (e : xs[i]? = some x) : ∃ d, ds[i]? = some d ∧ VR p ρ H d x := by
  have hl : i < ds.length := by rw [h.length]; exact (List.getElem?_eq_some_iff.mp e).1
  obtain ⟨y, e1, e2⟩ := h.get (List.getElem?_eq_getElem hl)
  rw [e] at e1
  cases e1
  exact ⟨_, List.getElem?_eq_getElem hl, e2⟩
theorem VRs.append {p : Pm} {ρ : List Addr} {H : Hp} : ∀ {ds es : List D} {xs ys : List V}, VRs p ρ H ds xs → VRs p ρ H es ys → VRs p ρ H (ds ++ es) (xs ++ ys)
  | [], _, _, _, h, k => by rw [show _ = [] from h]; exact k
  | _ :: _, _, _, ys, ⟨x, r, h1, h2, h3⟩, k => ⟨x, r ++ ys, by rw [h1]; rfl, h2, VRs.append h3 k⟩
theorem VRs.one {p : Pm} {ρ : List Addr} {H : Hp} {d : D} {x : V} (h : VR p ρ H d x) : VRs p ρ H [d] [x] := ⟨x, [], rfl, h, rfl⟩
theorem VRs.nil {p : Pm} {ρ : List Addr} {H : Hp} : VRs p ρ H [] [] := rfl
theorem VRs.take {p : Pm} {ρ : List Addr} {H : Hp} : ∀ {ds : List D} {xs : List V} (n : Nat), VRs p ρ H ds xs → VRs p ρ H (ds.take n) (xs.take n)
  | _, _, 0, _ => by simp [VRs]
  | [], _, n + 1, h => by rw [show _ = [] from h]; simp [VRs]
  | _ :: _, _, n + 1, ⟨x, r, h1, h2, h3⟩ => ⟨x, r.take n, by rw [h1]; rfl, h2, VRs.take n h3⟩
theorem VRs.drop {p : Pm} {ρ : List Addr} {H : Hp} : ∀ {ds : List D} {xs : List V} (n : Nat), VRs p ρ H ds xs → VRs p ρ H (ds.drop n) (xs.drop n)
  | _, _, 0, h => h
  | [], _, n + 1, h => by rw [show _ = [] from h]; simp [VRs]
  | _ :: _, _, n + 1, ⟨x, r, h1, h2, h3⟩ => by rw [h1]; exact VRs.drop n h3
theorem VRs.set {p : Pm} {ρ : List Addr} {H : Hp} {d : D} {x : V} (q : VR p ρ H d x) : ∀ {ds : List D} {xs : List V} (n : Nat), VRs p ρ H ds xs → VRs p ρ H (ds.set n d) (xs.set n x)
  | [], _, _, h => by rw [show _ = [] from h]; simp [VRs]
  | _ :: _, _, 0, ⟨y, r, h1, h2, h3⟩ => ⟨x, r, by rw [h1]; rfl, q, h3⟩
  | _ :: _, _, n + 1, ⟨y, r, h1, h2, h3⟩ => ⟨y, r.set n x, by rw [h1]; rfl, h2, VRs.set q n h3⟩

/-- a dict's entries -/
def KRs (p : Pm) (ρ : List Addr) (H : Hp) : List (Key × D) → List (Key × V) → Prop
  | [], xs => xs = []
  | (k, d) :: ds, xs => ∃ x r, xs = (k, x) :: r ∧ VR p ρ H d x ∧ KRs p ρ H ds r
theorem KRs.mono {p : Pm} {ρ ρ1 : List Addr} {H H1 : Hp} (e : Ext p ρ H ρ1 H1) : ∀ (ds : List (Key × D)) (vs : List (Key × V)), KRs p ρ H ds vs → KRs p ρ1 H1 ds vs
  | [], _, h => h
  | (_, d) :: ds, _, ⟨x, r, h1, h2, h3⟩ => ⟨x, r, h1, VR.mono e d x h2, KRs.mono e ds r h3⟩
/-- an instance's fields -/
def FRs (p : Pm) (ρ : List Addr) (H : Hp) : List (Str × D) → List (Str × V) → Prop
  | [], xs => xs = []
  | (k, d) :: ds, xs => ∃ x r, xs = (k, x) :: r ∧ VR p ρ H d x ∧ FRs p ρ H ds r
theorem FRs.mono {p : Pm} {ρ ρ1 : List Addr} {H H1 : Hp} (e : Ext p ρ H ρ1 H1) : ∀ (ds : List (Str × D)) (vs : List (Str × V)), FRs p ρ H ds vs → FRs p ρ1 H1 ds vs
  | [], _, h => h
  | (_, d) :: ds, _, ⟨x, r, h1, h2, h3⟩ => ⟨x, r, h1, VR.mono e d x h2, FRs.mono e ds r h3⟩

/-- a key is there -/
def hasK (ks : List Key) (j : Key) : Bool := ks.any fun x => decide (x = j)
/-- what a cell may be -/
def MutC : HO → Prop
  | .lst _ => True | .dK _ => True | .ins _ _ _ => True | .ext _ => True
  | _ => False
def CellR (p : Pm) (ρ : List Addr) (H : Hp) (a : Addr) : Cell → Prop
  | .lst ds => ∃ xs, H a = some (.lst xs) ∧ VRs p ρ H ds xs
  | .dct kvs => ∃ ws, H a = some (.dK ws) ∧ KRs p ρ H kvs ws
  | .ins c fs => ∃ C dx ws, (p.mg c = some (.ref C) ∧ Cls p.K C ∧ NoAts p.K C (fs.map (·.1))) ∧ H a = some (.ins C dx ws) ∧ FRs p ρ H fs ws
  | .set ks => H a = some (SetK p.P p.w a (hasK ks) ks.length) ∧ ks.Nodup
theorem CellR.tracked {p : Pm} {ρ : List Addr} {H : Hp} {a : Addr} {c : Cell} (h : CellR p ρ H a c) : ∃ o, H a = some o ∧ MutC o := by
  cases c with
  | lst ds => obtain ⟨xs, h, _⟩ := h; exact ⟨_, h, True.intro⟩
  | dct ds => obtain ⟨xs, h, _⟩ := h; exact ⟨_, h, True.intro⟩
  | ins c fs => obtain ⟨C, dx, xs, _, h, _⟩ := h; exact ⟨_, h, True.intro⟩
  | set ks => exact ⟨_, h.1, True.intro⟩
theorem CellR.mono {p : Pm} {ρ ρ1 : List Addr} {H H1 : Hp} (e : Ext p ρ H ρ1 H1) {a : Addr} {c : Cell} (h : CellR p ρ H a c) (k : H1 a = H a) : CellR p ρ1 H1 a c := by
  cases c with
  | lst ds => obtain ⟨xs, h, r⟩ := h; exact ⟨xs, k.trans h, VRs.mono e _ _ r⟩
  | dct ds => obtain ⟨xs, h, r⟩ := h; exact ⟨xs, k.trans h, KRs.mono e _ _ r⟩
  | ins c fs => obtain ⟨C, dx, xs, m, h, r⟩ := h; exact ⟨C, dx, xs, m, k.trans h, FRs.mono e _ _ r⟩
  | set ks => exact ⟨k.trans h.1, h.2⟩

/-- the store is held -/
structure Conc (p : Pm) (ρ : List Addr) (S : Store) (H : Hp) : Prop where
  len : ρ.length = S.length
  nd : ρ.Nodup
  cell : ∀ (n : Nat) (a : Addr) (c : Cell), ρ[n]? = some a → S[n]? = some c → CellR p ρ H a c
section
variable {p : Pm} {ρ : List Addr} {S : Store} {H : Hp}
theorem Conc.addr (h : Conc p ρ S H) {n : Nat} {c : Cell} (e : S[n]? = some c) : ∃ a, ρ[n]? = some a := by
  have hl : n < ρ.length := by rw [h.len]; exact (List.getElem?_eq_some_iff.mp e).1
  exact ⟨_, List.getElem?_eq_getElem hl⟩
theorem Conc.tracked (h : Conc p ρ S H) {a : Addr} (e : a ∈ ρ) : ∃ o, H a = some o ∧ MutC o := by
  obtain ⟨n, hn, e⟩ := List.mem_iff_getElem.mp e
  have hl : n < S.length := by rw [← h.len]; exact hn
  exact (h.cell n a _ (by rw [List.getElem?_eq_getElem hn, e]) (List.getElem?_eq_getElem hl)).tracked
theorem Conc.fresh (h : Conc p ρ S H) {a : Addr} (e : H a = none) : a ∉ ρ := fun m => by
  obtain ⟨o, q, _⟩ := h.tracked m
  rw [e] at q; cases q
/-- a new untracked place gets an object -/
theorem upd_tr {a : Addr} {o : HO} {b : Addr} (h : H b ≠ none) : upd H a o b ≠ none := by
  by_cases q : b = a
  · rw [q, upd_same]; simp
  · rw [upd_ne q]; exact h
theorem ext_new {a : Addr} {o : HO} (e : H a = none) : Ext p ρ H ρ (upd H a o) := by
  refine ⟨⟨[], by simp⟩, fun b h => upd_tr h, fun b xs h => ?_, fun b xs h => ?_, fun b φ _ h => by rw [upd_ne (ne_of_none h e)]; exact h, fun b ws h => by rw [upd_ne (ne_of_none h e)]; exact h⟩
  · rcases h with (h | ⟨u, h⟩) | h
    · exact .inl (.inl (by rw [upd_ne (ne_of_none h e)]; exact h))
    · exact .inl (.inr ⟨u, by rw [upd_ne (ne_of_none h e)]; exact h⟩)
    · exact .inr h
  · rcases h with ⟨u, h⟩ | h
    · exact .inl ⟨u, by rw [upd_ne (ne_of_none h e)]; exact h⟩
    · exact .inr h
theorem ext_mut {a : Addr} {u o : HO} (hm : a ∈ ρ) (e : H a = some u) (m : MutC u) : Ext p ρ H ρ (upd H a o) := by
  have nt : ∀ b xs, H b = some (.tup xs) → b ≠ a := fun b xs h z => by rw [z, e] at h; cases h; exact m
  have nf : ∀ b o xs, H b = some (.frz o xs) → b ≠ a := fun b o xs h z => by rw [z, e] at h; cases h; exact m
  have nd : ∀ b ws, H b = some (.xd ws) → b ≠ a := fun b ws h z => by rw [z, e] at h; cases h; exact m
  refine ⟨⟨[], by simp⟩, fun b h => upd_tr h, fun b xs h => ?_, fun b xs h => ?_, fun b φ n h => by rw [upd_ne (fun z => n (by rw [z]; exact hm))]; exact h, fun b ws h => by rw [upd_ne (nd _ _ h)]; exact h⟩
  · rcases h with (h | ⟨u, h⟩) | h
    · exact .inl (.inl (by rw [upd_ne (nt _ _ h)]; exact h))
    · exact .inl (.inr ⟨u, by rw [upd_ne (nf _ _ _ h)]; exact h⟩)
    · exact .inr h
  · rcases h with ⟨u, h⟩ | h
    · exact .inl ⟨u, by rw [upd_ne (nf _ _ _ h)]; exact h⟩
    · exact .inr h
theorem ext_grow {a : Addr} {o : HO} (e : H a = none) : Ext p ρ H (ρ ++ [a]) (upd H a o) :=
  let x := ext_new (p := p) (ρ := ρ) (o := o) e
  ⟨⟨[a], rfl, fun b hb => by rw [List.mem_singleton.mp hb]; exact e⟩, x.tr, x.tup, x.ros, x.exs, x.xds⟩
/-- a new object that is no cell (a tuple) -/
theorem Conc.new (h : Conc p ρ S H) {a : Addr} {o : HO} (e : H a = none) : Conc p ρ S (upd H a o) := by
  refine ⟨h.len, h.nd, fun n b c e1 e2 => (h.cell n b c e1 e2).mono (ext_new e) ?_⟩
  refine upd_ne fun z => h.fresh e ?_
  rw [← z]
  exact List.mem_of_getElem? e1
/-- a new cell -/
theorem Conc.push (h : Conc p ρ S H) {a : Addr} {o : HO} {c : Cell} (e : H a = none) (q : CellR p (ρ ++ [a]) (upd H a o) a c) :
    Conc p (ρ ++ [a]) (S ++ [c]) (upd H a o) ∧ Ext p ρ H (ρ ++ [a]) (upd H a o) := by
  have hE : Ext p ρ H (ρ ++ [a]) (upd H a o) := ext_grow e
  refine ⟨⟨by simp [h.len], ?_, fun n b d e1 e2 => ?_⟩, hE⟩
  · refine List.nodup_append.mpr ⟨h.nd, by simp, fun x hx y hy => ?_⟩
    have : y = a := by simpa using hy
    rw [this]
    exact fun z => h.fresh e (z ▸ hx)
  · by_cases hn : n < ρ.length
    · rw [List.getElem?_append_left hn] at e1
      rw [List.getElem?_append_left (by rw [← h.len]; exact hn)] at e2
      refine (h.cell n b d e1 e2).mono hE (upd_ne fun z => h.fresh e ?_)
      rw [← z]
      exact List.mem_of_getElem? e1
    · have hl := h.len
      rw [List.getElem?_append_right (by omega)] at e1
      rw [List.getElem?_append_right (by omega)] at e2
      have k : n - ρ.length = 0 := by
        by_cases z : n - ρ.length = 0
        · exact z
        · rw [List.getElem?_eq_none (by simp; omega)] at e1; cases e1
      rw [k] at e1
      rw [← hl, k] at e2
      simp at e1 e2
      subst e1; subst e2
      exact q
/-- a cell written -/
theorem Conc.put (h : Conc p ρ S H) {a : Addr} {o : HO} {n : Nat} {c c' : Cell} (e1 : ρ[n]? = some a) (e2 : S[n]? = some c) (q : CellR p ρ (upd H a o) a c') :
    Conc p ρ (S.set n c') (upd H a o) ∧ Ext p ρ H ρ (upd H a o) := by
  obtain ⟨u, hu, hm⟩ := (h.cell n a c e1 e2).tracked
  have hE : Ext p ρ H ρ (upd H a o) := ext_mut (List.mem_of_getElem? e1) hu hm
  refine ⟨⟨by simp [h.len], h.nd, fun m b d e3 e4 => ?_⟩, hE⟩
  by_cases hb : m = n
  · subst hb
    rw [e1] at e3; cases e3
    rw [List.getElem?_set_self (List.getElem?_eq_some_iff.mp e2).1] at e4
    cases e4
    exact q
  · rw [List.getElem?_set_ne (Ne.symm hb)] at e4
    refine (h.cell m b d e3 e4).mono hE (upd_ne fun z => hb ?_)
    rw [z] at e3
    obtain ⟨l1, g1⟩ := List.getElem?_eq_some_iff.mp e3
    obtain ⟨l2, g2⟩ := List.getElem?_eq_some_iff.mp e1
    exact (List.getElem_inj h.nd).mp (g1.trans g2.symm)
end

/-- names' values -/
def EnvR (p : Pm) (ρ : List Addr) (H : Hp) (env : Env) (σ : L2.St) : Prop := env.length = σ.length ∧ ∀ (i : Nat) (d : D), env[i]? = some (some d) → ∃ v, σ[i]? = some (some v) ∧ VR p ρ H d v
theorem EnvR.mono {p : Pm} {ρ ρ1 : List Addr} {H H1 : Hp} {env : Env} {σ : L2.St} (h : EnvR p ρ H env σ) (e : Ext p ρ H ρ1 H1) : EnvR p ρ1 H1 env σ :=
  ⟨h.1, fun i d q => let ⟨v, a, b⟩ := h.2 i d q; ⟨v, a, VR.mono e d v b⟩⟩
theorem EnvR.set {p : Pm} {ρ : List Addr} {H : Hp} {env : Env} {σ : L2.St} (h : EnvR p ρ H env σ) {i : Nat} {d : D} {v : V} (q : VR p ρ H d v) : EnvR p ρ H (env.set i (some d)) (σ.set i (some v)) := by
  refine ⟨by rw [List.length_set, List.length_set]; exact h.1, fun j e hj => ?_⟩
  by_cases hij : i = j
  · subst hij
    by_cases hl : i < env.length
    · rw [List.getElem?_set_self hl] at hj
      cases hj
      exact ⟨v, List.getElem?_set_self (by rw [← h.1]; exact hl), q⟩
    · rw [List.getElem?_eq_none (by rw [List.length_set]; omega)] at hj
      cases hj
  · rw [List.getElem?_set_ne hij] at hj
    obtain ⟨w, a, b⟩ := h.2 j e hj
    exact ⟨w, by rw [List.getElem?_set_ne hij]; exact a, b⟩

/-! what is wanted behind an outcome -/
def ExcR (p : Pm) (ρ : List Addr) (H : Hp) (c : Str) (fl : List (Str × D)) (cls : Value) (dd : Option Addr) : Prop :=
  (∃ C, p.mg c = some (.ref C) ∧ cls = .ref C ∧ ExcF p.K C ∧ NoAts p.K C (fl.map (·.1))) ∧ match fl with
    | [] => dd = none
    | _ => ∃ d ws, dd = some d ∧ H d = some (.xd ws) ∧ FRs p ρ H fl ws ∧ d ∉ ρ
def Post {α : Type} (p : Pm) (ρ : List Addr) (H : Hp) (φ : α → Store → List Addr → Hp → Prop) (ψ : Value → Option Addr → List Addr → Hp → Prop) : Rs α → Prop
  | .ok a S' => ∀ ρ' H', Ext p ρ H ρ' H' → Conc p ρ' S' H' → φ a S' ρ' H'
  | .exc c fl S' => ∀ ρ' H' cls dd, Ext p ρ H ρ' H' → Conc p ρ' S' H' → ExcR p ρ' H' c fl cls dd → ψ cls dd ρ' H'
  | .bad => False
section
variable {p : Pm} {ρ ρ1 : List Addr} {H H1 : Hp} {α β : Type} {φ φ' : α → Store → List Addr → Hp → Prop} {ψ ψ' : Value → Option Addr → List Addr → Hp → Prop}
theorem Post.ext {r : Rs α} (h : Post p ρ H φ ψ r) (e : Ext p ρ H ρ1 H1) : Post p ρ1 H1 φ ψ r := by
  cases r with
  | ok a S => exact fun ρ' H' x c => h ρ' H' (e.trans x) c
  | exc c fl S => exact fun ρ' H' cls dd x cc q => h ρ' H' cls dd (e.trans x) cc q
  | bad => exact h
end
end Mn

namespace Mn
open PySem PySem.Spec PyProof.Rows L2

/-! data out of values -/
mutual
def toPW (f : Nat → Option PyData) : D → Option PyData
  | .non => some .none
  | .bl b => some (.bool b)
  | .int i => some (.int i)
  | .str x => some (.str x)
  | .tup ds => (toPWs f ds).map .tuple
  | .ros ds => (toPWs f ds).map .list
  | .loc n => f n
  | .ty _ => none
  | .gl _ => none
  | .exo _ _ _ => none
def toPWs (f : Nat → Option PyData) : List D → Option (List PyData)
  | [] => some []
  | d :: ds => (toPW f d).bind fun p => (toPWs f ds).map fun ps => p :: ps
end
def toPL (S : Store) : Nat → Nat → Option PyData
  | 0, _ => none
  | n + 1, i => match S[i]? with
    | some (.lst ds) => (toPWs (toPL S n) ds).map .list
    | _ => none
/-- lists at most eight deep -/
def toP (S : Store) (d : D) : Option PyData := toPW (toPL S 8) d

section
variable {p : Pm} {ρ : List Addr} {S : Store} {H : Hp}
mutual
theorem dpW {f : Nat → Option PyData} (hf : ∀ n a q, ρ[n]? = some a → f n = some q → Dp p.K H (.ref a) q) : ∀ (d : D) (v : V) (q : PyData), VR p ρ H d v → toPW f d = some q → Dp p.K H v q
  | .non, _, _, h, e => by cases h; cases e; exact .non
  | .bl b, _, _, h, e => by cases h; cases e; exact .bl b
  | .int i, _, _, h, e => by cases h; cases e; exact .int i
  | .str x, _, _, h, e => by cases h; cases e; exact .str x
  | .tup ds, _, q, h, e => by
    obtain ⟨a, xs, rfl, hs, r⟩ := h
    have e' : (toPWs f ds).map PyData.tuple = some q := e
    cases k : toPWs f ds with
    | none => rw [k] at e'; cases e'
    | some qs =>
      rw [k] at e'
      cases e'
      exact .tup hs (dpWs hf ds xs qs r k)
  | .ros ds, _, q, h, e => by
    obtain ⟨a, xs, rfl, hs, r⟩ := h
    have e' : (toPWs f ds).map PyData.list = some q := e
    cases k : toPWs f ds with
    | none => rw [k] at e'; cases e'
    | some qs =>
      rw [k] at e'
      cases e'
      exact .lst hs.sq (dpWs hf ds xs qs r k)
  | .loc n, _, _, h, e => by
    obtain ⟨a, rfl, ha⟩ := h
    exact hf n a _ ha e
  | .ty _, _, _, _, e => nomatch e
  | .gl _, _, _, _, e => nomatch e
theorem dpWs {f : Nat → Option PyData} (hf : ∀ n a q, ρ[n]? = some a → f n = some q → Dp p.K H (.ref a) q) : ∀ (ds : List D) (vs : List V) (qs : List PyData), VRs p ρ H ds vs → toPWs f ds = some qs → DpAll p.K H vs qs
  | [], _, _, h, e => by rw [show _ = [] from h]; cases e; exact .nil
  | d :: ds, _, qs, ⟨x, r, h1, h2, h3⟩, e => by
    subst h1
    have e' : ((toPW f d).bind fun p => (toPWs f ds).map fun ps => p :: ps) = some qs := e
    cases k : toPW f d with
    | none => rw [k] at e'; cases e'
    | some q =>
      cases k2 : toPWs f ds with
      | none => rw [k, k2] at e'; cases e'
      | some qr =>
        rw [k, k2] at e'
        cases e'
        exact .cons (dpW hf d x q h2 k) (dpWs hf ds r qr h3 k2)
end
theorem dpL (hc : Conc p ρ S H) : ∀ (m n : Nat) (a : Addr) (q : PyData), ρ[n]? = some a → toPL S m n = some q → Dp p.K H (.ref a) q
  | 0, _, _, _, _, e => nomatch e
  | m + 1, n, a, q, ha, e => by
    have e' : (match S[n]? with
      | some (.lst ds) => (toPWs (toPL S m) ds).map PyData.list
      | _ => none) = some q := e
    split at e'
    · rename_i ds hS
      obtain ⟨xs, hx, r⟩ := hc.cell n a _ ha hS
      cases k : toPWs (toPL S m) ds with
      | none => rw [k] at e'; cases e'
      | some qs =>
        rw [k] at e'
        cases e'
        exact .lst (SqL.of hx) (dpWs (fun n a q h1 h2 => dpL hc m n a q h1 h2) ds xs qs r k)
    · cases e'
theorem dp_of (hc : Conc p ρ S H) {d : D} {v : V} {q : PyData} (h : VR p ρ H d v) (e : toP S d = some q) : Dp p.K H v q := dpW (fun n a q h1 h2 => dpL hc 8 n a q h1 h2) d v q h e
end

/-! what is wanted of one value -/
def OkTo (p : Pm) (ρ : List Addr) (H : Hp) (Q : VK) (d : D) (S' : Store) : Prop := ∀ ρ' H', Ext p ρ H ρ' H' → Conc p ρ' S' H' → ∀ v, VR p ρ' H' d v → Q v H'
section
variable {p : Pm} {ρ : List Addr} {S : Store} {H : Hp} {Q : VK}
theorem OkTo.here {d : D} {v : V} (k : OkTo p ρ H Q d S) (hc : Conc p ρ S H) (h : VR p ρ H d v) : Q v H := k ρ H (.refl ..) hc v h
theorem OkTo.lst {a : Addr} {ds : List D} {xs : List V} (k : OkTo p ρ H Q (.loc S.length) (S ++ [.lst ds])) (hc : Conc p ρ S H) (hn : H a = none) (r : VRs p ρ H ds xs) : Q (.ref a) (upd H a (.lst xs)) := by
  obtain ⟨c2, x2⟩ := hc.push (o := .lst xs) (c := .lst ds) hn ⟨xs, upd_same, VRs.mono (ext_grow hn) _ _ r⟩
  refine k _ _ x2 c2 _ ⟨a, rfl, ?_⟩
  rw [← hc.len]
  simp
theorem OkTo.tup {a : Addr} {ds : List D} {xs : List V} (k : OkTo p ρ H Q (.tup ds) S) (hc : Conc p ρ S H) (hn : H a = none) (r : VRs p ρ H ds xs) : Q (.ref a) (upd H a (.tup xs)) := by
  have x := ext_new (p := p) (ρ := ρ) (o := .tup xs) hn
  exact k _ _ x (hc.new hn) _ ⟨a, xs, rfl, SqT.of upd_same, VRs.mono x _ _ r⟩
theorem OkTo.dict {a : Addr} {kvs : List (Key × D)} {ws : List (Key × V)} (k : OkTo p ρ H Q (.loc S.length) (S ++ [.dct kvs])) (hc : Conc p ρ S H) (hn : H a = none) (r : KRs p ρ H kvs ws) : Q (.ref a) (upd H a (.dK ws)) := by
  obtain ⟨c2, x2⟩ := hc.push (o := .dK ws) (c := .dct kvs) hn ⟨ws, upd_same, KRs.mono (ext_grow hn) _ _ r⟩
  refine k _ _ x2 c2 _ ⟨a, rfl, ?_⟩
  rw [← hc.len]
  simp
end

/-- lists and tuples as their items -/
def itemsOf (S : Store) : D → Option (List D)
  | .tup ds => some ds
  | .ros ds => some ds
  | .loc n => match S[n]? with
    | some (.lst ds) => some ds
    | _ => none
  | _ => none
theorem items_of {p : Pm} {ρ : List Addr} {S : Store} {H : Hp} (hc : Conc p ρ S H) {d : D} {v : V} {ds : List D} (h : VR p ρ H d v) (e : itemsOf S d = some ds) : ∃ a xs, v = .ref a ∧ (SqL p.K H a xs ∨ SqT p.K H a xs) ∧ VRs p ρ H ds xs := by
  cases d with
  | tup es => cases e; obtain ⟨a, xs, h1, h2, h3⟩ := h; exact ⟨a, xs, h1, .inr h2, h3⟩
  | ros es => cases e; obtain ⟨a, xs, h1, h2, h3⟩ := h; exact ⟨a, xs, h1, .inl h2.sq, h3⟩
  | loc n =>
    obtain ⟨a, h1, h2⟩ := h
    have e' : (match S[n]? with
      | some (.lst ds) => some ds
      | _ => none) = some ds := e
    split at e'
    · rename_i es hS
      cases e'
      obtain ⟨xs, hx, r⟩ := hc.cell n a _ h2 hS
      exact ⟨a, xs, h1, .inl (SqL.of hx), r⟩
    · cases e'
  | _ => cases e

/-! operators -/
def sz : Nat := 16777216
theorem sz_eq : sizeLine = sz := sizeLine_eq
def OpD (X : Cx) (p : Pm) (f : Value → Value → Sem Value) (g : D → D → Store → Option (D × Store)) : Prop :=
  ∀ (pins : List (Addr × Obj)) (s : Shared) (σ : L2.St) (H : Hp) (x y : V) (v u : Value) (Q : VK) (ρ : List Addr) (S : Store) (d e d' : D) (S' : Store), Inv X pins σ H s → Conc p ρ S H → VR p ρ H d x → VR p ρ H e y → RelV x v → RelV y u → g d e S = some (d', S') → OkTo p ρ H Q d' S' →
    wpAny (model X.prog X.w) X.A (f v u) (EP X pins σ Q) X.xe s
theorem OpD.of {X : Cx} {p : Pm} {f : Value → Value → Sem Value} {r : R2} {g : D → D → Store → Option (D × Store)} (ho : OpR X f r)
    (h : ∀ (H : Hp) (x y : V) (Q : VK) (ρ : List Addr) (S : Store) (d e d' : D) (S' : Store), Conc p ρ S H → VR p ρ H d x → VR p ρ H e y → g d e S = some (d', S') → OkTo p ρ H Q d' S' → r x y H Q) : OpD X p f g :=
  fun pins s σ H x y v u Q ρ S d e d' S' I hc hx hy rx ry hg k => ho pins s σ H x y v u Q I rx ry (h H x y Q ρ S d e d' S' hc hx hy hg k)
theorem OpD.alt {X : Cx} {p : Pm} {f : Value → Value → Sem Value} {g g' : D → D → Store → Option (D × Store)} (h : OpD X p f g) (h' : OpD X p f g') : OpD X p f (fun d e S => match g d e S with
    | some r => some r
    | none => g' d e S) := by
  intro pins s σ H x y v u Q ρ S d e d' S' I hc hx hy rx ry hg k
  dsimp only at hg
  cases q : g d e S with
  | none => rw [q] at hg; exact h' pins s σ H x y v u Q ρ S d e d' S' I hc hx hy rx ry hg k
  | some r => rw [q] at hg; cases hg; exact h pins s σ H x y v u Q ρ S d e d' S' I hc hx hy rx ry q k

/-- two ints, a condition -/
def intB (c : Int → Int → Bool) (g : Int → Int → D) : D → D → Store → Option (D × Store)
  | .int i, .int j, S => if c i j = true then some (g i j, S) else none
  | _, _, _ => none
def flatI (d : D) (v : V) : Prop := ∀ p ρ H, VR p ρ H d v
theorem OpD.int {X : Cx} {p : Pm} {f : Value → Value → Sem Value} {C : Int → Int → Prop} {gv : Int → Int → V} (ho : OpR X f (rI C gv)) (c : Int → Int → Bool) (g : Int → Int → D) (hcC : ∀ i j, c i j = true → C i j) (hg : ∀ i j, flatI (g i j) (gv i j)) : OpD X p f (intB c g) :=
  .of ho fun H x y Q ρ S d e d' S' hc hx hy h k => by
    unfold intB at h
    split at h
    · rename_i i j
      cases hx
      cases hy
      split at h
      · rename_i q
        cases h
        exact ⟨i, j, rfl, rfl, hcC i j q, k.here hc (hg i j _ _ _)⟩
      · cases h
    · cases h
theorem rI_of0 {X : Cx} {f : Value → Value → Sem Value} {gv : Int → Int → V} (ho : OpR X f (rI0 gv)) : OpR X f (rI (fun _ _ => True) gv) := fun pins s σ H x y v u Q I rx ry ⟨i, j, e1, e2, _, q⟩ => ho pins s σ H x y v u Q I rx ry ⟨i, j, e1, e2, q⟩
theorem OpD.int0 {X : Cx} {p : Pm} {f : Value → Value → Sem Value} {gv : Int → Int → V} (ho : OpR X f (rI0 gv)) (g : Int → Int → D) (hg : ∀ i j, flatI (g i j) (gv i j)) : OpD X p f (intB (fun _ _ => true) g) := .int (rI_of0 ho) _ g (fun _ _ _ => True.intro) hg

/-- two texts -/
def strB (c : Str → Str → Bool) (g : Str → Str → D) : D → D → Store → Option (D × Store)
  | .str i, .str j, S => if c i j = true then some (g i j, S) else none
  | _, _, _ => none
theorem OpD.strs {X : Cx} {p : Pm} {f : Value → Value → Sem Value} {C : Str → Str → Prop} {gv : Str → Str → V} (ho : OpR X f (fun x y H Q => ∃ i j, x = .str i ∧ y = .str j ∧ C i j ∧ Q (gv i j) H)) (c : Str → Str → Bool) (g : Str → Str → D)
    (hcC : ∀ i j, c i j = true → C i j) (hg : ∀ i j, flatI (g i j) (gv i j)) : OpD X p f (strB c g) :=
  .of ho fun H x y Q ρ S d e d' S' hc hx hy h k => by
    unfold strB at h
    split at h
    · rename_i i j
      cases hx
      cases hy
      split at h
      · rename_i q
        cases h
        exact ⟨i, j, rfl, rfl, hcC i j q, k.here hc (hg i j _ _ _)⟩
      · cases h
    · cases h
theorem OpD.strs0 {X : Cx} {p : Pm} {f : Value → Value → Sem Value} {gv : Str → Str → V} (ho : OpR X f (fun x y H Q => ∃ i j, x = .str i ∧ y = .str j ∧ Q (gv i j) H)) (g : Str → Str → D) (hg : ∀ i j, flatI (g i j) (gv i j)) : OpD X p f (strB (fun _ _ => true) g) :=
  .strs (C := fun _ _ => True) (fun pins s σ H x y v u Q I rx ry ⟨i, j, e1, e2, _, q⟩ => ho pins s σ H x y v u Q I rx ry ⟨i, j, e1, e2, q⟩) _ g (fun _ _ _ => True.intro) hg

/-- tuples glued -/
def tupAdd : D → D → Store → Option (D × Store)
  | .tup xs, .tup ys, S => if xs.length + ys.length ≤ sz then some (.tup (xs ++ ys), S) else none
  | _, _, _ => none
theorem opd_tupAdd {X : Cx} {p : Pm} (hp : p.K = X.K) : OpD X p (binaryOp .Add) tupAdd := .of op_catA fun H x y Q ρ S d e d' S' hc hx hy h k => by
  unfold tupAdd at h
  split at h
  · rename_i xs ys
    split at h
    · rename_i hz
      cases h
      obtain ⟨a, vs, rfl, ha, ra⟩ := hx
      obtain ⟨b, ws, rfl, hb, rb⟩ := hy
      refine ⟨a, b, vs, ws, rfl, rfl, hp ▸ ha, hp ▸ hb, by rw [← ra.length, ← rb.length, sz_eq]; exact hz, fun e => ?_, fun _ e => ?_, fun _ _ q hq => ?_⟩
      · subst e
        have := ra.length
        have e2 : xs = [] := List.length_eq_zero_iff.mp this
        subst e2
        exact k.here hc ⟨b, ws, rfl, hb, rb⟩
      · subst e
        have e2 : ys = [] := List.length_eq_zero_iff.mp rb.length
        subst e2
        rw [List.append_nil] at k
        exact k.here hc ⟨a, vs, rfl, ha, ra⟩
      · exact k.tup hc hq (ra.append rb)
    · cases h
  · cases h
/-- lists glued -/
def lstAdd : D → D → Store → Option (D × Store)
  | .loc m, .loc n, S => match S[m]?, S[n]? with
    | some (.lst xs), some (.lst ys) => if xs.length + ys.length ≤ sz then some (.loc S.length, S ++ [.lst (xs ++ ys)]) else none
    | _, _ => none
  | _, _, _ => none
theorem opd_lstAdd {X : Cx} {p : Pm} : OpD X p (binaryOp .Add) lstAdd := .of op_cat fun H x y Q ρ S d e d' S' hc hx hy h k => by
  unfold lstAdd at h
  split at h
  · rename_i m n
    split at h
    · rename_i xs ys h1 h2
      split at h
      · rename_i hz
        cases h
        obtain ⟨a, rfl, ha⟩ := hx
        obtain ⟨b, rfl, hb⟩ := hy
        obtain ⟨vs, va, ra⟩ := hc.cell m a _ ha h1
        obtain ⟨ws, wb, rb⟩ := hc.cell n b _ hb h2
        exact ⟨a, b, vs, ws, rfl, rfl, va, wb, by rw [← ra.length, ← rb.length, sz_eq]; exact hz, fun q hq => k.lst hc hq (ra.append rb)⟩
      · cases h
    · cases h
  · cases h
theorem VRs.flatten {p : Pm} {ρ : List Addr} {H : Hp} {ds : List D} {xs : List V} (h : VRs p ρ H ds xs) : ∀ k : Nat, VRs p ρ H (List.replicate k ds).flatten (List.replicate k xs).flatten
  | 0 => rfl
  | k + 1 => by
    rw [List.replicate_succ, List.replicate_succ, List.flatten_cons, List.flatten_cons]
    exact h.append (VRs.flatten h k)
/-- a list k times -/
def lstRep : D → D → Store → Option (D × Store)
  | .loc m, .int k, S => match S[m]? with
    | some (.lst xs) => if (decide (-(2 ^ 63) ≤ k) && decide (k < 2 ^ 63) && decide (xs.length * k.toNat ≤ sz)) = true then some (.loc S.length, S ++ [.lst (List.replicate k.toNat xs).flatten]) else none
    | _ => none
  | _, _, _ => none
theorem opd_lstRep {X : Cx} {p : Pm} : OpD X p (binaryOp .Mult) lstRep := .of op_rep fun H x y Q ρ S d e d' S' hc hx hy h k => by
  unfold lstRep at h
  split at h
  · rename_i m j
    split at h
    · rename_i xs h1
      split at h
      · rename_i hz
        simp only [Bool.and_eq_true, decide_eq_true_eq] at hz
        cases h
        obtain ⟨a, rfl, ha⟩ := hx
        cases hy
        obtain ⟨vs, va, ra⟩ := hc.cell m a _ ha h1
        exact ⟨a, j, vs, rfl, rfl, va, hz.1.1, hz.1.2, by rw [← ra.length, sz_eq]; exact hz.2, fun q hq => k.lst hc hq (ra.flatten _)⟩
      · cases h
    · cases h
  · cases h

def orElse (g g' : D → D → Store → Option (D × Store)) : D → D → Store → Option (D × Store) := fun d e S => match g d e S with
  | some r => some r
  | none => g' d e S
def addD : D → D → Store → Option (D × Store)
  | .int i, .int j, S => some (.int (i + j), S)
  | .str a, .str b, S => if a.length + b.length ≤ sz then some (.str (a ++ b), S) else none
  | .tup xs, .tup ys, S => tupAdd (.tup xs) (.tup ys) S
  | .loc m, .loc n, S => lstAdd (.loc m) (.loc n) S
  | _, _, _ => none
theorem OpD.congr {X : Cx} {p : Pm} {f : Value → Value → Sem Value} {g g' : D → D → Store → Option (D × Store)} (h : OpD X p f g) (e : ∀ a b S r, g' a b S = some r → g a b S = some r) : OpD X p f g' :=
  fun pins s σ H x y v u Q ρ S d e' d' S' I hc hx hy rx ry hg k => h pins s σ H x y v u Q ρ S d e' d' S' I hc hx hy rx ry (e _ _ _ _ hg) k
theorem flat_int (i : Int) : flatI (.int i) (.int i) := fun _ _ _ => rfl
theorem flat_bl (i : Bool) : flatI (.bl i) (.bl i) := fun _ _ _ => rfl
theorem flat_str (i : Str) : flatI (.str i) (.str i) := fun _ _ _ => rfl
theorem opd_add {X : Cx} {p : Pm} (hp : p.K = X.K) : OpD X p (binaryOp .Add) addD :=
  ((OpD.int0 op_add (fun i j => .int (i + j)) fun _ _ => flat_int _).alt ((OpD.strs op_add_str (fun a b => decide (a.length + b.length ≤ sz)) (fun a b => .str (a ++ b)) (fun i j h => by rw [sz_eq]; exact of_decide_eq_true h) fun _ _ => flat_str _).alt
    ((opd_tupAdd hp).alt opd_lstAdd))).congr fun a b S r h => by
    unfold addD at h
    split at h
    · cases h; rfl
    · rename_i x y
      simp only [intB, strB]
      split at h
      · rename_i q
        rw [if_pos (decide_eq_true q)]
        exact h
      · cases h
    · simp only [intB, strB]
      rw [h]
    · rename_i m n
      simp only [intB, strB, tupAdd]
      exact h
    · cases h
def subD : D → D → Store → Option (D × Store) := intB (fun _ _ => true) fun i j => .int (i - j)
theorem opd_sub {X : Cx} {p : Pm} : OpD X p (binaryOp .Sub) subD := .int0 op_sub _ fun _ _ => flat_int _
def mulB (i j : Int) : Bool := (decide (-(2 ^ 64) < i) && decide (i < 2 ^ 64)) || (decide (-(2 ^ 64) < j) && decide (j < 2 ^ 64))
def mulD : D → D → Store → Option (D × Store)
  | .int i, .int j, S => if mulB i j = true then some (.int (i * j), S) else none
  | .loc m, .int k, S => lstRep (.loc m) (.int k) S
  | _, _, _ => none
theorem opd_mul {X : Cx} {p : Pm} : OpD X p (binaryOp .Mult) mulD :=
  ((OpD.int op_mul mulB (fun i j => .int (i * j)) (fun i j h => by
    unfold mulB at h
    simp only [Bool.or_eq_true, Bool.and_eq_true, decide_eq_true_eq] at h
    exact h) fun _ _ => flat_int _).alt opd_lstRep).congr fun a b S r h => by
    unfold mulD at h
    split at h
    · rename_i i j
      simp only [intB]
      rw [h]
    · simp only [intB]
      exact h
    · cases h
def fdivD : D → D → Store → Option (D × Store) := intB (fun _ j => decide (j ≠ 0) && decide (j.natAbs < 1073741824)) fun i j => .int (i.fdiv j)
theorem opd_fdiv {X : Cx} {p : Pm} : OpD X p (binaryOp .FloorDiv) fdivD := .int op_fdivN _ _ (fun i j h => by
  simp only [Bool.and_eq_true, decide_eq_true_eq] at h
  exact h) fun _ _ => flat_int _
def modD : D → D → Store → Option (D × Store) := intB (fun _ j => decide (j ≠ 0)) fun i j => .int (i.fmod j)
theorem opd_mod {X : Cx} {p : Pm} : OpD X p (binaryOp .Mod) modD := .int op_modN _ _ (fun i j h => of_decide_eq_true h) fun _ _ => flat_int _
def powB (i j : Int) : Bool := decide (0 ≤ j) && decide (j ≤ 1000000) && decide (i.natAbs < 2 ^ 64)
theorem powB_ok {i j : Int} (h : powB i j = true) : CPow i j := by
  unfold powB at h
  simp only [Bool.and_eq_true, decide_eq_true_eq] at h
  exact ⟨h.1.1, h.1.2, h.2⟩
def powD : D → D → Store → Option (D × Store) := intB powB fun i j => .int (i ^ j.toNat)
theorem opd_pow {X : Cx} {p : Pm} : OpD X p (binaryOp .Pow) powD := .int op_pow _ _ (fun i j h => powB_ok h) fun _ _ => flat_int _
def shlD : D → D → Store → Option (D × Store) := intB powB fun i j => .int (i * 2 ^ j.toNat)
theorem opd_shl {X : Cx} {p : Pm} : OpD X p (binaryOp .LShift) shlD := .int op_shl _ _ (fun i j h => powB_ok h) fun _ _ => flat_int _
def shrD : D → D → Store → Option (D × Store) := intB (fun _ j => decide (0 ≤ j)) fun i j => .int (i / 2 ^ j.toNat)
theorem opd_shr {X : Cx} {p : Pm} : OpD X p (binaryOp .RShift) shrD := .int op_shr _ _ (fun i j h => of_decide_eq_true h) fun _ _ => flat_int _
def andD : D → D → Store → Option (D × Store) := intB (fun _ _ => true) fun i j => .int (Builtin.bitAnd i j)
theorem opd_and {X : Cx} {p : Pm} : OpD X p (binaryOp .BitAnd) andD := .int0 op_and _ fun _ _ => flat_int _

/-! comparisons -/
def eqP (S : Store) (x y : D) : Option Bool := match toP S x, toP S y with
  | some a, some b => if (SeqAt.shaped a && SeqAt.shaped b) = true then some (PyData.eqv a b) else none
  | _, _ => none
def eqS : D → D → Option Bool
  | .str a, .str b => some (decide (a = b))
  | _, _ => none
def eqO (x y : D) (S : Store) : Option Bool := match eqS x y with
  | some b => some b
  | none => eqP S x y
def bOp (g : D → D → Store → Option Bool) (n : Bool) : D → D → Store → Option (D × Store) := fun x y S => (g x y S).map fun b => (.bl (if n then !b else b), S)
theorem bOp_some {g : D → D → Store → Option Bool} {n : Bool} {x y : D} {S : Store} {r : D × Store} (h : bOp g n x y S = some r) : ∃ b, g x y S = some b ∧ r = (.bl (if n then !b else b), S) := by
  unfold bOp at h
  cases q : g x y S with
  | none => rw [q] at h; cases h
  | some b => rw [q] at h; exact ⟨b, rfl, (Option.some.inj h).symm⟩
theorem bOp_of {g : D → D → Store → Option Bool} {n : Bool} {x y : D} {S : Store} {b : Bool} (h : g x y S = some b) : bOp g n x y S = some (.bl (if n then !b else b), S) := by
  unfold bOp
  rw [h]
  rfl
section
variable {X : Cx} {p : Pm}
/-- a comparison by its rule over data -/
theorem OpD.bool {f : Value → Value → Sem Value} {r : R2} {g : D → D → Store → Option Bool} {n : Bool} (ho : OpR X f r)
    (h : ∀ (H : Hp) (x y : V) (Q : VK) (ρ : List Addr) (S : Store) (d e : D) (b : Bool), Conc p ρ S H → VR p ρ H d x → VR p ρ H e y → g d e S = some b → Q (.bl (if n then !b else b)) H → r x y H Q) : OpD X p f (bOp g n) :=
  .of ho fun H x y Q ρ S d e d' S' hc hx hy hg k => by
    obtain ⟨b, e1, e2⟩ := bOp_some hg
    cases e2
    exact h H x y Q ρ S d e b hc hx hy e1 (k.here hc rfl)
theorem OpD.balt {f : Value → Value → Sem Value} {g g' g2 : D → D → Store → Option Bool} {n : Bool} (h : OpD X p f (bOp g n)) (h' : OpD X p f (bOp g' n)) (e : ∀ x y S b, g2 x y S = some b → g x y S = some b ∨ (g x y S = none ∧ g' x y S = some b)) : OpD X p f (bOp g2 n) :=
  (h.alt h').congr fun a b S r hr => by
    obtain ⟨c, e1, e2⟩ := bOp_some hr
    rw [e2]
    rcases e a b S c e1 with q | ⟨q, q'⟩
    · rw [bOp_of q]
    · have z : bOp g n a b S = none := by unfold bOp; rw [q]; rfl
      rw [z, bOp_of q']
theorem dec_str2 (a c : Str) : decide (V.str a = V.str c) = decide (a = c) := by rw [dec_str, Bool.eq_iff_iff]; simp
theorem eqS_some {x y : D} {b : Bool} (h : eqS x y = some b) : ∃ a c, x = .str a ∧ y = .str c ∧ b = decide (a = c) := by
  unfold eqS at h
  split at h
  · exact ⟨_, _, rfl, rfl, (Option.some.inj h).symm⟩
  · cases h
theorem eqP_some {S : Store} {x y : D} {b : Bool} (h : eqP S x y = some b) : ∃ a c, toP S x = some a ∧ toP S y = some c ∧ SeqAt.shaped a = true ∧ SeqAt.shaped c = true ∧ b = PyData.eqv a c := by
  unfold eqP at h
  split at h
  · rename_i a c h1 h2
    split at h
    · rename_i z
      rw [Bool.and_eq_true] at z
      exact ⟨a, c, h1, h2, z.1, z.2, (Option.some.inj h).symm⟩
    · cases h
  · cases h
theorem eqO_alt (x y : D) (S : Store) (b : Bool) (h : eqO x y S = some b) : (fun x y (_ : Store) => eqS x y) x y S = some b ∨ ((fun x y (_ : Store) => eqS x y) x y S = none ∧ (fun x y S => eqP S x y) x y S = some b) := by
  unfold eqO at h
  split at h
  · rename_i c q
    exact .inl (q.trans h)
  · rename_i q
    exact .inr ⟨q, h⟩
theorem opd_eq (hp : p.K = X.K) (hu : X.A.units + 64 < cLine) : OpD X p (compareOp .Eq) (bOp eqO false) :=
  .balt (.bool op_eq fun H x y Q ρ S d e b hc hx hy h q => by
    obtain ⟨a, c, rfl, rfl, rfl⟩ := eqS_some h
    cases hx
    cases hy
    exact ⟨rfl, by rw [dec_str2]; exact q⟩) (.bool (op_eqD hu) fun H x y Q ρ S d e b hc hx hy h q => by
    obtain ⟨a, c, e1, e2, s1, s2, rfl⟩ := eqP_some h
    exact ⟨a, c, hp ▸ dp_of hc hx e1, hp ▸ dp_of hc hy e2, s1, s2, q⟩) eqO_alt
theorem opd_ne (hp : p.K = X.K) (hu : X.A.units + 64 < cLine) : OpD X p (compareOp .NotEq) (bOp eqO true) :=
  .balt (.bool op_ne fun H x y Q ρ S d e b hc hx hy h q => by
    obtain ⟨a, c, rfl, rfl, rfl⟩ := eqS_some h
    cases hx
    cases hy
    exact ⟨rfl, by rw [dec_str2]; exact q⟩) (.bool (op_neD hu) fun H x y Q ρ S d e b hc hx hy h q => by
    obtain ⟨a, c, e1, e2, s1, s2, rfl⟩ := eqP_some h
    exact ⟨a, c, hp ▸ dp_of hc hx e1, hp ▸ dp_of hc hy e2, s1, s2, q⟩) eqO_alt
def strLt (a b : Str) : Bool := decide (a.cps.toList < b.cps.toList)
def ltI : D → D → Store → Option Bool
  | .int i, .int j, _ => some (decide (i < j))
  | _, _, _ => none
def ltS : D → D → Store → Option Bool
  | .str a, .str b, _ => some (strLt a b)
  | _, _, _ => none
def ltD (x y : D) (S : Store) : Option Bool := match ltI x y S with
  | some b => some b
  | none => ltS x y S
def gtD (x y : D) (S : Store) : Option Bool := ltD y x S
theorem ltI_some {x y : D} {S : Store} {b : Bool} (h : ltI x y S = some b) : ∃ i j, x = .int i ∧ y = .int j ∧ b = decide (i < j) := by
  unfold ltI at h
  split at h
  · exact ⟨_, _, rfl, rfl, (Option.some.inj h).symm⟩
  · cases h
theorem ltS_some {x y : D} {S : Store} {b : Bool} (h : ltS x y S = some b) : ∃ i j, x = .str i ∧ y = .str j ∧ b = strLt i j := by
  unfold ltS at h
  split at h
  · exact ⟨_, _, rfl, rfl, (Option.some.inj h).symm⟩
  · cases h
theorem ltD_alt (x y : D) (S : Store) (b : Bool) (h : ltD x y S = some b) : ltI x y S = some b ∨ (ltI x y S = none ∧ ltS x y S = some b) := by
  unfold ltD at h
  split at h
  · rename_i c q
    exact .inl (q.trans h)
  · rename_i q
    exact .inr ⟨q, h⟩
theorem not_lt_le (i j : Int) : (!decide (j < i)) = decide (i ≤ j) := by rw [Bool.eq_iff_iff]; simp
theorem opd_lt : OpD X p (compareOp .Lt) (bOp ltD false) :=
  .balt (.bool op_lt fun H x y Q ρ S d e b hc hx hy h q => by
    obtain ⟨i, j, rfl, rfl, rfl⟩ := ltI_some h
    cases hx; cases hy
    exact ⟨i, j, rfl, rfl, q⟩) (.bool op_lt_str fun H x y Q ρ S d e b hc hx hy h q => by
    obtain ⟨i, j, rfl, rfl, rfl⟩ := ltS_some h
    cases hx; cases hy
    exact ⟨i, j, rfl, rfl, q⟩) ltD_alt
theorem opd_gt : OpD X p (compareOp .Gt) (bOp gtD false) :=
  .balt (g := fun x y S => ltI y x S) (g' := fun x y S => ltS y x S) (.bool op_gt fun H x y Q ρ S d e b hc hx hy h q => by
    obtain ⟨i, j, rfl, rfl, rfl⟩ := ltI_some h
    cases hx; cases hy
    exact ⟨j, i, rfl, rfl, q⟩) (.bool op_gt_str fun H x y Q ρ S d e b hc hx hy h q => by
    obtain ⟨i, j, rfl, rfl, rfl⟩ := ltS_some h
    cases hx; cases hy
    exact ⟨j, i, rfl, rfl, q⟩) fun x y S b h => ltD_alt y x S b h
theorem opd_le : OpD X p (compareOp .LtE) (bOp gtD true) :=
  .balt (g := fun x y S => ltI y x S) (g' := fun x y S => ltS y x S) (.bool op_le fun H x y Q ρ S d e b hc hx hy h q => by
    obtain ⟨i, j, rfl, rfl, rfl⟩ := ltI_some h
    cases hx; cases hy
    exact ⟨j, i, rfl, rfl, by show Q (.bl (decide (j ≤ i))) H; rw [← not_lt_le]; exact q⟩) (.bool op_le_str fun H x y Q ρ S d e b hc hx hy h q => by
    obtain ⟨i, j, rfl, rfl, rfl⟩ := ltS_some h
    cases hx; cases hy
    exact ⟨j, i, rfl, rfl, q⟩) fun x y S b h => ltD_alt y x S b h
theorem opd_ge : OpD X p (compareOp .GtE) (bOp ltD true) :=
  .balt (.bool op_ge fun H x y Q ρ S d e b hc hx hy h q => by
    obtain ⟨i, j, rfl, rfl, rfl⟩ := ltI_some h
    cases hx; cases hy
    exact ⟨i, j, rfl, rfl, by show Q (.bl (decide (j ≤ i))) H; rw [← not_lt_le]; exact q⟩) (.bool op_ge_str fun H x y Q ρ S d e b hc hx hy h q => by
    obtain ⟨i, j, rfl, rfl, rfl⟩ := ltS_some h
    cases hx; cases hy
    exact ⟨i, j, rfl, rfl, q⟩) ltD_alt
def isNon : D → Bool
  | .non => true
  | _ => false
def isN : D → D → Store → Option Bool
  | x, .non, _ => some (isNon x)
  | _, _, _ => none
def isB : D → D → Store → Option Bool
  | .bl a, .bl b, _ => some (decide (a = b))
  | _, _, _ => none
/-- is of None, of truths -/
def isD (x y : D) (S : Store) : Option Bool := match isN x y S with
  | some b => some b
  | none => isB x y S
theorem isN_some {x y : D} {S : Store} {b : Bool} (h : isN x y S = some b) : y = .non ∧ b = isNon x := by
  unfold isN at h
  split at h
  · exact ⟨rfl, (Option.some.inj h).symm⟩
  · cases h
theorem isB_some {x y : D} {S : Store} {b : Bool} (h : isB x y S = some b) : ∃ i j, x = .bl i ∧ y = .bl j ∧ b = decide (i = j) := by
  unfold isB at h
  split at h
  · exact ⟨_, _, rfl, rfl, (Option.some.inj h).symm⟩
  · cases h
theorem isD_alt (x y : D) (S : Store) (b : Bool) (h : isD x y S = some b) : isN x y S = some b ∨ (isN x y S = none ∧ isB x y S = some b) := by
  unfold isD at h
  split at h
  · rename_i c q
    exact .inl (q.trans h)
  · rename_i q
    exact .inr ⟨q, h⟩
theorem isNon_ok {ρ : List Addr} {H : Hp} {d : D} {v : V} (h : VR p ρ H d v) : decide (v = .non) = isNon d := by
  cases d with
  | non => cases h; rfl
  | bl b => cases h; rfl
  | int b => cases h; rfl
  | str b => cases h; rfl
  | tup b => obtain ⟨a, xs, rfl, _⟩ := h; rfl
  | ros b => obtain ⟨a, xs, rfl, _⟩ := h; rfl
  | loc b => obtain ⟨a, rfl, _⟩ := h; rfl
  | ty b => cases h; rfl
  | gl b => obtain ⟨a, rfl, _⟩ := h; rfl
  | exo c ks vs => obtain ⟨a, _, _, rfl, _⟩ := h; rfl
theorem opd_is : OpD X p (compareOp .Is) (bOp isD false) :=
  .balt (.bool op_isN fun H x y Q ρ S d e b hc hx hy h q => by
    obtain ⟨rfl, rfl⟩ := isN_some h
    cases hy
    exact ⟨rfl, by rw [isNon_ok hx]; exact q⟩) (.bool op_isBl fun H x y Q ρ S d e b hc hx hy h q => by
    obtain ⟨i, j, rfl, rfl, rfl⟩ := isB_some h
    cases hx; cases hy
    exact ⟨i, j, rfl, rfl, q⟩) isD_alt
theorem opd_isnot : OpD X p (compareOp .IsNot) (bOp isD true) :=
  .balt (.bool op_notN fun H x y Q ρ S d e b hc hx hy h q => by
    obtain ⟨rfl, rfl⟩ := isN_some h
    cases hy
    exact ⟨rfl, by rw [isNon_ok hx]; exact q⟩) (.bool op_notBl fun H x y Q ρ S d e b hc hx hy h q => by
    obtain ⟨i, j, rfl, rfl, rfl⟩ := isB_some h
    cases hx; cases hy
    exact ⟨i, j, rfl, rfl, q⟩) isD_alt
/-- flat values -/
def flatD : D → Bool
  | .non => true | .bl _ => true | .int _ => true | .str _ => true
  | _ => false
def eqF : D → D → Bool
  | .non, .non => true
  | .bl a, .bl b => a == b
  | .bl a, .int b => (if a then 1 else 0) == b
  | .int a, .bl b => a == (if b then 1 else 0)
  | .int a, .int b => a == b
  | .str a, .str b => a == b
  | _, _ => false
theorem flatD_ok {ρ : List Addr} {H : Hp} {d : D} {v : V} (h : VR p ρ H d v) (f : flatD d = true) : flatV v = true := by
  cases d <;> first | (cases h; rfl) | cases f
theorem flatDs_ok {ρ : List Addr} {H : Hp} : ∀ {ds : List D} {vs : List V}, VRs p ρ H ds vs → ds.all flatD = true → vs.all flatV = true
  | [], _, h, _ => by rw [show _ = [] from h]; rfl
  | d :: ds, _, ⟨x, r, h1, h2, h3⟩, f => by
    subst h1
    rw [List.all_cons, Bool.and_eq_true] at f ⊢
    exact ⟨flatD_ok h2 f.1, flatDs_ok h3 f.2⟩
theorem eqF_ok {ρ : List Addr} {H : Hp} {d e : D} {v u : V} (h : VR p ρ H d v) (h' : VR p ρ H e u) (f : flatD d = true) (f' : flatD e = true) : eqV v u = eqF d e := by
  cases d <;> first | cases f | skip
  all_goals cases e <;> first | cases f' | skip
  all_goals
    cases h
    cases h'
    rfl
def inF (x : D) (ys : List D) : Bool := ys.any fun y => eqF y x
theorem inF_ok {ρ : List Addr} {H : Hp} {d : D} {v : V} (h : VR p ρ H d v) (f : flatD d = true) : ∀ {ds : List D} {vs : List V}, VRs p ρ H ds vs → ds.all flatD = true → inV v vs = inF d ds
  | [], _, r, _ => by rw [show _ = [] from r]; rfl
  | e :: ds, _, ⟨x, r, h1, h2, h3⟩, g => by
    subst h1
    rw [List.all_cons, Bool.and_eq_true] at g
    show (eqV x v || inV v r) = (eqF e d || inF d ds)
    rw [eqF_ok h2 h g.1 f, inF_ok h f h3 g.2]
def txtIn (a b : Str) : Bool := !(Builtin.Str.occurrences b a 0 b.length 1).isEmpty
def lstOf (S : Store) : D → Option (List D)
  | .ros ds => some ds
  | .loc n => match S[n]? with
    | some (.lst ds) => some ds
    | _ => none
  | _ => none
def inS : D → D → Store → Option Bool
  | .str a, .str b, _ => some (txtIn a b)
  | _, _, _ => none
def inQ (x y : D) (S : Store) : Option Bool := match itemsOf S y with
  | none => none
  | some ys => if (flatD x && ys.all flatD) = true then some (inF x ys) else none
def inL (x y : D) (S : Store) : Option Bool := match toP S x, toP S y with
  | some d, some (.list ds) => if (SeqAt.shaped d && SeqAt.shaped (.list ds)) = true then some (ds.any fun z => PyData.eqv z d) else none
  | _, _ => none
def inQL (x y : D) (S : Store) : Option Bool := match inQ x y S with
  | some b => some b
  | none => inL x y S
/-- in: texts, flat items, lists of deep items -/
def inD (x y : D) (S : Store) : Option Bool := match inS x y S with
  | some b => some b
  | none => inQL x y S
theorem inS_some {x y : D} {S : Store} {b : Bool} (h : inS x y S = some b) : ∃ i j, x = .str i ∧ y = .str j ∧ b = txtIn i j := by
  unfold inS at h
  split at h
  · exact ⟨_, _, rfl, rfl, (Option.some.inj h).symm⟩
  · cases h
theorem inQ_some {x y : D} {S : Store} {b : Bool} (h : inQ x y S = some b) : ∃ ys, itemsOf S y = some ys ∧ flatD x = true ∧ ys.all flatD = true ∧ b = inF x ys := by
  unfold inQ at h
  split at h
  · cases h
  · rename_i ys q
    split at h
    · rename_i z
      rw [Bool.and_eq_true] at z
      exact ⟨ys, q, z.1, z.2, (Option.some.inj h).symm⟩
    · cases h
theorem inL_some {x y : D} {S : Store} {b : Bool} (h : inL x y S = some b) : ∃ d ds, toP S x = some d ∧ toP S y = some (.list ds) ∧ SeqAt.shaped d = true ∧ SeqAt.shaped (.list ds) = true ∧ b = ds.any fun z => PyData.eqv z d := by
  unfold inL at h
  split at h
  · rename_i d ds h1 h2
    split at h
    · rename_i z
      rw [Bool.and_eq_true] at z
      exact ⟨d, ds, h1, h2, z.1, z.2, (Option.some.inj h).symm⟩
    · cases h
  · cases h
theorem inQL_alt (x y : D) (S : Store) (b : Bool) (h : inQL x y S = some b) : inQ x y S = some b ∨ (inQ x y S = none ∧ inL x y S = some b) := by
  unfold inQL at h
  split at h
  · rename_i c q
    exact .inl (q.trans h)
  · rename_i q
    exact .inr ⟨q, h⟩
theorem inD_alt (x y : D) (S : Store) (b : Bool) (h : inD x y S = some b) : inS x y S = some b ∨ (inS x y S = none ∧ inQL x y S = some b) := by
  unfold inD at h
  split at h
  · rename_i c q
    exact .inl (q.trans h)
  · rename_i q
    exact .inr ⟨q, h⟩
theorem opd_in (hp : p.K = X.K) (hu : X.A.units + 65 < cLine) : OpD X p (compareOp .In) (bOp inD false) :=
  .balt (.bool op_in_str fun H x y Q ρ S d e b hc hx hy h q => by
    obtain ⟨i, j, rfl, rfl, rfl⟩ := inS_some h
    cases hx; cases hy
    exact ⟨i, j, rfl, rfl, q⟩) (.balt (.bool op_in_seq fun H x y Q ρ S d e b hc hx hy h q => by
    obtain ⟨ys, e1, f1, f2, rfl⟩ := inQ_some h
    obtain ⟨a, xs, rfl, hs, r⟩ := items_of hc hy e1
    exact ⟨a, xs, rfl, hp ▸ hs, flatD_ok hx f1, flatDs_ok r f2, by rw [inF_ok hx f1 r f2]; exact q⟩) (.bool (op_inD hu) fun H x y Q ρ S d e b hc hx hy h q => by
    obtain ⟨d2, ds2, h1, h2, s1, s2, rfl⟩ := inL_some h
    exact ⟨d2, ds2, hp ▸ dp_of hc hx h1, hp ▸ dp_of hc hy h2, s1, s2, q⟩) inQL_alt) inD_alt
theorem opd_notin (hp : p.K = X.K) (hu : X.A.units + 65 < cLine) : OpD X p (compareOp .NotIn) (bOp inD true) :=
  .balt (.bool op_notin_str fun H x y Q ρ S d e b hc hx hy h q => by
    obtain ⟨i, j, rfl, rfl, rfl⟩ := inS_some h
    cases hx; cases hy
    exact ⟨i, j, rfl, rfl, q⟩) (.balt (.bool op_notIn_seq fun H x y Q ρ S d e b hc hx hy h q => by
    obtain ⟨ys, e1, f1, f2, rfl⟩ := inQ_some h
    obtain ⟨a, xs, rfl, hs, r⟩ := items_of hc hy e1
    exact ⟨a, xs, rfl, hp ▸ hs, flatD_ok hx f1, flatDs_ok r f2, by rw [inF_ok hx f1 r f2]; exact q⟩) (.bool (op_notInD hu) fun H x y Q ρ S d e b hc hx hy h q => by
    obtain ⟨d2, ds2, h1, h2, s1, s2, rfl⟩ := inL_some h
    exact ⟨d2, ds2, hp ▸ dp_of hc hx h1, hp ▸ dp_of hc hy h2, s1, s2, q⟩) inQL_alt) inD_alt
end
end Mn

namespace Mn
open PySem PySem.Spec PyProof.Rows L2

abbrev DE := Env → Store → Rs D
abbrev DT := Env → Store → Rs Bool
abbrev DA := Env → Store → Rs (List D)
def lf {α : Type} : Option (α × Store) → Rs α
  | some (a, S) => .ok a S
  | none => .bad

/-! readings by a semantics -/
def GE (p : Pm) (W : WX) (r : DE) : TE := fun σ H Q => ∃ ρ S env, EnvR p ρ H env σ ∧ Conc p ρ S H ∧ Post p ρ H (fun d _ ρ' H' => ∀ v, VR p ρ' H' d v → Q v H') (fun cls dd _ H' => W cls dd σ H') (r env S)
def GT (p : Pm) (W : WX) (r : DT) : TT := fun σ H Q => ∃ ρ S env, EnvR p ρ H env σ ∧ Conc p ρ S H ∧ Post p ρ H (fun b _ _ H' => Q b H') (fun cls dd _ H' => W cls dd σ H') (r env S)
def GA (p : Pm) (W : WX) (r : DA) : TA := fun σ H Q => ∃ ρ S env, EnvR p ρ H env σ ∧ Conc p ρ S H ∧ Post p ρ H (fun ds _ ρ' H' => ∀ vs, VRs p ρ' H' ds vs → Q vs H') (fun cls dd _ H' => W cls dd σ H') (r env S)

section
variable {X : Cx} {p : Pm} {W : WX} {pins : List (Addr × Obj)} {σ : L2.St} {H : Hp} {s : Shared} {ρ : List Addr} {S : Store} {env : Env} {α : Type} {φ : α → Store → List Addr → Hp → Prop}
theorem pe_run {a : Expr} {ra : DE} {f : D → Store → Rs α} {P : Value → Shared → Prop} (ha : PE X a (GE p W ra)) (I : Inv X pins σ H s) (he : EnvR p ρ H env σ) (hc : Conc p ρ S H)
    (hp : Post p ρ H φ (fun cls dd _ H' => W cls dd σ H') ((ra env S).bind f))
    (k : ∀ d S' ρ' H' v u s', Ext p ρ H ρ' H' → Conc p ρ' S' H' → VR p ρ' H' d v → RelV v u → Inv X pins σ H' s' → Post p ρ' H' φ (fun cls dd _ H' => W cls dd σ H') (f d S') → P u s') :
    wpAny (model X.prog X.w) X.A (eval a X.env) P X.xe s := by
  cases h : ra env S with
  | ok d S' =>
    rw [h] at hp
    refine thn (ha.run pins s σ H (fun v H' => ∃ ρ', Ext p ρ H ρ' H' ∧ Conc p ρ' S' H' ∧ VR p ρ' H' d v) I ⟨ρ, S, env, he, hc, by rw [h]; exact fun ρ' H' x c v r => ⟨ρ', x, c, r⟩⟩) fun u s' ⟨v, H', I', r, ρ', x, c, q⟩ => k d S' ρ' H' v u s' x c q r I' (Post.ext (r := f d S') hp x)
  | exc c fl S' =>
    rw [h] at hp
    exact thn (ha.run pins s σ H (fun _ _ => False) I ⟨ρ, S, env, he, hc, by rw [h]; exact hp⟩) fun _ _ ⟨_, _, _, _, z⟩ => z.elim
  | bad => rw [h] at hp; exact hp.elim
theorem pt_run {a : Expr} {ra : DT} {f : Bool → Store → Rs α} {P : Bool → Shared → Prop} (ha : PT X a (GT p W ra)) (I : Inv X pins σ H s) (he : EnvR p ρ H env σ) (hc : Conc p ρ S H)
    (hp : Post p ρ H φ (fun cls dd _ H' => W cls dd σ H') ((ra env S).bind f))
    (k : ∀ d S' ρ' H' s', Ext p ρ H ρ' H' → Conc p ρ' S' H' → Inv X pins σ H' s' → Post p ρ' H' φ (fun cls dd _ H' => W cls dd σ H') (f d S') → P d s') :
    wpAny (model X.prog X.w) X.A (isTrue a X.env (eval a X.env)) P X.xe s := by
  cases h : ra env S with
  | ok d S' =>
    rw [h] at hp
    refine thn (ha.run pins s σ H (fun b H' => b = d ∧ ∃ ρ', Ext p ρ H ρ' H' ∧ Conc p ρ' S' H') I ⟨ρ, S, env, he, hc, by rw [h]; exact fun ρ' H' x c => ⟨rfl, ρ', x, c⟩⟩) fun b s' ⟨H', I', e, ρ', x, c⟩ => by
      subst e
      exact k b S' ρ' H' s' x c I' (Post.ext (r := f b S') hp x)
  | exc c fl S' =>
    rw [h] at hp
    exact thn (ha.run pins s σ H (fun _ _ => False) I ⟨ρ, S, env, he, hc, by rw [h]; exact hp⟩) fun _ _ ⟨_, _, z⟩ => z.elim
  | bad => rw [h] at hp; exact hp.elim
theorem pw_run {a : Expr} {ra : DT} {wh : Sem Value} {f : Bool → Store → Rs α} {P : Bool → Shared → Prop} (ha : PW X a (GT p W ra)) (I : Inv X pins σ H s) (he : EnvR p ρ H env σ) (hc : Conc p ρ S H)
    (hp : Post p ρ H φ (fun cls dd _ H' => W cls dd σ H') ((ra env S).bind f))
    (k : ∀ d S' ρ' H' s', Ext p ρ H ρ' H' → Conc p ρ' S' H' → Inv X pins σ H' s' → Post p ρ' H' φ (fun cls dd _ H' => W cls dd σ H') (f d S') → P d s') :
    wpAny (model X.prog X.w) X.A (isTrue a X.env wh) P X.xe s := by
  cases h : ra env S with
  | ok d S' =>
    rw [h] at hp
    refine thn (ha.run wh pins s σ H (fun b H' => b = d ∧ ∃ ρ', Ext p ρ H ρ' H' ∧ Conc p ρ' S' H') I ⟨ρ, S, env, he, hc, by rw [h]; exact fun ρ' H' x c => ⟨rfl, ρ', x, c⟩⟩) fun b s' ⟨H', I', e, ρ', x, c⟩ => by
      subst e
      exact k b S' ρ' H' s' x c I' (Post.ext (r := f b S') hp x)
  | exc c fl S' =>
    rw [h] at hp
    exact thn (ha.run wh pins s σ H (fun _ _ => False) I ⟨ρ, S, env, he, hc, by rw [h]; exact hp⟩) fun _ _ ⟨_, _, z⟩ => z.elim
  | bad => rw [h] at hp; exact hp.elim
theorem pa_run {a : List Expr} {ra : DA} {pos : Pos} {f : List D → Store → Rs α} {P : List Value → Shared → Prop} (ha : PA X a (GA p W ra)) (I : Inv X pins σ H s) (he : EnvR p ρ H env σ) (hc : Conc p ρ S H)
    (hp : Post p ρ H φ (fun cls dd _ H' => W cls dd σ H') ((ra env S).bind f))
    (k : ∀ ds S' ρ' H' vs us s', Ext p ρ H ρ' H' → Conc p ρ' S' H' → VRs p ρ' H' ds vs → Vals vs us → Inv X pins σ H' s' → Post p ρ' H' φ (fun cls dd _ H' => W cls dd σ H') (f ds S') → P us s') :
    wpAny (model X.prog X.w) X.A (spliced (backTo pos (starEach a X.env))) P X.xe s := by
  cases h : ra env S with
  | ok d S' =>
    rw [h] at hp
    refine thn (ha.run pos pins s σ H (fun v H' => ∃ ρ', Ext p ρ H ρ' H' ∧ Conc p ρ' S' H' ∧ VRs p ρ' H' d v) I ⟨ρ, S, env, he, hc, by rw [h]; exact fun ρ' H' x c v r => ⟨ρ', x, c, r⟩⟩) fun u s' ⟨v, H', I', r, ρ', x, c, q⟩ => k d S' ρ' H' v u s' x c q r I' (Post.ext (r := f d S') hp x)
  | exc c fl S' =>
    rw [h] at hp
    exact thn (ha.run pos pins s σ H (fun _ _ => False) I ⟨ρ, S, env, he, hc, by rw [h]; exact hp⟩) fun _ _ ⟨_, _, _, _, z⟩ => z.elim
  | bad => rw [h] at hp; exact hp.elim
theorem bind_ok {β γ : Type} (r : Rs β) : r.bind (fun a S => Rs.ok a S) = r := by cases r <;> rfl
end

/-- the end of an expression -/
theorem post_fin {X : Cx} {p : Pm} {W : WX} {pins : List (Addr × Obj)} {σ : L2.St} {H : Hp} {s : Shared} {ρ : List Addr} {S : Store} {Q : VK} {d : D} {v : V} {u : Value} (I : Inv X pins σ H s) (hc : Conc p ρ S H) (h : VR p ρ H d v) (r : RelV v u)
    (hp : Post p ρ H (fun d _ ρ' H' => ∀ v, VR p ρ' H' d v → Q v H') (fun cls dd _ H' => W cls dd σ H') (.ok d S)) : EP X pins σ Q u s := ⟨v, H, I, r, hp ρ H (.refl ..) hc v h⟩

section
variable {X : Cx} {p : Pm} {W : WX} {a b c : Expr} {ra rb rc : DE} {pos : Pos}
/-! names, constants -/
def varD (i : Nat) : DE := fun env S => match env[i]? with
  | some (some d) => .ok d S
  | _ => .bad
theorem ge_var {i : Nat} {x : Str} (hN : X.N[i]? = some x) (hv : Vis X.env.scope x) (hd : (x == ("__debug__" : Str)) = false) (hcd : (x == ("__classdict__" : Str)) = false) : PE X (.Name x pos) (GE p W (varD i)) := by
  refine ⟨fun pins s σ H Q I ⟨ρ, S, env, he, hc, hp⟩ => (pe_var hN hv hd hcd).run pins s σ H Q I ?_⟩
  unfold varD at hp
  split at hp
  · rename_i d q
    obtain ⟨v, h1, h2⟩ := he.2 i d q
    exact ⟨v, h1, hp ρ H (.refl ..) hc v h2⟩
  · exact hp.elim
def cstD (d : D) : DE := fun _ S => .ok d S
theorem ge_of_c {e : Expr} {v : V} {d : D} (h : PE X e (tC v)) (q : ∀ ρ H, VR p ρ H d v) : PE X e (GE p W (cstD d)) :=
  ⟨fun pins s σ H Q I ⟨ρ, S, env, he, hc, hp⟩ => h.run pins s σ H Q I (hp ρ H (.refl ..) hc v (q ρ H))⟩

/-! two operands -/
def bin2 (g : D → D → Store → Option (D × Store)) (ra rb : DE) : DE := fun env S => (ra env S).bind fun x S1 => (rb env S1).bind fun y S2 => lf (g x y S2)
theorem opd_run {f : Value → Value → Sem Value} {g : D → D → Store → Option (D × Store)} (h : OpD X p f g) {pins : List (Addr × Obj)} {σ : L2.St} {H : Hp} {s : Shared} {ρ : List Addr} {S : Store} {Q : VK} {d e : D} {x y : V} {v u : Value} (I : Inv X pins σ H s) (hc : Conc p ρ S H)
    (hx : VR p ρ H d x) (hy : VR p ρ H e y) (rx : RelV x v) (ry : RelV y u) (hp : Post p ρ H (fun d _ ρ' H' => ∀ v, VR p ρ' H' d v → Q v H') (fun cls dd _ H' => W cls dd σ H') (lf (g d e S))) : wpAny (model X.prog X.w) X.A (f v u) (EP X pins σ Q) X.xe s := by
  cases q : g d e S with
  | none => rw [q] at hp; exact hp.elim
  | some r =>
    obtain ⟨d', S'⟩ := r
    rw [q] at hp
    exact h pins s σ H x y v u Q ρ S d e d' S' I hc hx hy rx ry q hp
theorem ge_bin {op : Operator} {g : D → D → Store → Option (D × Store)} (h : OpD X p (binaryOp op) g) (ha : PE X a (GE p W ra)) (hb : PE X b (GE p W rb)) : PE X (.BinOp a op b pos) (GE p W (bin2 g ra rb)) := by
  refine ⟨fun pins s σ H Q I ⟨ρ, S, env, he, hc, hp⟩ => wpAny_BinOp ?_⟩
  refine pe_run ha I he hc hp fun d S1 ρ1 H1 v u s1 x1 c1 q1 r1 I1 p1 => ?_
  refine pe_run hb I1 (he.mono x1) c1 p1 fun e S2 ρ2 H2 w t s2 x2 c2 q2 r2 I2 p2 => ?_
  exact opd_run h I2 c2 (VR.mono x2 _ _ q1) q2 r1 r2 p2
theorem ge_cmp {op : CmpOp} {g : D → D → Store → Option (D × Store)} (h : OpD X p (compareOp op) g) (ha : PE X a (GE p W ra)) (hb : PE X b (GE p W rb)) (hm : behindInMarks op b = false) : PE X (.Compare a [op] [b] pos) (GE p W (bin2 g ra rb)) := by
  refine ⟨fun pins s σ H Q I ⟨ρ, S, env, he, hc, hp⟩ => wpAny_Compare1 ?_ hm⟩
  refine pe_run ha I he hc hp fun d S1 ρ1 H1 v u s1 x1 c1 q1 r1 I1 p1 => ?_
  refine pe_run hb I1 (he.mono x1) c1 p1 fun e S2 ρ2 H2 w t s2 x2 c2 q2 r2 I2 p2 => ?_
  exact opd_run h I2 c2 (VR.mono x2 _ _ q1) q2 r1 r2 p2
def toB (d : D) (S : Store) : Rs Bool := match d with
  | .bl b => .ok b S
  | _ => .bad
theorem post_toB {p : Pm} {ρ : List Addr} {H : Hp} {α : Type} {φ : α → Store → List Addr → Hp → Prop} {ψ : Value → Option Addr → List Addr → Hp → Prop} {d : D} {S : Store} {f : Bool → Store → Rs α} (h : Post p ρ H φ ψ ((toB d S).bind f)) : ∃ k, d = .bl k ∧ Post p ρ H φ ψ (f k S) := by
  unfold toB at h
  split at h
  · exact ⟨_, rfl, h⟩
  · exact h.elim
/-- a chain of two comparisons -/
def chain2 (g g' : D → D → Store → Option (D × Store)) (ra rb rc : DE) : DE := fun env S => (ra env S).bind fun x S1 => (rb env S1).bind fun y S2 => (lf (g x y S2)).bind fun z S3 => (toB z S3).bind fun k S4 => if k = true then (rc env S4).bind fun w S5 => lf (g' y w S5) else .ok (.bl false) S4
theorem opd_runk {f : Value → Value → Sem Value} {g : D → D → Store → Option (D × Store)} (h : OpD X p f g) {pins : List (Addr × Obj)} {σ : L2.St} {H : Hp} {s : Shared} {ρ : List Addr} {S : Store} {d e : D} {x y : V} {v u : Value} {α : Type} {φ : α → Store → List Addr → Hp → Prop} {fk : D → Store → Rs α} {P : Value → Shared → Prop} (I : Inv X pins σ H s) (hc : Conc p ρ S H)
    (hx : VR p ρ H d x) (hy : VR p ρ H e y) (rx : RelV x v) (ry : RelV y u) (hp : Post p ρ H φ (fun cls dd _ H' => W cls dd σ H') ((lf (g d e S)).bind fk))
    (k : ∀ d S' ρ' H' v u s', Ext p ρ H ρ' H' → Conc p ρ' S' H' → VR p ρ' H' d v → RelV v u → Inv X pins σ H' s' → Post p ρ' H' φ (fun cls dd _ H' => W cls dd σ H') (fk d S') → P u s') : wpAny (model X.prog X.w) X.A (f v u) P X.xe s := by
  cases q : g d e S with
  | none => rw [q] at hp; exact hp.elim
  | some r =>
    obtain ⟨d', S'⟩ := r
    rw [q] at hp
    refine thn (h pins s σ H x y v u (fun v H' => ∃ ρ', Ext p ρ H ρ' H' ∧ Conc p ρ' S' H' ∧ VR p ρ' H' d' v) ρ S d e d' S' I hc hx hy rx ry q fun ρ' H' x c v r => ⟨ρ', x, c, r⟩) fun u s' ⟨v, H', I', r, ρ', x, c, q⟩ => k d' S' ρ' H' v u s' x c q r I' (Post.ext (r := fk d' S') hp x)
theorem ge_chain {op op' : CmpOp} {g g' : D → D → Store → Option (D × Store)} (h : OpD X p (compareOp op) g) (h' : OpD X p (compareOp op') g') (ha : PE X a (GE p W ra)) (hb : PE X b (GE p W rb)) (hcc : PE X c (GE p W rc)) (hm : lastMarks [op, op'] [b, c] = false) :
    PE X (.Compare a [op, op'] [b, c] pos) (GE p W (chain2 g g' ra rb rc)) := by
  refine ⟨fun pins s σ H Q I ⟨ρ, S, env, he, hc, hp⟩ => Compare_chain ?_ hm⟩
  refine pe_run ha I he hc hp fun d S1 ρ1 H1 v u s1 x1 c1 q1 r1 I1 p1 => chain_link ?_
  refine pe_run hb I1 (he.mono x1) c1 p1 fun e S2 ρ2 H2 w t s2 x2 c2 q2 r2 I2 p2 => ?_
  refine opd_runk h I2 c2 (VR.mono x2 _ _ q1) q2 r1 r2 p2 fun z S3 ρ3 H3 w3 t3 s3 x3 c3 q3 r3 I3 p3 => ?_
  obtain ⟨k, rfl, p4⟩ := post_toB p3
  cases q3
  cases r3
  refine wpAny_truthy_bool ?_
  cases k with
  | false => exact ite_ff ⟨.bl false, H3, I3, rfl, p4 ρ3 H3 (.refl ..) c3 _ rfl⟩
  | true =>
    refine ite_tt (chain_last ?_)
    refine pe_run hcc I3 (((he.mono x1).mono x2).mono x3) c3 p4 fun e4 S4 ρ4 H4 w4 t4 s4 x4 c4 q4 r4 I4 p5 => ?_
    exact opd_run h' I4 c4 (VR.mono x4 _ _ (VR.mono x3 _ _ q2)) q4 r2 r4 p5

/-! truth -/
def truO (d : D) (S : Store) : Option Bool := match d with
  | .non => some false
  | .bl b => some b
  | .int i => some (i != 0)
  | .str x => if x.length ≤ sz then some ((x.length : Int) != 0) else none
  | .tup xs => some (!xs.isEmpty)
  | .ros xs => some (!xs.isEmpty)
  | .loc n => match S[n]? with
    | some (.lst xs) => some (!xs.isEmpty)
    | some (.dct xs) => some (!xs.isEmpty)
    | _ => none
  | _ => none
def truR (d : D) (S : Store) : Rs Bool := match truO d S with
  | some b => .ok b S
  | none => .bad
theorem VRs.emp {ρ : List Addr} {H : Hp} {ds : List D} {xs : List V} (h : VRs p ρ H ds xs) : ds.isEmpty = xs.isEmpty := by
  have e := h.length
  cases ds <;> cases xs <;> first | rfl | (simp at e)
theorem KRs.emp {ρ : List Addr} {H : Hp} {ds : List (Key × D)} {xs : List (Key × V)} (h : KRs p ρ H ds xs) : ds.isEmpty = xs.isEmpty := by
  cases ds with
  | nil => rw [show xs = [] from h]; rfl
  | cons a r => obtain ⟨k, d⟩ := a; obtain ⟨x, t, e, _⟩ := h; rw [e]; rfl
theorem tru_of {ρ : List Addr} {S : Store} {H : Hp} {d : D} {v : V} {b : Bool} (hc : Conc p ρ S H) (h : VR p ρ H d v) (e : truO d S = some b) : TruV p.K v H b := by
  cases d with
  | non => cases h; exact (Option.some.inj e).symm
  | bl b => cases h; exact (Option.some.inj e).symm
  | int b => cases h; exact (Option.some.inj e).symm
  | str x =>
    cases h
    have e' : (if x.length ≤ sz then some ((x.length : Int) != 0) else none) = some b := e
    split at e'
    · rename_i z
      exact ⟨by rw [sz_eq]; exact z, (Option.some.inj e').symm⟩
    · cases e'
  | tup ds =>
    obtain ⟨a, xs, rfl, h1, h2⟩ := h
    exact .inr (.inl ⟨xs, h1, by rw [← h2.emp]; exact (Option.some.inj e).symm⟩)
  | ros ds =>
    obtain ⟨a, xs, rfl, h1, h2⟩ := h
    exact .inl ⟨xs, h1.sq, by rw [← h2.emp]; exact (Option.some.inj e).symm⟩
  | loc n =>
    obtain ⟨a, rfl, ha⟩ := h
    have e' : (match S[n]? with
      | some (.lst xs) => some (!xs.isEmpty)
      | some (.dct xs) => some (!xs.isEmpty)
      | _ => none) = some b := e
    split at e'
    · rename_i ds hS
      obtain ⟨xs, h1, h2⟩ := hc.cell n a _ ha hS
      exact .inl ⟨xs, SqL.of h1, by rw [← h2.emp]; exact (Option.some.inj e').symm⟩
    · rename_i ds hS
      obtain ⟨xs, h1, h2⟩ := hc.cell n a _ ha hS
      exact .inr (.inr ⟨xs, h1, by rw [← h2.emp]; exact (Option.some.inj e').symm⟩)
    · cases e'
  | exo _ _ _ => cases e
  | ty n => cases e
  | gl n => cases e
theorem post_truR {ρ : List Addr} {H : Hp} {α : Type} {φ : α → Store → List Addr → Hp → Prop} {ψ : Value → Option Addr → List Addr → Hp → Prop} {d : D} {S : Store} {f : Bool → Store → Rs α} (h : Post p ρ H φ ψ ((truR d S).bind f)) : ∃ k, truO d S = some k ∧ Post p ρ H φ ψ (f k S) := by
  unfold truR at h
  split at h
  · rename_i b q
    exact ⟨b, q, h⟩
  · exact h.elim
theorem tru_run (hp : p.K = X.K) {pins : List (Addr × Obj)} {σ : L2.St} {H : Hp} {s : Shared} {ρ : List Addr} {S : Store} {d : D} {v : V} {u : Value} {α : Type} {φ : α → Store → List Addr → Hp → Prop} {f : Bool → Store → Rs α} {P : Bool → Shared → Prop} (I : Inv X pins σ H s) (hc : Conc p ρ S H) (h : VR p ρ H d v) (r : RelV v u)
    (hq : Post p ρ H φ (fun cls dd _ H' => W cls dd σ H') ((truR d S).bind f)) (k : ∀ b s', truO d S = some b → Inv X pins σ H s' → Post p ρ H φ (fun cls dd _ H' => W cls dd σ H') (f b S) → P b s') : wpAny (model X.prog X.w) X.A (truthy u) P X.xe s := by
  obtain ⟨b, e, q⟩ := post_truR hq
  refine thn (tru_ok pins s σ H v u (fun c H2 => c = b ∧ H2 = H) I r ⟨b, hp ▸ tru_of hc h e, rfl, rfl⟩) fun c s2 ⟨H2, I2, e1, e2⟩ => ?_
  subst e1
  subst e2
  exact k c s2 e I2 q

/-! and, or, not, if -/
def andE (ra rb : DE) : DE := fun env S => (ra env S).bind fun x S1 => (truR x S1).bind fun k S2 => if k = true then rb env S2 else .ok x S2
def orE (ra rb : DE) : DE := fun env S => (ra env S).bind fun x S1 => (truR x S1).bind fun k S2 => if k = true then .ok x S2 else rb env S2
def notE (ra : DE) : DE := fun env S => (ra env S).bind fun x S1 => (truR x S1).bind fun k S2 => .ok (.bl (!k)) S2
def iteE (t : DT) (ra rb : DE) : DE := fun env S => (t env S).bind fun k S1 => if k = true then ra env S1 else rb env S1
theorem ge_one {op} {r : DE} (h : PE X a (GE p W r)) : PE X (.BoolOp op [a] pos) (GE p W r) := pe_one h
theorem post_here {pins : List (Addr × Obj)} {σ : L2.St} {H : Hp} {s : Shared} {ρ : List Addr} {S : Store} {env : Env} {Q : VK} {e : Expr} {r : DE} (h : PE X e (GE p W r)) (I : Inv X pins σ H s) (he : EnvR p ρ H env σ) (hc : Conc p ρ S H)
    (hp : Post p ρ H (fun d _ ρ' H' => ∀ v, VR p ρ' H' d v → Q v H') (fun cls dd _ H' => W cls dd σ H') (r env S)) : wpAny (model X.prog X.w) X.A (eval e X.env) (EP X pins σ Q) X.xe s := h.run pins s σ H Q I ⟨ρ, S, env, he, hc, hp⟩
theorem ge_and {rest : List Expr} (hp : p.K = X.K) (ha : PE X a (GE p W ra)) (hb : PE X (.BoolOp .And (b :: rest) pos) (GE p W rb)) : PE X (.BoolOp .And (a :: b :: rest) pos) (GE p W (andE ra rb)) := by
  refine ⟨fun pins s σ H Q I ⟨ρ, S, env, he, hc, hq⟩ => BoolOp_and ?_⟩
  refine pe_run ha I he hc hq fun d S1 ρ1 H1 v u s1 x1 c1 q1 r1 I1 p1 => ?_
  refine tru_run hp I1 c1 q1 r1 p1 fun k s2 _ I2 p2 => ?_
  cases k with
  | true => exact post_here hb I2 (he.mono x1) c1 p2
  | false => exact ⟨v, H1, I2, r1, p2 ρ1 H1 (.refl ..) c1 _ q1⟩
theorem ge_or {rest : List Expr} (hp : p.K = X.K) (ha : PE X a (GE p W ra)) (hb : PE X (.BoolOp .Or (b :: rest) pos) (GE p W rb)) : PE X (.BoolOp .Or (a :: b :: rest) pos) (GE p W (orE ra rb)) := by
  refine ⟨fun pins s σ H Q I ⟨ρ, S, env, he, hc, hq⟩ => BoolOp_or ?_⟩
  refine pe_run ha I he hc hq fun d S1 ρ1 H1 v u s1 x1 c1 q1 r1 I1 p1 => ?_
  refine tru_run hp I1 c1 q1 r1 p1 fun k s2 _ I2 p2 => ?_
  cases k with
  | false => exact post_here hb I2 (he.mono x1) c1 p2
  | true => exact ⟨v, H1, I2, r1, p2 ρ1 H1 (.refl ..) c1 _ q1⟩
theorem ge_not (hp : p.K = X.K) (ha : PE X a (GE p W ra)) : PE X (.UnaryOp .Not a pos) (GE p W (notE ra)) := by
  refine ⟨fun pins s σ H Q I ⟨ρ, S, env, he, hc, hq⟩ => UnaryOp_ ?_⟩
  refine pe_run ha I he hc hq fun d S1 ρ1 H1 v u s1 x1 c1 q1 r1 I1 p1 => not_of ?_
  exact tru_run hp I1 c1 q1 r1 p1 fun k s2 _ I2 p2 => ⟨.bl (!k), H1, I2, rfl, p2 ρ1 H1 (.refl ..) c1 _ rfl⟩
theorem ge_ite {t : DT} (hcc : PT X c (GT p W t)) (ha : PE X a (GE p W ra)) (hb : PE X b (GE p W rb)) : PE X (.IfExp c a b pos) (GE p W (iteE t ra rb)) := by
  refine ⟨fun pins s σ H Q I ⟨ρ, S, env, he, hc, hq⟩ => wpAny_IfExp ?_⟩
  refine pt_run hcc I he hc hq fun k S1 ρ1 H1 s1 x1 c1 I1 p1 => ?_
  cases k with
  | true => exact post_here ha I1 (he.mono x1) c1 p1
  | false => exact post_here hb I1 (he.mono x1) c1 p1
/-! tests -/
def tstD (ra : DE) : DT := fun env S => (ra env S).bind truR
def andT (ta tb : DT) : DT := fun env S => (ta env S).bind fun k S1 => if k = true then tb env S1 else .ok false S1
def orT (ta tb : DT) : DT := fun env S => (ta env S).bind fun k S1 => if k = true then .ok true S1 else tb env S1
def notT (ta : DT) : DT := fun env S => (ta env S).bind fun k S1 => .ok (!k) S1
theorem bind_truR {r : Rs D} : (r.bind truR) = r.bind fun x S1 => (truR x S1).bind fun k S2 => .ok k S2 := by
  cases r with
  | ok d S => show truR d S = (truR d S).bind fun k S2 => .ok k S2; cases truR d S <;> rfl
  | exc c fl S => rfl
  | bad => rfl
theorem gt_plain {e : Expr} {r : DE} (hp : p.K = X.K) (h : PE X e (GE p W r)) (he : ∀ whole, isTrue e X.env whole = (do let v ← whole; standAt e.pos; holding [v] (truthy v))) : PT X e (GT p W (tstD r)) := by
  refine ⟨fun pins s σ H Q I ⟨ρ, S, env, hen, hc, hq⟩ => isTrue_plain ?_ (he _)⟩
  unfold tstD at hq
  rw [bind_truR] at hq
  refine pe_run h I hen hc hq fun d S1 ρ1 H1 v u s1 x1 c1 q1 r1 I1 p1 => ?_
  exact tru_run hp I1 c1 q1 r1 p1 fun k s2 _ I2 p2 => ⟨H1, I2, p2 ρ1 H1 (.refl ..) c1⟩
theorem gt_cmp {op : CmpOp} {g : D → D → Store → Option (D × Store)} (hp : p.K = X.K) (h : OpD X p (compareOp op) g) (ha : PE X a (GE p W ra)) (hb : PE X b (GE p W rb)) (hm : behindInMarks op b = false) : PT X (.Compare a [op] [b] pos) (GT p W (tstD (bin2 g ra rb))) := by
  refine ⟨fun pins s σ H Q I ⟨ρ, S, env, he, hc, hq⟩ => wpAny_isTrue_Compare1 ?_ hm⟩
  unfold tstD at hq
  rw [bind_truR] at hq
  have hq' : Post p ρ H (fun b _ _ H' => Q b H') (fun cls dd _ H' => W cls dd σ H') ((ra env S).bind fun x S1 => (rb env S1).bind fun y S2 => (lf (g x y S2)).bind fun x S1 => (truR x S1).bind fun k S2 => .ok k S2) := by
    unfold bin2 at hq
    cases e1 : ra env S with
    | ok d S1 =>
      rw [e1] at hq
      show Post _ _ _ _ _ ((rb env S1).bind _)
      cases e2 : rb env S1 with
      | ok e S2 =>
        have hq2 : Post p ρ H (fun b _ _ H' => Q b H') (fun cls dd _ H' => W cls dd σ H') (((rb env S1).bind fun y S2 => lf (g d y S2)).bind _) := hq
        rw [e2] at hq2
        exact hq2
      | exc c fl S2 =>
        have hq2 : Post p ρ H (fun b _ _ H' => Q b H') (fun cls dd _ H' => W cls dd σ H') (((rb env S1).bind fun y S2 => lf (g d y S2)).bind _) := hq
        rw [e2] at hq2
        exact hq2
      | bad =>
        have hq2 : Post p ρ H (fun b _ _ H' => Q b H') (fun cls dd _ H' => W cls dd σ H') (((rb env S1).bind fun y S2 => lf (g d y S2)).bind _) := hq
        rw [e2] at hq2
        exact hq2
    | exc c fl S1 => rw [e1] at hq; exact hq
    | bad => rw [e1] at hq; exact hq
  refine pe_run ha I he hc hq' fun d S1 ρ1 H1 v u s1 x1 c1 q1 r1 I1 p1 => ?_
  refine pe_run hb I1 (he.mono x1) c1 p1 fun e S2 ρ2 H2 w t s2 x2 c2 q2 r2 I2 p2 => ?_
  refine opd_runk h I2 c2 (VR.mono x2 _ _ q1) q2 r1 r2 p2 fun z S3 ρ3 H3 w3 t3 s3 x3 c3 q3 r3 I3 p3 => ?_
  exact tru_run hp I3 c3 q3 r3 p3 fun k s4 _ I4 p4 => ⟨H3, I4, p4 ρ3 H3 (.refl ..) c3⟩
theorem gw_and1 {t : DT} (ha : PT X a (GT p W t)) : PW X (.BoolOp .And [a] pos) (GT p W t) := pw_and1 ha
theorem gw_or1 {t : DT} (ha : PT X a (GT p W t)) : PW X (.BoolOp .Or [a] pos) (GT p W t) := pw_or1 ha
theorem gw_and {ta tb : DT} {rest : List Expr} (ha : PT X a (GT p W ta)) (hb : PW X (.BoolOp .And (b :: rest) pos) (GT p W tb)) : PW X (.BoolOp .And (a :: b :: rest) pos) (GT p W (andT ta tb)) := by
  refine ⟨fun wh pins s σ H Q I ⟨ρ, S, env, he, hc, hq⟩ => isTrue_and ?_⟩
  refine pt_run ha I he hc hq fun k S1 ρ1 H1 s1 x1 c1 I1 p1 => ?_
  cases k with
  | true => exact hb.run wh pins s1 σ H1 Q I1 ⟨ρ1, S1, env, he.mono x1, c1, p1⟩
  | false => exact ⟨H1, I1, p1 ρ1 H1 (.refl ..) c1⟩
theorem gw_or {ta tb : DT} {rest : List Expr} (ha : PT X a (GT p W ta)) (hb : PW X (.BoolOp .Or (b :: rest) pos) (GT p W tb)) : PW X (.BoolOp .Or (a :: b :: rest) pos) (GT p W (orT ta tb)) := by
  refine ⟨fun wh pins s σ H Q I ⟨ρ, S, env, he, hc, hq⟩ => isTrue_or ?_⟩
  refine pt_run ha I he hc hq fun k S1 ρ1 H1 s1 x1 c1 I1 p1 => ?_
  cases k with
  | false => exact hb.run wh pins s1 σ H1 Q I1 ⟨ρ1, S1, env, he.mono x1, c1, p1⟩
  | true => exact ⟨H1, I1, p1 ρ1 H1 (.refl ..) c1⟩
theorem gt_not {t : DT} (ha : PT X a (GT p W t)) : PT X (.UnaryOp .Not a pos) (GT p W (notT t)) := by
  refine ⟨fun pins s σ H Q I ⟨ρ, S, env, he, hc, hq⟩ => isTrue_not ?_⟩
  exact pt_run ha I he hc hq fun k S1 ρ1 H1 s1 x1 c1 I1 p1 => ⟨H1, I1, p1 ρ1 H1 (.refl ..) c1⟩
end
end Mn

namespace Mn
open PySem PySem.Spec PyProof.Rows L2

theorem Post.turn {p : Pm} {ρ : List Addr} {H : Hp} {α β : Type} {φ : β → Store → List Addr → Hp → Prop} {φ' : α → Store → List Addr → Hp → Prop} {ψ : Value → Option Addr → List Addr → Hp → Prop} {r : Rs α} {f : α → Store → Rs β} (h : Post p ρ H φ ψ (r.bind f))
    (k : ∀ a S' ρ' H', Ext p ρ H ρ' H' → Conc p ρ' S' H' → Post p ρ' H' φ ψ (f a S') → φ' a S' ρ' H') : Post p ρ H φ' ψ r := by
  cases r with
  | ok a S => exact fun ρ' H' x c => k a S ρ' H' x c (Post.ext (r := f a S) h x)
  | exc c fl S => exact h
  | bad => exact h
theorem post_lf {p : Pm} {ρ : List Addr} {H : Hp} {Q : VK} {ψ : Value → Option Addr → List Addr → Hp → Prop} {o : Option (D × Store)} (h : Post p ρ H (fun d _ ρ' H' => ∀ v, VR p ρ' H' d v → Q v H') ψ (lf o)) : ∃ d S', o = some (d, S') ∧ OkTo p ρ H Q d S' := by
  cases o with
  | none => exact h.elim
  | some r => exact ⟨r.1, r.2, rfl, h⟩

/-! plain syntax -/
def plainX : Expr → Bool
  | .Starred _ _ => false
  | .Set _ _ _ => false
  | .Slice _ _ _ _ => false
  | _ => true
def noComp : Expr → Bool
  | .ListComp _ _ _ _ => false
  | .SetComp _ _ _ _ => false
  | .DictComp _ _ _ _ _ => false
  | _ => true
section
variable {e : Expr} {es : List Expr} {env : PySem.Env}
theorem star_plain (h : plainX e = true) : starEach (e :: es) env = (false, eval e env) :: starEach es env := by
  cases e <;> first | rfl | cases h
theorem star_any (h : es.all plainX = true) (pos : Pos) : (backTo pos (starEach es env)).any (·.1) = false := by
  induction es with
  | nil => rfl
  | cons a r ih =>
    rw [List.all_cons, Bool.and_eq_true] at h
    rw [star_plain h.1]
    exact ih h.2
theorem marks_plain (h : plainX e = true) (op : CmpOp) : behindInMarks op e = false := by
  cases e <;> first | rfl | cases h
theorem lmarks_plain {a : Expr} (h : plainX e = true) (op op' : CmpOp) : lastMarks [op, op'] [a, e] = false := by
  show behindInMarks op' e = false
  exact marks_plain h op'
theorem plainIx (h : plainX e = true) : PlainIx e := fun o i => by
  cases e <;> first | rfl | cases h
theorem folded_plain (h : plainX e = true) (x : Value) : foldedSetIterable e env x = pure x := by
  cases e <;> first | rfl | cases h
theorem swaps_plain (h : noComp e = true) (t : Option Expr) (l : Nat) : swapsWith e t l env = pure false := by
  cases e <;> first | rfl | cases h
end

section
variable {X : Cx} {p : Pm} {W : WX} {a b c e : Expr} {es : List Expr} {ra rb rc : DE} {pos : Pos}
/-! arguments -/
def nilA : DA := fun _ S => .ok [] S
def consA (ra : DE) (rr : DA) : DA := fun env S => (ra env S).bind fun d S1 => (rr env S1).bind fun ds S2 => .ok (d :: ds) S2
theorem ga_nil : PA X [] (GA p W nilA) := ⟨fun _ _ _ _ H Q I ⟨ρ, S, env, he, hc, hp⟩ => Calls.spliced_nil ⟨[], H, I, .nil, hp ρ H (.refl ..) hc [] rfl⟩⟩
theorem ga_cons {rr : DA} (ha : PE X e (GE p W ra)) (hr : PA X es (GA p W rr)) (hs : plainX e = true) : PA X (e :: es) (GA p W (consA ra rr)) := by
  refine ⟨fun pos pins s σ H Q I ⟨ρ, S, env, he, hc, hp⟩ => ?_⟩
  rw [star_plain hs]
  show wpAny _ _ (spliced ((false, eval e X.env) :: backTo pos (starEach es X.env))) _ _ s
  refine Calls.spliced_cons (pe_run ha I he hc hp fun d S1 ρ1 H1 v u s1 x1 c1 q1 r1 I1 p1 => ?_)
  refine pa_run hr I1 (he.mono x1) c1 p1 fun ds S2 ρ2 H2 vs us s2 x2 c2 q2 r2 I2 p2 => ?_
  exact ⟨v :: vs, H2, I2, .cons r1 r2, p2 ρ2 H2 (.refl ..) c2 _ ⟨v, vs, rfl, VR.mono x2 _ _ q1, q2⟩⟩
/-! displays -/
def tupE (r : DA) : DE := fun env S => (r env S).bind fun ds S1 => if ds.length ≤ sz then .ok (.tup ds) S1 else .bad
def lstE (r : DA) : DE := fun env S => (r env S).bind fun ds S1 => if ds.length ≤ sz then .ok (.loc S1.length) (S1 ++ [.lst ds]) else .bad
theorem ge_tup {r : DA} {k : Nat} (h : PA X es (GA p W r)) : PE X (.Tuple es k pos) (GE p W (tupE r)) := by
  refine ⟨fun pins s σ H Q I ⟨ρ, S, env, he, hc, hp⟩ => (pe_tup h).run pins s σ H Q I ⟨ρ, S, env, he, hc, hp.turn fun ds S1 ρ1 H1 x1 c1 p1 vs rv => ?_⟩⟩
  by_cases hz : ds.length ≤ sz
  · rw [if_pos hz] at p1
    exact ⟨by rw [← rv.length, sz_eq]; exact hz, fun q hq => OkTo.tup p1 c1 hq rv⟩
  · rw [if_neg hz] at p1; exact p1.elim
theorem ge_lst {r : DA} (h : PA X es (GA p W r)) : PE X (.List es pos) (GE p W (lstE r)) := by
  refine ⟨fun pins s σ H Q I ⟨ρ, S, env, he, hc, hp⟩ => (pe_lst h).run pins s σ H Q I ⟨ρ, S, env, he, hc, hp.turn fun ds S1 ρ1 H1 x1 c1 p1 vs rv => ?_⟩⟩
  by_cases hz : ds.length ≤ sz
  · rw [if_pos hz] at p1
    exact ⟨by rw [← rv.length, sz_eq]; exact hz, fun q hq => OkTo.lst p1 c1 hq rv⟩
  · rw [if_neg hz] at p1; exact p1.elim
/-! subscripts -/
def keyOf : D → Option Key
  | .int i => some (.inl i)
  | .str x => some (.inr x)
  | _ => none
theorem keyOf_ok {ρ : List Addr} {H : Hp} {d : D} {v : V} {k : Key} (h : VR p ρ H d v) (e : keyOf d = some k) : v = kV k := by
  cases d <;> first | (cases e; cases h; rfl) | cases e
def getK {α : Type} (kvs : List (Key × α)) (k : Key) : Option α := (kvs.find? fun kv => decide (kv.1 = k)).map (·.2)
theorem getK_ok {ρ : List Addr} {H : Hp} {k : Key} : ∀ {kvs : List (Key × D)} {ws : List (Key × V)}, KRs p ρ H kvs ws → (getK kvs k = none ∧ valV ws k = none) ∨ ∃ d v, getK kvs k = some d ∧ valV ws k = some v ∧ VR p ρ H d v
  | [], ws, h => by rw [show ws = [] from h]; exact .inl ⟨rfl, rfl⟩
  | (k', d) :: kvs, ws, ⟨x, r, e, h1, h2⟩ => by
    subst e
    by_cases hk : k' = k
    · refine .inr ⟨d, x, ?_, ?_, h1⟩
      · simp [getK, List.find?_cons, hk]
      · exact valV_pos (p := (k', x)) hk
    · have e1 : getK ((k', d) :: kvs) k = getK kvs k := by simp [getK, List.find?_cons, hk]
      rw [e1, valV_neg (p := (k', x)) hk]
      exact getK_ok h2
def idxO (d i : D) (S : Store) : Option (D × Store) := match itemsOf S d, i with
  | some ds, .int j => (atI ds j).map fun x => (x, S)
  | _, _ => none
def idxS (d i : D) (S : Store) : Option (D × Store) := match d, i with
  | .str z, .int j => if z.length ≤ sz then (atI z.cps.toList j).map fun c => (.str ⟨#[c]⟩, S) else none
  | _, _ => none
def dctOf (S : Store) : D → Option (List (Key × D))
  | .loc n => match S[n]? with
    | some (.dct kvs) => some kvs
    | _ => none
  | _ => none
theorem dct_of {ρ : List Addr} {S : Store} {H : Hp} (hc : Conc p ρ S H) {d : D} {v : V} {kvs : List (Key × D)} (h : VR p ρ H d v) (e : dctOf S d = some kvs) : ∃ a ws, v = .ref a ∧ H a = some (.dK ws) ∧ KRs p ρ H kvs ws := by
  cases d with
  | loc n =>
    obtain ⟨a, h1, h2⟩ := h
    have e' : (match S[n]? with
      | some (.dct ds) => some ds
      | _ => none) = some kvs := e
    split at e'
    · rename_i es hS
      cases e'
      obtain ⟨xs, hx, r⟩ := hc.cell n a _ h2 hS
      exact ⟨a, xs, h1, hx, r⟩
    · cases e'
  | _ => cases e
def idxK (d i : D) (S : Store) : Option (D × Store) := match dctOf S d, keyOf i with
  | some kvs, some k => (getK kvs k).map fun x => (x, S)
  | _, _ => none
def idxD (d i : D) (S : Store) : Option (D × Store) := match idxO d i S with
  | some r => some r
  | none => match idxS d i S with
    | some r => some r
    | none => idxK d i S
def IxD (X : Cx) (p : Pm) (g : D → D → Store → Option (D × Store)) : Prop :=
  ∀ (value slice : Expr) (pins : List (Addr × Obj)) (s : Shared) (σ : L2.St) (H : Hp) (x y : V) (v u : Value) (Q : VK) (ρ : List Addr) (S : Store) (d e d' : D) (S' : Store), Inv X pins σ H s → Conc p ρ S H → VR p ρ H d x → VR p ρ H e y → RelV x v → RelV y u → g d e S = some (d', S') → OkTo p ρ H Q d' S' →
    subscripted slice false v u = operate [v, u] (getItem v u) → wpAny (model X.prog X.w) X.A (subscriptTail value slice v u) (EP X pins σ Q) X.xe s
theorem atI_ok {ρ : List Addr} {H : Hp} {ds : List D} {xs : List V} {i : Int} {d : D} (h : VRs p ρ H ds xs) (e : atI ds i = some d) : ∃ x, atI xs i = some x ∧ VR p ρ H d x := by
  unfold atI at e ⊢
  rw [← h.length]
  cases q : ixN ds.length i with
  | none => rw [q] at e; cases e
  | some j =>
    rw [q] at e
    exact h.get (show ds[j]? = some d from e)
theorem ixd (hp : p.K = X.K) (hu : X.A.units + 1 < cLine) : IxD X p idxD := by
  intro value slice pins s σ H x y v u Q ρ S d e d' S' I hc hx hy rx ry hg k hs
  unfold idxD at hg
  split at hg
  · rename_i r q
    cases hg
    unfold idxO at q
    split at q
    · rename_i ds j hd
      obtain ⟨a, xs, rfl, hq, rv⟩ := items_of hc hx hd
      cases hy
      cases ea : atI ds j with
      | none => rw [ea] at q; cases q
      | some z =>
        rw [ea] at q
        cases q
        obtain ⟨w, hw, rw'⟩ := atI_ok rv ea
        rcases hq with hq | hq
        · exact ix_list value slice pins s σ H _ _ v u Q I rx ry ⟨a, xs, j, w, rfl, rfl, hp ▸ hq, hw, k.here hc rw'⟩ hs
        · exact ix_tup value slice pins s σ H _ _ v u Q I rx ry ⟨a, xs, j, w, rfl, rfl, hp ▸ hq, hw, k.here hc rw'⟩ hs
    · cases q
  · split at hg
    · rename_i r q
      cases hg
      unfold idxS at q
      split at q
      · rename_i _ _ z j _
        cases hx
        cases hy
        split at q
        · rename_i hz
          cases ea : atI z.cps.toList j with
          | none => rw [ea] at q; cases q
          | some cc =>
            rw [ea] at q
            cases q
            exact ix_str value slice pins s σ H _ _ v u Q I rx ry ⟨z, j, cc, rfl, rfl, by rw [sz_eq]; exact hz, ea, k.here hc rfl⟩ hs
        · cases q
      · cases q
    · unfold idxK at hg
      split at hg
      · rename_i kvs kk h1 h2
        obtain ⟨a, ws, rfl, ha, rk⟩ := dct_of hc hx h1
        have ey := keyOf_ok hy h2
        subst ey
        rcases getK_ok (k := kk) rk with ⟨e1, _⟩ | ⟨dd, w, e1, e2, rw'⟩
        · rw [e1] at hg; cases hg
        · rw [e1] at hg
          cases hg
          obtain rfl : v = Value.ref a := rx
          have g : DGet H a (kV kk) (some w) := e2 ▸ DGet.k (k := kk) ha
          exact tail_any (dict_typeIs I g) PySem.F.slot_dict_getitem.lookup (d_getItem hu I g ry fun w' s' I' r' => ⟨w, H, I', r', k.here hc rw'⟩) hs
      · cases hg
theorem ge_idx {g : D → D → Store → Option (D × Store)} (h : IxD X p g) (ha : PE X a (GE p W ra)) (hb : PE X b (GE p W rb)) (hs : plainX b = true) : PE X (.Subscript a b pos) (GE p W (bin2 g ra rb)) := by
  refine ⟨fun pins s σ H Q I ⟨ρ, S, env, he, hc, hp⟩ => Subscript_ ?_⟩
  refine pe_run ha I he hc hp fun d S1 ρ1 H1 v u s1 x1 c1 q1 r1 I1 p1 => ?_
  refine pe_run hb I1 (he.mono x1) c1 p1 fun e S2 ρ2 H2 w t s2 x2 c2 q2 r2 I2 p2 => ?_
  obtain ⟨d', S', e1, k⟩ := post_lf p2
  exact h a b pins s2 σ H2 v w u t Q ρ2 S2 d e d' S' I2 c2 (VR.mono x2 _ _ q1) q2 r1 r2 e1 k (plainIx hs _ _)

/-! slices (the parts ints, or left out) -/
abbrev DO := Env → Store → Rs (Option Int)
def GO (p : Pm) (W : WX) (r : DO) : TO := fun σ H Q => ∃ ρ S env, EnvR p ρ H env σ ∧ Conc p ρ S H ∧ Post p ρ H (fun b _ _ H' => Q b H') (fun cls dd _ H' => W cls dd σ H') (r env S)
def noO : DO := fun _ S => .ok none S
def someO (ra : DE) : DO := fun env S => (ra env S).bind fun d S1 => match d with
  | .int i => .ok (some i) S1
  | _ => .bad
theorem go_none : PO X none (GO p W noO) := ⟨fun pins s σ H Q I ⟨ρ, S, env, he, hc, hp⟩ => po_none.run pins s σ H Q I (hp ρ H (.refl ..) hc)⟩
theorem go_some (ha : PE X a (GE p W ra)) : PO X (some a) (GO p W (someO ra)) := by
  refine ⟨fun pins s σ H Q I ⟨ρ, S, env, he, hc, hp⟩ => (po_some ha).run pins s σ H Q I ⟨ρ, S, env, he, hc, hp.turn fun d S1 ρ1 H1 x1 c1 p1 v rv => ?_⟩⟩
  cases d with
  | int i => cases rv; exact ⟨i, rfl, p1 ρ1 H1 (.refl ..) c1⟩
  | _ => exact p1.elim
def cutD (ds : List D) (lo hi : Option Int) : List D := (ds.drop (HT.sIx ds.length 0 lo)).take (HT.sIx ds.length ds.length hi - HT.sIx ds.length 0 lo)
theorem cutD_ok {ρ : List Addr} {H : Hp} {ds : List D} {xs : List V} (h : VRs p ρ H ds xs) (lo hi : Option Int) : VRs p ρ H (cutD ds lo hi) (cutV xs lo hi) := by
  unfold cutD cutV
  rw [h.length]
  exact (h.drop _).take _
def slcD (d : D) (lo hi : Option Int) (S : Store) : Option (D × Store) := match d with
  | .tup ds => some (.tup (cutD ds lo hi), S)
  | .str z => if z.length ≤ sz then some (.str (cutS z lo hi), S) else none
  | .ros ds => some (.loc S.length, S ++ [.lst (cutD ds lo hi)])
  | .loc n => match S[n]? with
    | some (.lst ds) => some (.loc S.length, S ++ [.lst (cutD ds lo hi)])
    | _ => none
  | _ => none
def slcE (ra : DE) (rl rh : DO) : DE := fun env S => (ra env S).bind fun d S1 => (rl env S1).bind fun l S2 => (rh env S2).bind fun h S3 => lf (slcD d l h S3)
theorem cut_whole {ds : List D} {lo hi : Option Int} (h : HT.sIx ds.length 0 lo = 0 ∧ HT.sIx ds.length ds.length hi = ds.length) : cutD ds lo hi = ds := by
  unfold cutD
  rw [h.1, h.2]
  simp
theorem slc_ok (hp : p.K = X.K) {ρ : List Addr} {S : Store} {H : Hp} {d d' : D} {S' : Store} {v : V} {lo hi : Option Int} {Q : VK} (hc : Conc p ρ S H) (h : VR p ρ H d v) (e : slcD d lo hi S = some (d', S')) (k : OkTo p ρ H Q d' S') : rSlL X.K v lo hi H Q ∨ rSlA X.K v lo hi H Q ∨ rSlS v lo hi H Q := by
  cases d with
  | tup ds =>
    cases e
    obtain ⟨a, xs, rfl, hs, r⟩ := h
    refine .inr (.inl ⟨a, xs, rfl, hp ▸ hs, fun w => ?_, fun w q hq => k.tup hc hq (cutD_ok r lo hi)⟩)
    rw [← r.length] at w
    rw [cut_whole w] at k
    exact k.here hc ⟨a, xs, rfl, hs, r⟩
  | str z =>
    cases h
    have e' : (if z.length ≤ sz then some (D.str (cutS z lo hi), S) else none) = some (d', S') := e
    split at e'
    · rename_i hz
      cases e'
      exact .inr (.inr ⟨z, rfl, by rw [sz_eq]; exact hz, k.here hc rfl⟩)
    · cases e'
  | ros ds =>
    cases e
    obtain ⟨a, xs, rfl, hs, r⟩ := h
    exact .inl ⟨a, xs, rfl, hp ▸ hs.sq, fun q hq => k.lst hc hq (cutD_ok r lo hi)⟩
  | loc n =>
    obtain ⟨a, rfl, ha⟩ := h
    have e' : (match S[n]? with
      | some (.lst ds) => some (D.loc S.length, S ++ [Cell.lst (cutD ds lo hi)])
      | _ => none) = some (d', S') := e
    split at e'
    · rename_i ds hS
      cases e'
      obtain ⟨xs, hx, r⟩ := hc.cell n a _ ha hS
      exact .inl ⟨a, xs, rfl, SqL.of hx, fun q hq => k.lst hc hq (cutD_ok r lo hi)⟩
    · cases e'
  | _ => cases e
theorem ge_slice (hp : p.K = X.K) {lo hi : Option Expr} {rl rh : DO} {p2 : Pos} (ha : PE X a (GE p W ra)) (hl : PO X lo (GO p W rl)) (hh : PO X hi (GO p W rh)) : PE X (.Subscript a (.Slice lo hi none p2) pos) (GE p W (slcE ra rl rh)) := by
  refine ⟨fun pins s σ H Q I ⟨ρ, S, env, he, hc, hq⟩ => (pe_slice (sl_list.or (sl_tupA.or sl_str)) ha hl hh).run pins s σ H Q I ⟨ρ, S, env, he, hc, hq.turn fun d S1 ρ1 H1 x1 c1 p1 v rv => ?_⟩⟩
  refine ⟨ρ1, S1, env, he.mono x1, c1, p1.turn fun l S2 ρ2 H2 x2 c2 p2 => ?_⟩
  refine ⟨ρ2, S2, env, (he.mono x1).mono x2, c2, p2.turn fun h S3 ρ3 H3 x3 c3 p3 => ?_⟩
  obtain ⟨d', S', e1, k⟩ := post_lf p3
  exact slc_ok hp c3 (VR.mono x3 _ _ (VR.mono x2 _ _ rv)) e1 k

/-! built-in functions -/
def CallD (X : Cx) (p : Pm) (f : Value) (g : List D → Store → Option (D × Store)) : Prop :=
  ∀ (pins : List (Addr × Obj)) (s : Shared) (σ : L2.St) (H : Hp) (xs : List V) (us : List Value) (Q : VK) (ρ : List Addr) (S : Store) (ds : List D) (d' : D) (S' : Store), Inv X pins σ H s → Conc p ρ S H → VRs p ρ H ds xs → Vals xs us → g ds S = some (d', S') → OkTo p ρ H Q d' S' →
    wpAny (model X.prog X.w) X.A (call f us) (EP X pins σ Q) X.xe s
theorem CallD.of {f : Value} {r : List V → Hp → VK → Prop} {g : List D → Store → Option (D × Store)} (ho : CallR X f r)
    (h : ∀ (H : Hp) (xs : List V) (Q : VK) (ρ : List Addr) (S : Store) (ds : List D) (d' : D) (S' : Store), Conc p ρ S H → VRs p ρ H ds xs → g ds S = some (d', S') → OkTo p ρ H Q d' S' → r xs H Q) : CallD X p f g :=
  fun pins s σ H xs us Q ρ S ds d' S' I hc hx rx hg k => ho pins s σ H xs us Q I rx (h H xs Q ρ S ds d' S' hc hx hg k)
def calE (g : List D → Store → Option (D × Store)) (r : DA) : DE := fun env S => (r env S).bind fun ds S1 => lf (g ds S1)
theorem ge_callB {id : String} {x : Str} {pp : Pos} {g : List D → Store → Option (D × Store)} {r : DA} (hc : CallD X p (.builtin id) g) (hg : Gl X x) (hm : X.mg x = none) (hv : bootBuiltins x = some (.builtin id)) (hn : x ≠ "__name__") (hdb : (x == ("__debug__" : Str)) = false)
    (ha : PA X (e :: es) (GA p W r)) (hs : (e :: es).all plainX = true) : PE X (.Call (.Name x pp) (e :: es) [] pos) (GE p W (calE g r)) := by
  rw [List.all_cons, Bool.and_eq_true] at hs
  refine ⟨fun pins s σ H Q I ⟨ρ, S, env, he, hcc, hq⟩ => ?_⟩
  refine wpAny_Call_Name_kw (ld_blt I hg hm hv ?_ hn hdb)
  refine PyProof.Rows.callWith_builtin1 (pa_run ha I he hcc hq fun ds S1 ρ1 H1 vs us s1 x1 c1 q1 r1 I1 p1 => ?_) (star_plain hs.1) (star_any hs.2 pos)
  obtain ⟨d', S', e1, k⟩ := post_lf p1
  exact hc pins s1 σ H1 vs us Q ρ1 S1 ds d' S' I1 c1 q1 r1 e1 k
theorem ge_callTy {T : String} {x : Str} {pp : Pos} {g : List D → Store → Option (D × Store)} {r : DA} (hc : CallD X p (.type T) g) (hg : Gl X x) (hm : X.mg x = none) (hv : bootBuiltins x = some (.type T)) (hn : x ≠ "__name__") (hdb : (x == ("__debug__" : Str)) = false)
    (ha : PA X (e :: es) (GA p W r)) (hs : (e :: es).all plainX = true) : PE X (.Call (.Name x pp) (e :: es) [] pos) (GE p W (calE g r)) := by
  rw [List.all_cons, Bool.and_eq_true] at hs
  refine ⟨fun pins s σ H Q I ⟨ρ, S, env, he, hcc, hq⟩ => ?_⟩
  refine wpAny_Call_Name_kw (ld_blt I hg hm hv ?_ hn hdb)
  refine PyProof.Rows.callWith_type1 (pa_run ha I he hcc hq fun ds S1 ρ1 H1 vs us s1 x1 c1 q1 r1 I1 p1 => ?_) (star_plain hs.1) (star_any hs.2 pos)
  obtain ⟨d', S', e1, k⟩ := post_lf p1
  exact hc pins s1 σ H1 vs us Q ρ1 S1 ds d' S' I1 c1 q1 r1 e1 k

/-- one argument -/
def on1 (g : D → Store → Option (D × Store)) (ds : List D) (S : Store) : Option (D × Store) := match ds with
  | [d] => g d S
  | _ => none
theorem on1_some {g : D → Store → Option (D × Store)} {ds : List D} {S : Store} {r : D × Store} {ρ : List Addr} {H : Hp} {xs : List V} (h : on1 g ds S = some r) (hx : VRs p ρ H ds xs) : ∃ d x, ds = [d] ∧ xs = [x] ∧ VR p ρ H d x ∧ g d S = some r := by
  unfold on1 at h
  split at h
  · obtain ⟨x, t, e1, h1, h2⟩ := hx
    have e2 : t = [] := h2
    subst e2
    exact ⟨_, x, rfl, e1, h1, h⟩
  · cases h
def lenD (d : D) (S : Store) : Option (D × Store) := match d with
  | .str z => if z.length ≤ sz then some (.int z.length, S) else none
  | _ => match itemsOf S d with
    | some ds => some (.int ds.length, S)
    | none => (dctOf S d).map fun kvs => (.int kvs.length, S)
theorem KRs.length {ρ : List Addr} {H : Hp} : ∀ {ds : List (Key × D)} {xs : List (Key × V)}, KRs p ρ H ds xs → ds.length = xs.length
  | [], _, h => by rw [show _ = [] from h]; rfl
  | (_, _) :: _, _, ⟨x, r, h1, _, h3⟩ => by rw [h1, List.length_cons, List.length_cons, KRs.length h3]
theorem cd_len (hp : p.K = X.K) : CallD X p (.builtin "len") (on1 lenD) := by
  intro pins s σ H xs us Q ρ S ds d' S' I hc hx rx hg k
  obtain ⟨d, x, rfl, rfl, h1, h2⟩ := on1_some hg hx
  unfold lenD at h2
  split at h2
  · rename_i z
    cases h1
    split at h2
    · rename_i hz
      cases h2
      exact call_len_str pins s σ H _ us Q I rx ⟨z, rfl, by rw [sz_eq]; exact hz, k.here hc rfl⟩
    · cases h2
  · split at h2
    · rename_i ds hd
      cases h2
      obtain ⟨a, xs, rfl, hq, rv⟩ := items_of hc h1 hd
      exact call_len_seq pins s σ H _ us Q I rx ⟨a, xs, rfl, hp ▸ hq, by rw [← rv.length]; exact k.here hc rfl⟩
    · cases hd : dctOf S d with
      | none => rw [hd] at h2; cases h2
      | some kvs =>
        rw [hd] at h2
        cases h2
        obtain ⟨a, ws, rfl, ha, rv⟩ := dct_of hc h1 hd
        exact call_lenD pins s σ H _ us Q I rx ⟨a, ws, rfl, ha, by rw [← rv.length]; exact k.here hc rfl⟩
/-- tuple(xs), list(xs) -/
def tupleD (d : D) (S : Store) : Option (D × Store) := (itemsOf S d).map fun ds => (.tup ds, S)
def listD (d : D) (S : Store) : Option (D × Store) := (itemsOf S d).map fun ds => (.loc S.length, S ++ [.lst ds])
theorem cd_tuple (hp : p.K = X.K) : CallD X p (.type "tuple") (on1 tupleD) := .of call_tuple_of fun H xs Q ρ S ds d' S' hc hx hg k => by
  obtain ⟨d, x, rfl, rfl, h1, h2⟩ := on1_some hg hx
  unfold tupleD at h2
  cases hd : itemsOf S d with
  | none => rw [hd] at h2; cases h2
  | some es =>
    rw [hd] at h2
    cases h2
    obtain ⟨a, ys, rfl, hq, rv⟩ := items_of hc h1 hd
    rcases hq with hq | hq
    · exact ⟨a, ys, rfl, .inl ⟨hp ▸ hq, fun l hl => k.tup hc hl rv⟩⟩
    · exact ⟨a, ys, rfl, .inr ⟨hp ▸ hq, k.here hc ⟨a, ys, rfl, hq, rv⟩⟩⟩
theorem cd_list (hp : p.K = X.K) : CallD X p (.type "list") (on1 listD) := .of call_list_of fun H xs Q ρ S ds d' S' hc hx hg k => by
  obtain ⟨d, x, rfl, rfl, h1, h2⟩ := on1_some hg hx
  unfold listD at h2
  cases hd : itemsOf S d with
  | none => rw [hd] at h2; cases h2
  | some es =>
    rw [hd] at h2
    cases h2
    obtain ⟨a, ys, rfl, hq, rv⟩ := items_of hc h1 hd
    exact ⟨a, ys, rfl, hp ▸ hq, fun l hl => k.lst hc hl rv⟩
/-- all(xs), any(xs) of truths in a list -/
def blsOf : List D → Option (List Bool)
  | [] => some []
  | .bl b :: r => (blsOf r).map fun bs => b :: bs
  | _ => none
theorem bls_ok {ρ : List Addr} {H : Hp} : ∀ {ds : List D} {xs : List V} {bs : List Bool}, VRs p ρ H ds xs → blsOf ds = some bs → xs = bs.map V.bl
  | [], _, _, h, e => by rw [show _ = [] from h]; cases e; rfl
  | d :: ds, _, bs, ⟨x, r, h1, h2, h3⟩, e => by
    subst h1
    cases d with
    | bl b =>
      cases h2
      have e' : (blsOf ds).map (fun bs => b :: bs) = some bs := e
      cases q : blsOf ds with
      | none => rw [q] at e'; cases e'
      | some cs => rw [q] at e'; cases e'; rw [bls_ok h3 q]; rfl
    | _ => cases e
def allD (d : D) (S : Store) : Option (D × Store) := (lstOf S d).bind fun ds => (blsOf ds).map fun bs => (.bl (bs.all id), S)
def anyD (d : D) (S : Store) : Option (D × Store) := (lstOf S d).bind fun ds => (blsOf ds).map fun bs => (.bl (bs.any id), S)
theorem lst_of {ρ : List Addr} {S : Store} {H : Hp} (hc : Conc p ρ S H) {d : D} {v : V} {ds : List D} (h : VR p ρ H d v) (e : lstOf S d = some ds) : ∃ a xs, v = .ref a ∧ SqL p.K H a xs ∧ VRs p ρ H ds xs := by
  cases d with
  | ros es => cases e; obtain ⟨a, xs, h1, h2, h3⟩ := h; exact ⟨a, xs, h1, h2.sq, h3⟩
  | loc n =>
    obtain ⟨a, h1, h2⟩ := h
    have e' : (match S[n]? with
      | some (.lst ds) => some ds
      | _ => none) = some ds := e
    split at e'
    · rename_i es hS
      cases e'
      obtain ⟨xs, hx, r⟩ := hc.cell n a _ h2 hS
      exact ⟨a, xs, h1, SqL.of hx, r⟩
    · cases e'
  | _ => cases e
theorem cd_all (hp : p.K = X.K) (hcalm : X.calm = true) : CallD X p (.builtin "all") (on1 allD) := .of (cr_all hcalm) fun H xs Q ρ S ds d' S' hc hx hg k => by
  obtain ⟨d, x, rfl, rfl, h1, h2⟩ := on1_some hg hx
  unfold allD at h2
  cases hd : lstOf S d with
  | none => rw [hd] at h2; cases h2
  | some es =>
    rw [hd] at h2
    obtain ⟨a, ys, rfl, hq, rv⟩ := lst_of hc h1 hd
    cases hb : blsOf es with
    | none => rw [Option.bind_some, hb] at h2; cases h2
    | some bs =>
      rw [Option.bind_some, hb] at h2
      cases h2
      have e2 := bls_ok rv hb
      subst e2
      exact ⟨a, bs, rfl, hp ▸ hq, k.here hc rfl⟩
theorem cd_any (hp : p.K = X.K) (hcalm : X.calm = true) : CallD X p (.builtin "any") (on1 anyD) := .of (cr_any hcalm) fun H xs Q ρ S ds d' S' hc hx hg k => by
  obtain ⟨d, x, rfl, rfl, h1, h2⟩ := on1_some hg hx
  unfold anyD at h2
  cases hd : lstOf S d with
  | none => rw [hd] at h2; cases h2
  | some es =>
    rw [hd] at h2
    obtain ⟨a, ys, rfl, hq, rv⟩ := lst_of hc h1 hd
    cases hb : blsOf es with
    | none => rw [Option.bind_some, hb] at h2; cases h2
    | some bs =>
      rw [Option.bind_some, hb] at h2
      cases h2
      have e2 := bls_ok rv hb
      subst e2
      exact ⟨a, bs, rfl, hp ▸ hq, k.here hc rfl⟩
/-- two ints -/
def on2I (g : Int → Int → Int) (ds : List D) (S : Store) : Option (D × Store) := match ds with
  | [.int i, .int j] => some (.int (g i j), S)
  | _ => none
theorem on2I_some {g : Int → Int → Int} {ds : List D} {S : Store} {r : D × Store} {ρ : List Addr} {H : Hp} {xs : List V} (h : on2I g ds S = some r) (hx : VRs p ρ H ds xs) : ∃ i j, ds = [.int i, .int j] ∧ xs = [.int i, .int j] ∧ r = (.int (g i j), S) := by
  unfold on2I at h
  split at h
  · obtain ⟨x, t, e1, h1, y, t2, e2, h2, h3⟩ := hx
    have e3 : t2 = [] := h3
    subst e3 e2
    cases h1
    cases h2
    exact ⟨_, _, rfl, e1, (Option.some.inj h).symm⟩
  · cases h
def maxI (i j : Int) : Int := if j > i then j else i
def minI (i j : Int) : Int := if j < i then j else i
theorem cd_max (hcalm : X.calm = true) : CallD X p (.builtin "max") (on2I maxI) := .of (call_max2 hcalm) fun H xs Q ρ S ds d' S' hc hx hg k => by
  obtain ⟨i, j, rfl, rfl, e⟩ := on2I_some hg hx
  cases e
  exact ⟨i, j, rfl, k.here hc rfl⟩
theorem cd_min (hcalm : X.calm = true) : CallD X p (.builtin "min") (on2I minI) := .of (call_min2 hcalm) fun H xs Q ρ S ds d' S' hc hx hg k => by
  obtain ⟨i, j, rfl, rfl, e⟩ := on2I_some hg hx
  cases e
  exact ⟨i, j, rfl, k.here hc rfl⟩
def absD (d : D) (S : Store) : Option (D × Store) := match d with
  | .int i => some (.int (if i < 0 then -i else i), S)
  | _ => none
theorem cd_abs : CallD X p (.builtin "abs") (on1 absD) := .of call_abs fun H xs Q ρ S ds d' S' hc hx hg k => by
  obtain ⟨d, x, rfl, rfl, h1, h2⟩ := on1_some hg hx
  cases d with
  | int i => cases h2; cases h1; exact ⟨i, rfl, k.here hc rfl⟩
  | _ => cases h2
/-! isinstance -/
def tyD (S : Store) : D → Option String
  | .non => some "NoneType"
  | .bl _ => some "bool"
  | .int _ => some "int"
  | .str _ => some "str"
  | .tup _ => some "tuple"
  | .ros _ => some "list"
  | .loc n => match S[n]? with
    | some (.lst _) => some "list"
    | some (.dct _) => some "dict"
    | _ => none
  | _ => none
theorem tyD_ok {ρ : List Addr} {S : Store} {H : Hp} {d : D} {v : V} {t : String} (hc : Conc p ρ S H) (h : VR p ρ H d v) (e : tyD S d = some t) : TyX p.K H v (.type t) := by
  cases d with
  | non => cases h; cases e; exact .base .non
  | bl b => cases h; cases e; exact .base (.bl b)
  | int b => cases h; cases e; exact .base (.int b)
  | str b => cases h; cases e; exact .base (.str b)
  | tup b =>
    cases e
    obtain ⟨a, xs, rfl, (hs | ⟨o, hs⟩) | ⟨o, its, n, h1, h2, _⟩, _⟩ := h
    · exact .base (.tup hs)
    · exact .fTuple hs
    · exact .kTuple h1 h2
  | ros b =>
    cases e
    obtain ⟨a, xs, rfl, ⟨o, hs⟩ | ⟨o, its, n, h1, h2, _⟩, _⟩ := h
    · exact .base (.frz hs)
    · exact .kList h1 h2
  | loc n =>
    obtain ⟨a, rfl, ha⟩ := h
    have e' : (match S[n]? with
      | some (.lst _) => some "list"
      | some (.dct _) => some "dict"
      | _ => none) = some t := e
    split at e'
    · rename_i hS
      cases e'
      obtain ⟨xs, hx, _⟩ := hc.cell n a _ ha hS
      exact .base (.lst hx)
    · rename_i hS
      cases e'
      obtain ⟨xs, hx, _⟩ := hc.cell n a _ ha hS
      exact .base (.dK hx)
    · cases e'
  | _ => cases e
def tyNames : List String := ["NoneType", "bool", "int", "str", "tuple", "list", "dict"]
def subTy (a b : String) : Bool := a == b || (a == "bool" && b == "int")
theorem kitB_all : ∀ a ∈ tyNames, ∀ b ∈ tyNames, kitB a b = some (subTy a b) := by decide +kernel
theorem tyD_name {S : Store} {d : D} {t : String} (e : tyD S d = some t) : t ∈ tyNames := by
  unfold tyNames
  unfold tyD at e
  (repeat' split at e) <;> cases e <;> decide
def isiD (ds : List D) (S : Store) : Option (D × Store) := match ds with
  | [d, .ty n] => match tyD S d with
    | some t => if n ∈ tyNames then some (.bl (subTy t n), S) else none
    | none => none
  | _ => none
theorem cd_isi (hp : p.K = X.K) : CallD X p (.builtin "isinstance") isiD := .of call_isi fun H xs Q ρ S ds d' S' hc hx hg k => by
  unfold isiD at hg
  split at hg
  · rename_i d n
    split at hg
    · rename_i t ht
      split at hg
      · rename_i hn
        cases hg
        obtain ⟨x, r1, e1, h1, y, r2, e2, h2, h3⟩ := hx
        have e3 : r2 = [] := h3
        subst e3 e2 e1
        cases h2
        exact ⟨x, .ty n, .type t, .type n, subTy t n, rfl, .ty n, hp ▸ tyD_ok hc h1 ht, kit_ty (kitB_all t (tyD_name ht) n hn), k.here hc rfl⟩
      · cases hg
    · cases hg
  · cases hg
/-! repr -/
mutual
def noList : PyData → Bool
  | .list _ => false
  | .tuple xs => noLists xs
  | _ => true
def noLists : List PyData → Bool
  | [] => true
  | x :: xs => noList x && noLists xs
end
def toRL (S : Store) : Nat → Nat → Option PyData
  | 0, _ => none
  | n + 1, i => match S[i]? with
    | some (.lst ds) => (toPWs (toRL S n) ds).bind fun qs => if PyData.hasDictAll qs = true then none else some (.list qs)
    | some (.dct []) => some (.dict [])
    | _ => none
def toR (S : Store) (d : D) : Option PyData := toPW (toRL S 8) d
section
variable {ρ : List Addr} {S : Store} {H : Hp} {pins : List (Addr × Obj)} {σ : L2.St} {s : Shared}
abbrev RdTo (s : Shared) (u : Value) (q : PyData) : Prop := ∃ as, Reads s.heap u q as ∧ ((q.hasDict = false ∨ noList q = true) → q.hasDict = true → sysModules ∉ as) ∧ (noList q = true → sysModules ∉ as)
mutual
theorem rdW (hp : p.K = X.K) (I : Inv X pins σ H s) {f : Nat → Option PyData} (hf : ∀ n a q, ρ[n]? = some a → f n = some q → ∃ as, Reads s.heap (.ref a) q as ∧ (noList q = true → sysModules ∉ as)) :
    ∀ (d : D) (v : V) (u : Value) (q : PyData), VR p ρ H d v → RelV v u → toPW f d = some q → ∃ as, Reads s.heap u q as ∧ (noList q = true → sysModules ∉ as)
  | .non, _, _, _, h, r, e => by cases h; cases e; cases r; exact ⟨_, .none, fun _ => by simp⟩
  | .bl b, _, _, _, h, r, e => by cases h; cases e; cases r; exact ⟨_, .bool b, fun _ => by simp⟩
  | .int i, _, _, _, h, r, e => by cases h; cases e; obtain ⟨t, rfl⟩ := r; exact ⟨_, .int i t, fun _ => by simp⟩
  | .str x, _, _, _, h, r, e => by cases h; cases e; obtain ⟨t, rfl⟩ := r; exact ⟨_, .str x t, fun _ => by simp⟩
  | .tup ds, _, _, q, h, r, e => by
    obtain ⟨a, xs, rfl, hs, rv⟩ := h
    have e' : (toPWs f ds).map PyData.tuple = some q := e
    cases k : toPWs f ds with
    | none => rw [k] at e'; cases e'
    | some qs =>
      rw [k] at e'
      cases e'
      cases r
      obtain ⟨its, rv2, ⟨o, ho, hc2, n, hd⟩, _⟩ := I.tuple (hp ▸ hs)
      obtain ⟨as, h1, h2⟩ := rdWs hp I hf ds xs its qs rv rv2 k
      exact ⟨as, .tuple ho hc2 hd (by simpa using h1), h2⟩
  | .ros ds, _, _, q, h, r, e => by
    obtain ⟨a, xs, rfl, hs, rv⟩ := h
    have e' : (toPWs f ds).map PyData.list = some q := e
    cases k : toPWs f ds with
    | none => rw [k] at e'; cases e'
    | some qs =>
      rw [k] at e'
      cases e'
      cases r
      obtain ⟨its, rv2, ⟨o, n, ho, hc2, _, hd⟩, _⟩ := I.list (hp ▸ hs.sq)
      obtain ⟨as, h1, h2⟩ := rdWs hp I hf ds xs its qs rv rv2 k
      exact ⟨_, .list ho hc2 hd (by simpa using h1), fun z => nomatch z⟩
  | .loc n, _, _, q, h, r, e => by
    obtain ⟨a, rfl, ha⟩ := h
    cases r
    exact hf n a q ha e
  | .ty _, _, _, _, _, _, e => nomatch e
  | .gl _, _, _, _, _, _, e => nomatch e
theorem rdWs (hp : p.K = X.K) (I : Inv X pins σ H s) {f : Nat → Option PyData} (hf : ∀ n a q, ρ[n]? = some a → f n = some q → ∃ as, Reads s.heap (.ref a) q as ∧ (noList q = true → sysModules ∉ as)) :
    ∀ (ds : List D) (vs : List V) (us : List Value) (qs : List PyData), VRs p ρ H ds vs → Vals vs us → toPWs f ds = some qs → ∃ as, ReadsAll s.heap us qs as ∧ (noLists qs = true → sysModules ∉ as)
  | [], _, _, _, h, r, e => by
    rw [show _ = [] from h] at r
    cases r
    cases e
    exact ⟨[], .nil, fun _ => by simp⟩
  | d :: ds, _, us, qs, ⟨x, t, h1, h2, h3⟩, r, e => by
    subst h1
    have e' : ((toPW f d).bind fun p => (toPWs f ds).map fun ps => p :: ps) = some qs := e
    cases k : toPW f d with
    | none => rw [k] at e'; cases e'
    | some q =>
      cases k2 : toPWs f ds with
      | none => rw [k, k2] at e'; cases e'
      | some qr =>
        rw [k, k2] at e'
        cases e'
        cases r with
        | cons r1 r2 =>
          obtain ⟨as, a1, a2⟩ := rdW hp I hf d x _ q h2 r1 k
          obtain ⟨bs, b1, b2⟩ := rdWs hp I hf ds t _ qr h3 r2 k2
          refine ⟨as ++ bs, .cons a1 b1, fun z => ?_⟩
          have z' : (noList q && noLists qr) = true := z
          rw [Bool.and_eq_true] at z'
          rw [List.mem_append]
          exact fun w => w.elim (a2 z'.1) (b2 z'.2)
end
theorem rdL (hp : p.K = X.K) (hc : Conc p ρ S H) (I : Inv X pins σ H s) : ∀ (m n : Nat) (a : Addr) (q : PyData), ρ[n]? = some a → toRL S m n = some q → ∃ as, Reads s.heap (.ref a) q as ∧ (noList q = true → sysModules ∉ as)
  | 0, _, _, _, _, e => nomatch e
  | m + 1, n, a, q, ha, e => by
    have e' : (match S[n]? with
      | some (.lst ds) => (toPWs (toRL S m) ds).bind fun qs => if PyData.hasDictAll qs = true then none else some (PyData.list qs)
      | some (.dct []) => some (.dict [])
      | _ => none) = some q := e
    split at e'
    · rename_i ds hS
      obtain ⟨xs, hx, r⟩ := hc.cell n a _ ha hS
      cases k : toPWs (toRL S m) ds with
      | none => rw [k] at e'; cases e'
      | some qs =>
        rw [k, Option.bind_some] at e'
        split at e'
        · cases e'
        · cases e'
          obtain ⟨its, rv2, ⟨o, nn, ho, hc2, _, hd⟩, _⟩ := I.list (SqL.of hx)
          obtain ⟨as, h1, h2⟩ := rdWs hp I (fun n a q h1 h2 => rdL hp hc I m n a q h1 h2) ds xs its qs r rv2 k
          exact ⟨_, .list ho hc2 hd (by simpa using h1), fun z => nomatch z⟩
    · rename_i hS
      cases e'
      obtain ⟨ws, hx, r⟩ := hc.cell n a _ ha hS
      have ew : ws = [] := r
      subst ew
      obtain ⟨_, hne, vs, rk, o, es, ep, ho, hex, hd, _, hes, _⟩ := I.hok a _ hx
      cases rk
      have e0 : es.toList = [] := List.length_eq_zero_iff.mp hes.length
      refine ⟨[a], .dict (kvs := []) (as := []) (bs := []) ho hex.1 hd ?_ ?_, fun _ => ?_⟩
      · rw [e0]; exact .nil
      · rw [e0]; exact .nil
      · intro hm
        rw [List.mem_singleton] at hm
        rw [← hm] at hne
        simp at hne
    · cases e'
end
/-- repr of data -/
def rprD (d : D) (S : Store) : Option (D × Store) := match toR S d with
  | some q => if (q.showable && decide (q.shown.length ≤ sz) && decide (q.depth ≤ 60) && (!q.hasDict || noList q)) = true then some (.str q.shown, S) else none
  | none => none
theorem cd_repr (hp : p.K = X.K) (hg0 : X.A.guards = some []) (hu : X.A.units + 64 < cLine) : CallD X p (.builtin "repr") (on1 rprD) := by
  intro pins s σ H xs us Q ρ S ds d' S' I hc hx rx hg k
  obtain ⟨d, x, rfl, rfl, h1, h2⟩ := on1_some hg hx
  unfold rprD at h2
  split at h2
  · rename_i q hq
    split at h2
    · rename_i hz
      cases h2
      simp only [Bool.and_eq_true, decide_eq_true_eq, Bool.or_eq_true, Bool.not_eq_true'] at hz
      obtain ⟨⟨⟨z1, z2⟩, z3⟩, z4⟩ := hz
      obtain ⟨u, rfl, ru⟩ := vals1 rx
      obtain ⟨as, rd, nl⟩ := rdW hp I (fun n a q h1 h2 => rdL hp hc I 8 n a q h1 h2) d x u q h1 ru hq
      have fin : ∀ (h' : Heap) (t : Tok) (tk : Nat), (∀ b o, s.heap.get? b = some o → h'.get? b = some o) → EP X pins σ Q (.str q.shown t) { s with heap := h', toks := tk } := fun h' t tk kp => ⟨.str q.shown, H, I.kept kp, ⟨t, rfl⟩, k.here hc rfl⟩
      have hsz : q.shown.length ≤ sizeLine := by rw [sz_eq]; exact z2
      cases rd with
      | none => exact PySem.P.repr_of_none (fin s.heap _ _ fun _ _ z => z)
      | bool b => exact PySem.P.repr_of_bool (fin s.heap _ _ fun _ _ z => z)
      | int i t =>
        refine PySem.P.repr_of_int ?_ (fin s.heap _ _ fun _ _ z => z)
        simpa [PyData.showable] using z1
      | str y t => exact PySem.P.repr_of_str (fin s.heap _ _ fun _ _ z => z) hsz
      | list a1 a2 a3 a4 => exact repr_of_reads' (.list a1 a2 a3 a4) z1 (fun hd => by rcases z4 with z4 | z4; exact absurd (hd.symm.trans z4) (by simp); exact nl z4) hg0 (by omega) (fun _ _ z => z) (fun h' t tk kp => fin h' t tk kp) hsz
      | tuple a1 a2 a3 a4 => exact repr_of_reads' (.tuple a1 a2 a3 a4) z1 (fun hd => by rcases z4 with z4 | z4; exact absurd (hd.symm.trans z4) (by simp); exact nl z4) hg0 (by omega) (fun _ _ z => z) (fun h' t tk kp => fin h' t tk kp) hsz
      | dict a1 a2 a3 a4 a5 => exact repr_of_reads' (.dict a1 a2 a3 a4 a5) z1 (fun hd => by rcases z4 with z4 | z4; exact absurd (hd.symm.trans z4) (by simp); exact nl z4) hg0 (by omega) (fun _ _ z => z) (fun h' t tk kp => fin h' t tk kp) hsz
    · cases h2
  · cases h2
end
end Mn

namespace Mn
open PySem PySem.Spec PyProof.Rows L2

/-! targets (R: what else is wanted of the slots) -/
abbrev DG := D → Env → Store → Option Env
abbrev SR := L2.St → L2.St → Prop
def anyR : SR := fun _ _ => True
def wipeR (vs : List Nat) : SR := fun σ σ' => wipe σ' vs = wipe σ vs
structure SRok (R : SR) : Prop where
  refl : ∀ σ, R σ σ
  trans : ∀ a b c, R a b → R b c → R a c
theorem anyR_ok : SRok anyR := ⟨fun _ => True.intro, fun _ _ _ _ _ => True.intro⟩
theorem wipeR_ok (vs : List Nat) : SRok (wipeR vs) := ⟨fun _ => rfl, fun _ _ _ h k => Eq.trans k h⟩
def GG (p : Pm) (R : SR) (t : DG) : TG := fun v σ H Q => ∃ ρ S env d env', EnvR p ρ H env σ ∧ Conc p ρ S H ∧ VR p ρ H d v ∧ t d env S = some env' ∧ ∀ σ', EnvR p ρ H env' σ' → R σ σ' → Q σ' H
abbrev DGs := List D → Env → Store → Option Env
def GGs (p : Pm) (R : SR) (t : DGs) : TGs := fun xs σ H Q => ∃ ρ S env ds env', EnvR p ρ H env σ ∧ Conc p ρ S H ∧ VRs p ρ H ds xs ∧ t ds env S = some env' ∧ ∀ σ', EnvR p ρ H env' σ' → R σ σ' → Q σ' H
def nameG (i : Nat) : DG := fun d env _ => some (env.set i (some d))
theorem wipe_set (σ : L2.St) (i : Nat) (o : Option V) : ∀ vs : List Nat, i ∈ vs → wipe (σ.set i o) vs = wipe σ vs
  | [], h => by simp at h
  | v :: vs, h => by
    show (wipe (σ.set i o) vs).set v none = (wipe σ vs).set v none
    by_cases hv : i ∈ vs
    · rw [wipe_set σ i o vs hv]
    · have e : i = v := by simpa [hv] using h
      subst e
      have comm : ∀ ws : List Nat, i ∉ ws → wipe (σ.set i o) ws = (wipe σ ws).set i o := by
        intro ws
        induction ws with
        | nil => intro _; rfl
        | cons a r ih =>
          intro hn
          rw [List.mem_cons, not_or] at hn
          show (wipe (σ.set i o) r).set a none = ((wipe σ r).set a none).set i o
          rw [ih hn.2, List.set_comm _ _ hn.1]
      rw [comm vs hv, List.set_set]
def tupG (t : DGs) (n : Nat) : DG := fun d env S => match itemsOf S d with
  | some ds => if ds.length = n then t ds env S else none
  | none => none
def nilG : DGs := fun ds env _ => match ds with
  | [] => some env
  | _ => none
def consG (t : DG) (u : DGs) : DGs := fun ds env S => match ds with
  | d :: r => (t d env S).bind fun env' => u r env' S
  | _ => none
section
variable {X : Cx} {p : Pm} {W : WX} {R : SR} {e : Expr} {es : List Expr} {pos : Pos} {vs : List Nat}
theorem pg_or {tg : Expr} {t u : TG} (h : PG X tg t) (k : PG X tg u) : PG X tg (fun v σ H Q => t v σ H Q ∨ u v σ H Q) :=
  ⟨fun pins s σ H v w Q I r q => q.elim (h.run pins s σ H v w Q I r) (k.run pins s σ H v w Q I r)⟩
theorem gg_name {i : Nat} {x : Str} (hN : X.N.Nodup) (hi : X.N[i]? = some x) (hx : Loc X.env.scope x) (hf : X.fn x = true ∨ X.env.scope.names.lookup x = some .local) (hv : ∀ σ v, R σ (σ.set i (some v))) : PG X (.Name x pos) (GG p R (nameG i)) := by
  refine ⟨fun pins s σ H v u Q I r ⟨ρ, S, env, d, env', he, hc, hd, e, k⟩ => (pg_name (pos := pos) hN hi hx hf).run pins s σ H v u Q I r ?_⟩
  cases e
  exact k _ (he.set hd) (hv σ v)
theorem ggs_nil (hR : SRok R) : PGs X [] (GGs p R nilG) := by
  refine ⟨fun pins s σ H xs us Q I r ⟨ρ, S, env, ds, env', he, hc, hd, e, k⟩ => pgs_nil.run pins s σ H xs us Q I r ?_⟩
  unfold nilG at e
  split at e
  · cases e
    exact ⟨hd, k σ he (hR.refl σ)⟩
  · cases e
theorem assign_plain (h : plainX e = true) : (assignEach (e :: es) X.env).map (·.2) = assign e X.env :: (assignEach es X.env).map (·.2) := by
  cases e <;> first | rfl | cases h
theorem assign_len : (assignEach es X.env).length = es.length := by
  induction es with
  | nil => rfl
  | cons a r ih => cases a <;> exact congrArg Nat.succ ih
theorem assign_nostar (h : es.all plainX = true) : (assignEach es X.env).findIdx? (·.1) = none := by
  induction es with
  | nil => rfl
  | cons a r ih =>
    rw [List.all_cons, Bool.and_eq_true] at h
    have := ih h.2
    cases a <;> first | (cases h.1; done) | (show List.findIdx? _ ((false, _) :: assignEach r X.env) = none; rw [List.findIdx?_cons]; simp [this])
theorem ggs_cons {t : DG} {u : DGs} (hR : SRok R) (h1 : PG X e (GG p R t)) (h2 : PGs X es (GGs p R u)) (hs : plainX e = true) : PGs X (e :: es) (GGs p R (consG t u)) := by
  refine ⟨fun pins s σ H xs us Q I r ⟨ρ, S, env, ds, env', he, hc, hd, q, k⟩ => (pgs_cons h1 h2 (assign_plain hs)).run pins s σ H xs us Q I r ?_⟩
  unfold consG at q
  split at q
  · rename_i d dr
    obtain ⟨x, xr, rfl, hx, hr⟩ := hd
    cases q1 : t d env S with
    | none => rw [q1] at q; cases q
    | some env1 =>
      rw [q1] at q
      exact ⟨x, xr, rfl, ρ, S, env, d, env1, he, hc, hx, q1, fun σ1 he1 r1 => ⟨ρ, S, env1, dr, env', he1, hc, hr, q, fun σ2 he2 r2 => k σ2 he2 (hR.trans _ _ _ r1 r2)⟩⟩
  · cases q
theorem gg_tup {t : DGs} {k : Nat} (hp : p.K = X.K) (hc : X.calm = true) (h : PGs X es (GGs p R t)) (hs : es.all plainX = true) : PG X (.Tuple es k pos) (GG p R (tupG t es.length)) := by
  refine ⟨fun pins s σ H v u Q I r ⟨ρ, S, env, d, env', he, hcc, hd, q, kk⟩ => (pg_or (pg_tup hc h assign_len (assign_nostar hs)) (pg_lst hc h assign_len (assign_nostar hs))).run pins s σ H v u Q I r ?_⟩
  unfold tupG at q
  split at q
  · rename_i ds hds
    split at q
    · rename_i hl
      obtain ⟨a, xs, rfl, hq, rv⟩ := items_of hcc hd hds
      have hl2 : xs.length = es.length := by rw [← rv.length]; exact hl
      rcases hq with hq | hq
      · exact .inr ⟨a, xs, rfl, hp ▸ hq, hl2, ρ, S, env, ds, env', he, hcc, rv, q, kk⟩
      · exact .inl ⟨a, xs, rfl, hp ▸ hq, hl2, ρ, S, env, ds, env', he, hcc, rv, q, kk⟩
    · cases q
  · cases q
end

/-! what is walked -/
inductive Src where
  | seq (d : D) | rng (lo : Int) (n : Nat) | txt (x : Str) | enm (d : D) | zip (d e : D)
/-- none: not walked so; some none: the end -/
def itemAt (src : Src) (i : Nat) (S : Store) : Option (Option D) := match src with
  | .seq d => (itemsOf S d).map fun ds => ds[i]?
  | .rng lo n => some (if i < n then some (.int (lo + i)) else none)
  | .txt x => some ((x.cps[i]?).map fun c => .str ⟨#[c]⟩)
  | .enm d => (lstOf S d).map fun ds => (ds[i]?).map fun x => .tup [.int (i : Nat), x]
  | .zip d e => (lstOf S d).bind fun ds => (lstOf S e).map fun es => match ds[i]?, es[i]? with
    | some x, some y => some (.tup [x, y])
    | _, _ => none
theorem itemAt_seq (d : D) (i : Nat) (S : Store) : itemAt (.seq d) i S = (itemsOf S d).map fun ds => ds[i]? := rfl
def srcLen (src : Src) (S : Store) : Nat := match src with
  | .seq d => ((itemsOf S d).map List.length).getD 0
  | .rng _ n => n
  | .txt x => x.cps.size
  | .enm d => ((lstOf S d).map List.length).getD 0
  | .zip d _ => ((lstOf S d).map List.length).getD 0
/-- an iterator J walks src, from (ρ, H) on -/
structure SrcOk (p : Pm) (J : It) (src : Src) (ρ : List Addr) (H : Hp) : Prop where
  stop : ∀ i ρ' S' H', Ext p ρ H ρ' H' → Conc p ρ' S' H' → itemAt src i S' = some none → J.stop i H'
  go : ∀ i ρ' S' H' d, Ext p ρ H ρ' H' → Conc p ρ' S' H' → itemAt src i S' = some (some d) → J.go i H'
  yld : ∀ i ρ' S' H' d v H2, Ext p ρ H ρ' H' → Conc p ρ' S' H' → itemAt src i S' = some (some d) → J.yld i H' v H2 → Ext p ρ' H' ρ' H2 ∧ Conc p ρ' S' H2 ∧ VR p ρ' H2 d v
def GI (p : Pm) (W : WX) (r : Env → Store → Rs Src) : TI := fun σ H R => ∃ ρ S env, EnvR p ρ H env σ ∧ Conc p ρ S H ∧ Post p ρ H (fun src _ ρ' H' => ∀ J, SrcOk p J src ρ' H' → R J H') (fun cls dd _ H' => W cls dd σ H') (r env S)
section
variable {p : Pm} {ρ : List Addr} {H : Hp}
theorem src_list (K : PySem.W.Frag) (hp : p.K = K) {d : D} {a : Addr} (hd : VR p ρ H d (.ref a)) (hno : ∀ xs, d ≠ .tup xs) : SrcOk p (Itl K a) (.seq d) ρ H := by
  have get : ∀ ρ' S' H' ds, Ext p ρ H ρ' H' → Conc p ρ' S' H' → itemsOf S' d = some ds → ∃ xs, SqL K H' a xs ∧ VRs p ρ' H' ds xs := fun ρ' S' H' ds x c e => by
    obtain ⟨b, xs, e1, hq, rv⟩ := items_of c (VR.mono x _ _ hd) e
    cases e1
    rcases hq with hq | hq
    · exact ⟨xs, hp ▸ hq, rv⟩
    · cases d with
      | tup ys => exact absurd rfl (hno ys)
      | ros ys =>
        obtain ⟨b2, zs, e2, h2, h3⟩ := VR.mono x _ _ hd
        cases e2
        cases e
        exact ⟨zs, hp ▸ h2.sq, h3⟩
      | loc n =>
        obtain ⟨b2, e2, h2⟩ := VR.mono x _ _ hd
        cases e2
        have e' : (match S'[n]? with
          | some (.lst ds) => some ds
          | _ => none) = some ds := e
        split at e'
        · rename_i es hS
          cases e'
          obtain ⟨zs, hz, r⟩ := c.cell n a _ h2 hS
          exact ⟨zs, SqL.of hz, r⟩
        · cases e'
      | _ => cases e
  refine ⟨fun i ρ' S' H' x c e => ?_, fun i ρ' S' H' dd x c e => ?_, fun i ρ' S' H' dd v H2 x c e y => ?_⟩
  · rw [itemAt_seq] at e
    cases q : itemsOf S' d with
    | none => rw [q] at e; cases e
    | some ds =>
      rw [q] at e
      obtain ⟨xs, h1, h2⟩ := get ρ' S' H' ds x c q
      have e2 : ds[i]? = none := Option.some.inj e
      exact ⟨xs, h1, by rw [← h2.length]; exact List.getElem?_eq_none_iff.mp e2⟩
  · rw [itemAt_seq] at e
    cases q : itemsOf S' d with
    | none => rw [q] at e; cases e
    | some ds =>
      rw [q] at e
      obtain ⟨xs, h1, h2⟩ := get ρ' S' H' ds x c q
      obtain ⟨z, hz, _⟩ := h2.get (Option.some.inj e)
      exact ⟨xs, z, h1, hz⟩
  · obtain ⟨e1, y⟩ := y
    subst e1
    refine ⟨.refl .., c, ?_⟩
    rw [itemAt_seq] at e
    cases q : itemsOf S' d with
    | none => rw [q] at e; cases e
    | some ds =>
      rw [q] at e
      obtain ⟨xs, h1, h2⟩ := get ρ' S' _ ds x c q
      obtain ⟨z, hz, hv⟩ := h2.get (Option.some.inj e)
      have := y xs h1
      rw [hz] at this
      cases this
      exact hv
theorem src_tup (K : PySem.W.Frag) (hp : p.K = K) {ds : List D} {a : Addr} (hd : VR p ρ H (.tup ds) (.ref a)) : SrcOk p (Itt K a) (.seq (.tup ds)) ρ H := by
  have get : ∀ ρ' H', Ext p ρ H ρ' H' → ∃ xs, SqT K H' a xs ∧ VRs p ρ' H' ds xs := fun ρ' H' x => by
    obtain ⟨b, xs, e1, hq, rv⟩ := VR.mono x _ _ hd
    cases e1
    exact ⟨xs, hp ▸ hq, rv⟩
  refine ⟨fun i ρ' S' H' x c e => ?_, fun i ρ' S' H' dd x c e => ?_, fun i ρ' S' H' dd v H2 x c e y => ?_⟩
  · obtain ⟨xs, h1, h2⟩ := get ρ' H' x
    have e2 : ds[i]? = none := Option.some.inj e
    exact ⟨xs, h1, by rw [← h2.length]; exact List.getElem?_eq_none_iff.mp e2⟩
  · obtain ⟨xs, h1, h2⟩ := get ρ' H' x
    obtain ⟨z, hz, _⟩ := h2.get (Option.some.inj e)
    exact ⟨xs, z, h1, hz⟩
  · obtain ⟨e1, y⟩ := y
    subst e1
    refine ⟨.refl .., c, ?_⟩
    obtain ⟨xs, h1, h2⟩ := get ρ' _ x
    obtain ⟨z, hz, hv⟩ := h2.get (Option.some.inj e)
    have := y xs h1
    rw [hz] at this
    cases this
    exact hv
theorem src_rng (lo : Int) (n : Nat) : SrcOk p (Itr lo n) (.rng lo n) ρ H := by
  refine ⟨fun i ρ' S' H' x c e => ?_, fun i ρ' S' H' dd x c e => ?_, fun i ρ' S' H' dd v H2 x c e y => ?_⟩
  · have e' : (if i < n then some (D.int (lo + i)) else none) = none := Option.some.inj e
    by_cases h : i < n
    · rw [if_pos h] at e'; cases e'
    · exact Nat.le_of_not_lt h
  · have e' : (if i < n then some (D.int (lo + i)) else none) = some dd := Option.some.inj e
    by_cases h : i < n
    · exact h
    · rw [if_neg h] at e'; cases e'
  · obtain ⟨e1, rfl⟩ := y
    subst e1
    have e' : (if i < n then some (D.int (lo + i)) else none) = some dd := Option.some.inj e
    by_cases h : i < n
    · rw [if_pos h] at e'; cases e'; exact ⟨.refl .., c, rfl⟩
    · rw [if_neg h] at e'; cases e'
theorem src_txt (z : Str) : SrcOk p (Its z) (.txt z) ρ H := by
  refine ⟨fun i ρ' S' H' x c e => ?_, fun i ρ' S' H' dd x c e => ?_, fun i ρ' S' H' dd v H2 x c e y => ?_⟩
  · have e' : (z.cps[i]?).map (fun c => D.str ⟨#[c]⟩) = none := Option.some.inj e
    cases q : z.cps[i]? with
    | none => exact Array.getElem?_eq_none_iff.mp q
    | some _ => rw [q] at e'; cases e'
  · have e' : (z.cps[i]?).map (fun c => D.str ⟨#[c]⟩) = some dd := Option.some.inj e
    cases q : z.cps[i]? with
    | none => rw [q] at e'; cases e'
    | some _ => exact (Array.getElem?_eq_some_iff.mp q).1
  · obtain ⟨e1, k, hk, rfl⟩ := y
    subst e1
    have e' : (z.cps[i]?).map (fun c => D.str ⟨#[c]⟩) = some dd := Option.some.inj e
    rw [hk] at e'
    cases e'
    exact ⟨.refl .., c, rfl⟩
end
end Mn

namespace Mn
open PySem PySem.Spec PyProof.Rows L2

theorem SrcOk.mono {p : Pm} {J : It} {src : Src} {ρ ρ1 : List Addr} {H H1 : Hp} (h : SrcOk p J src ρ H) (e : Ext p ρ H ρ1 H1) : SrcOk p J src ρ1 H1 :=
  ⟨fun i ρ' S' H' x c q => h.stop i ρ' S' H' (e.trans x) c q, fun i ρ' S' H' d x c q => h.go i ρ' S' H' d (e.trans x) c q, fun i ρ' S' H' d v H2 x c q y => h.yld i ρ' S' H' d v H2 (e.trans x) c q y⟩

theorem pi_or {X : Cx} {tg e : Expr} {t u : TI} (h : PI X tg e t) (k : PI X tg e u) : PI X tg e (fun σ H R => t σ H R ∨ u σ H R) :=
  ⟨fun pins s σ H R I q => q.elim (h.run pins s σ H R I) (k.run pins s σ H R I)⟩
def srcR (d : D) (S : Store) : Rs Src := match d with
  | .str x => .ok (.txt x) S
  | _ => match itemsOf S d with
    | some _ => .ok (.seq d) S
    | none => .bad
abbrev DI := Env → Store → Rs Src
def seqI (ra : DE) : DI := fun env S => (ra env S).bind srcR
def rng1D (ds : List D) (S : Store) : Rs Src := match ds with
  | [.int j] => if (decide (-(2 ^ 62) ≤ j) && decide (j < 2 ^ 62)) = true then .ok (.rng 0 j.toNat) S else .bad
  | _ => .bad
def rng2D (ds : List D) (S : Store) : Rs Src := match ds with
  | [.int i, .int j] => if (decide (-(2 ^ 62) ≤ i) && decide (i < 2 ^ 62) && decide (-(2 ^ 62) ≤ j) && decide (j < 2 ^ 62)) = true then .ok (.rng i (j - i).toNat) S else .bad
  | _ => .bad
def rng1I (r : DA) : DI := fun env S => (r env S).bind rng1D
def rng2I (r : DA) : DI := fun env S => (r env S).bind rng2D
def enmD (ds : List D) (S : Store) : Rs Src := match ds with
  | [d] => match lstOf S d with
    | some _ => .ok (.enm d) S
    | none => .bad
  | _ => .bad
def enmI (r : DA) : DI := fun env S => (r env S).bind enmD
def zipD (ds : List D) (S : Store) : Rs Src := match ds with
  | [d, e] => match lstOf S d, lstOf S e with
    | some _, some _ => .ok (.zip d e) S
    | _, _ => .bad
  | _ => .bad
def zipI (r : DA) : DI := fun env S => (r env S).bind zipD
section
variable {X : Cx} {p : Pm} {W : WX} {e tg : Expr} {es : List Expr} {pos pp : Pos} {ra : DE}
theorem gi_seq (hp : p.K = X.K) (ha : PE X e (GE p W ra)) : PI X tg e (GI p W (seqI ra)) := by
  refine ⟨fun pins s σ H R I ⟨ρ, S, env, he, hc, hq⟩ => (pi_or (pi_list ha) (pi_or (pi_tup ha) (pi_str ha))).run pins s σ H R I ?_⟩
  unfold seqI at hq
  cases q : ra env S with
  | bad => rw [q] at hq; exact hq.elim
  | exc c fl S' => rw [q] at hq; exact .inl ⟨ρ, S, env, he, hc, by rw [q]; exact hq⟩
  | ok d S1 =>
    rw [q] at hq
    have hq' : Post p ρ H (fun src _ ρ' H' => ∀ J, SrcOk p J src ρ' H' → R J H') (fun cls dd _ H' => W cls dd σ H') (srcR d S1) := hq
    have lst : (∀ xs, d ≠ .tup xs) → (∀ x, d ≠ .str x) → (iList X.K (GE p W ra)) σ H R := fun hno hns => by
      have e1 : srcR d S1 = match itemsOf S1 d with
        | some _ => .ok (.seq d) S1
        | none => .bad := by
        cases d with
        | str x => exact absurd rfl (hns x)
        | _ => rfl
      rw [e1] at hq'
      refine ⟨ρ, S, env, he, hc, ?_⟩
      rw [q]
      intro ρ' H' x c v hv
      cases qi : itemsOf S1 d with
      | none => rw [qi] at hq'; exact hq'.elim
      | some ds =>
        rw [qi] at hq'
        obtain ⟨a, xs, rfl, hs, rv⟩ := items_of c hv qi
        refine ⟨a, rfl, ?_, hq' ρ' H' x c _ (src_list X.K hp hv hno)⟩
        rcases hs with hs | hs
        · exact ⟨xs, hp ▸ hs⟩
        · cases d with
          | tup ys => exact absurd rfl (hno ys)
          | ros ys =>
            obtain ⟨b2, zs, e2, h2, h3⟩ := hv
            cases e2
            exact ⟨zs, hp ▸ h2.sq⟩
          | loc n =>
            obtain ⟨b2, e2, h2⟩ := hv
            cases e2
            have e' : (match S1[n]? with
              | some (.lst ds) => some ds
              | _ => none) = some ds := qi
            split at e'
            · rename_i es hS
              obtain ⟨zs, hz, r⟩ := c.cell n a _ h2 hS
              exact ⟨zs, SqL.of hz⟩
            · cases e'
          | _ => cases qi
    cases d with
    | str z =>
      refine .inr (.inr ⟨ρ, S, env, he, hc, ?_⟩)
      rw [q]
      intro ρ' H' x c v hv
      cases hv
      exact ⟨z, rfl, hq' ρ' H' x c _ (src_txt z)⟩
    | tup ds =>
      refine .inr (.inl ⟨ρ, S, env, he, hc, ?_⟩)
      rw [q]
      intro ρ' H' x c v hv
      obtain ⟨a, xs, rfl, hs, rv⟩ := id hv
      exact ⟨a, rfl, ⟨xs, hp ▸ hs⟩, hq' ρ' H' x c _ (src_tup X.K hp hv)⟩
    | non => exact .inl (lst (fun _ z => nomatch z) (fun _ z => nomatch z))
    | bl b => exact .inl (lst (fun _ z => nomatch z) (fun _ z => nomatch z))
    | int b => exact .inl (lst (fun _ z => nomatch z) (fun _ z => nomatch z))
    | ros b => exact .inl (lst (fun _ z => nomatch z) (fun _ z => nomatch z))
    | loc b => exact .inl (lst (fun _ z => nomatch z) (fun _ z => nomatch z))
    | ty b => exact .inl (lst (fun _ z => nomatch z) (fun _ z => nomatch z))
    | gl b => exact .inl (lst (fun _ z => nomatch z) (fun _ z => nomatch z))
    | exo _ _ _ => exact .inl (lst (fun _ z => nomatch z) (fun _ z => nomatch z))
/-- a source out of arguments -/
theorem gi_args {r : DA} {f : List D → Store → Rs Src} {wi : TA → TI} (ha : PA X es (GA p W r)) (hpi : PI X tg e (wi (GA p W r)))
    (h : ∀ (σ : L2.St) (H : Hp) (R : It → Hp → Prop), (GA p W r σ H fun vs H1 => ∃ ds ρ1 S1, VRs p ρ1 H1 ds vs ∧ Conc p ρ1 S1 H1 ∧ Post p ρ1 H1 (fun src _ ρ' H' => ∀ J, SrcOk p J src ρ' H' → R J H') (fun cls dd _ H' => W cls dd σ H') (f ds S1)) → wi (GA p W r) σ H R) : PI X tg e (GI p W fun env S => (r env S).bind f) :=
  ⟨fun pins s σ H R I ⟨ρ, S, env, he, hc, hq⟩ => hpi.run pins s σ H R I (h σ H R ⟨ρ, S, env, he, hc, hq.turn fun ds S1 ρ1 H1 x1 c1 p1 vs hv => ⟨ds, ρ1, S1, hv, c1, p1⟩⟩)⟩
theorem GA.mono {r : DA} {σ : L2.St} {H : Hp} {Q Q' : List V → Hp → Prop} (h : GA p W r σ H Q) (k : ∀ vs H', Q vs H' → Q' vs H') : GA p W r σ H Q' := by
  obtain ⟨ρ, S, env, he, hc, hq⟩ := h
  refine ⟨ρ, S, env, he, hc, ?_⟩
  cases q : r env S with
  | ok ds S1 => rw [q] at hq; exact fun ρ' H' x c vs hv => k vs H' (hq ρ' H' x c vs hv)
  | exc c fl S1 => rw [q] at hq; exact hq
  | bad => rw [q] at hq; exact hq
theorem gi_rng1 {r : DA} (hg : Gl X "range") (hm : X.mg "range" = none) (ha : PA X [e] (GA p W r)) (hs : plainX e = true) : PI X tg (.Call (.Name "range" pp) [e] [] pos) (GI p W (rng1I r)) :=
  gi_args (wi := iRng1) ha (pi_range1 hg hm ha (star_plain hs)) fun σ H R h => GA.mono h fun vs H1 ⟨ds, ρ1, S1, hv, c1, p1⟩ => by
    unfold rng1D at p1
    split at p1
    · rename_i j
      split at p1
      · rename_i z
        simp only [Bool.and_eq_true, decide_eq_true_eq] at z
        obtain ⟨y, t, rfl, hy, ht⟩ := hv
        have e2 : t = [] := ht
        subst e2
        cases hy
        exact ⟨j, rfl, z.1, z.2, p1 ρ1 H1 (.refl ..) c1 _ (src_rng 0 j.toNat)⟩
      · exact p1.elim
    · exact p1.elim
theorem gi_rng2 {e2 : Expr} {r : DA} (hg : Gl X "range") (hm : X.mg "range" = none) (ha : PA X [e, e2] (GA p W r)) (hs : plainX e = true) (hs2 : plainX e2 = true) : PI X tg (.Call (.Name "range" pp) [e, e2] [] pos) (GI p W (rng2I r)) :=
  gi_args (wi := iRng2) ha (pi_range2 hg hm ha (by rw [star_plain hs, star_plain hs2]; rfl) (by rw [star_plain hs2]; rfl)) fun σ H R h => GA.mono h fun vs H1 ⟨ds, ρ1, S1, hv, c1, p1⟩ => by
    unfold rng2D at p1
    split at p1
    · rename_i i j
      split at p1
      · rename_i z
        simp only [Bool.and_eq_true, decide_eq_true_eq] at z
        obtain ⟨y, t, rfl, hy, y2, t2, rfl, hy2, ht⟩ := hv
        have e3 : t2 = [] := ht
        subst e3
        cases hy
        cases hy2
        exact ⟨i, j, rfl, ⟨z.1.1.1, z.1.1.2, z.1.2, z.2⟩, p1 ρ1 H1 (.refl ..) c1 _ (src_rng i (j - i).toNat)⟩
      · exact p1.elim
    · exact p1.elim
theorem itemAt_enm (d : D) (i : Nat) (S : Store) : itemAt (.enm d) i S = (lstOf S d).map fun ds => (ds[i]?).map fun x => .tup [.int (i : Nat), x] := rfl
theorem src_enm (K : PySem.W.Frag) (hp : p.K = K) {ρ : List Addr} {H : Hp} {d : D} {a : Addr} (hd : VR p ρ H d (.ref a)) : SrcOk p (Ite K a) (.enm d) ρ H := by
  have get : ∀ ρ' S' H' ds, Ext p ρ H ρ' H' → Conc p ρ' S' H' → lstOf S' d = some ds → ∃ xs, SqL K H' a xs ∧ VRs p ρ' H' ds xs := fun ρ' S' H' ds x c q => by
    obtain ⟨b, xs, e1, hq, rv⟩ := lst_of c (VR.mono x _ _ hd) q
    cases e1
    exact ⟨xs, hp ▸ hq, rv⟩
  refine ⟨fun i ρ' S' H' x c q => ?_, fun i ρ' S' H' dd x c q => ?_, fun i ρ' S' H' dd v H2 x c q y => ?_⟩
  · rw [itemAt_enm] at q
    cases q1 : lstOf S' d with
    | none => rw [q1] at q; cases q
    | some ds =>
      rw [q1] at q
      obtain ⟨xs, h1, h2⟩ := get ρ' S' H' ds x c q1
      have q2 : (ds[i]?).map (fun x => D.tup [.int (i : Nat), x]) = none := Option.some.inj q
      cases q3 : ds[i]? with
      | none => exact ⟨xs, h1, by rw [← h2.length]; exact List.getElem?_eq_none_iff.mp q3⟩
      | some _ => rw [q3] at q2; cases q2
  · rw [itemAt_enm] at q
    cases q1 : lstOf S' d with
    | none => rw [q1] at q; cases q
    | some ds =>
      rw [q1] at q
      obtain ⟨xs, h1, h2⟩ := get ρ' S' H' ds x c q1
      have q2 : (ds[i]?).map (fun x => D.tup [.int (i : Nat), x]) = some dd := Option.some.inj q
      cases q3 : ds[i]? with
      | none => rw [q3] at q2; cases q2
      | some z =>
        obtain ⟨w, hw, _⟩ := h2.get q3
        exact ⟨xs, w, h1, hw⟩
  · rw [itemAt_enm] at q
    cases q1 : lstOf S' d with
    | none => rw [q1] at q; cases q
    | some ds =>
      rw [q1] at q
      obtain ⟨xs, h1, h2⟩ := get ρ' S' H' ds x c q1
      have q2 : (ds[i]?).map (fun x => D.tup [.int (i : Nat), x]) = some dd := Option.some.inj q
      cases q3 : ds[i]? with
      | none => rw [q3] at q2; cases q2
      | some z =>
        rw [q3] at q2
        cases q2
        obtain ⟨w, hw, hv⟩ := h2.get q3
        obtain ⟨T, u, rfl, hT, rfl, hall⟩ := y
        have := hall xs h1
        rw [hw] at this
        cases this
        have x2 := ext_new (p := p) (ρ := ρ') (o := .tup [.int (i : Nat), w]) hT
        exact ⟨x2, c.new hT, T, _, rfl, SqT.of upd_same, .int (i : Nat), [w], rfl, rfl, w, [], rfl, VR.mono x2 _ _ hv, rfl⟩
theorem gi_enm {elts : List Expr} {kk : Nat} {tpos : Pos} {r : DA} (hp : p.K = X.K) (hg : Gl X "enumerate") (hm : X.mg "enumerate" = none) (ha : PA X [e] (GA p W r)) (hs : plainX e = true) : PI X (.Tuple elts kk tpos) (.Call (.Name "enumerate" pp) [e] [] pos) (GI p W (enmI r)) :=
  gi_args (wi := iEnum X.K) ha (pi_enum hg hm ha (star_plain hs)) fun σ H R h => GA.mono h fun vs H1 ⟨ds, ρ1, S1, hv, c1, p1⟩ => by
    unfold enmD at p1
    split at p1
    · rename_i d
      split at p1
      · rename_i es hd
        obtain ⟨y, t, rfl, hy, ht⟩ := hv
        have e2 : t = [] := ht
        subst e2
        obtain ⟨a, xs, rfl, hq, rv⟩ := lst_of c1 hy hd
        exact ⟨a, xs, rfl, hp ▸ hq, p1 ρ1 H1 (.refl ..) c1 _ (src_enm X.K hp hy)⟩
      · exact p1.elim
    · exact p1.elim
theorem itemAt_zip (d e : D) (i : Nat) (S : Store) : itemAt (.zip d e) i S = (lstOf S d).bind fun ds => (lstOf S e).map fun es => match ds[i]?, es[i]? with
    | some x, some y => some (.tup [x, y])
    | _, _ => none := rfl
theorem src_zip (K : PySem.W.Frag) (hp : p.K = K) {ρ : List Addr} {H : Hp} {d d2 : D} {a b : Addr} (hd : VR p ρ H d (.ref a)) (hd2 : VR p ρ H d2 (.ref b)) : SrcOk p (Itz K a b) (.zip d d2) ρ H := by
  have get : ∀ (d : D) (a : Addr), VR p ρ H d (.ref a) → ∀ ρ' S' H' ds, Ext p ρ H ρ' H' → Conc p ρ' S' H' → lstOf S' d = some ds → ∃ xs, SqL K H' a xs ∧ VRs p ρ' H' ds xs := fun d a hd ρ' S' H' ds x c q => by
    obtain ⟨b, xs, e1, hq, rv⟩ := lst_of c (VR.mono x _ _ hd) q
    cases e1
    exact ⟨xs, hp ▸ hq, rv⟩
  have both : ∀ ρ' S' H' i o, Ext p ρ H ρ' H' → Conc p ρ' S' H' → itemAt (.zip d d2) i S' = some o → ∃ ds es xs ys, SqL K H' a xs ∧ VRs p ρ' H' ds xs ∧ SqL K H' b ys ∧ VRs p ρ' H' es ys ∧ (match ds[i]?, es[i]? with
      | some x, some y => some (D.tup [x, y])
      | _, _ => none) = o := fun ρ' S' H' i o x c q => by
    rw [itemAt_zip] at q
    cases q1 : lstOf S' d with
    | none => rw [q1] at q; cases q
    | some ds =>
      cases q2 : lstOf S' d2 with
      | none => rw [q1, q2] at q; cases q
      | some es =>
        rw [q1, q2] at q
        obtain ⟨xs, h1, h2⟩ := get d a hd ρ' S' H' ds x c q1
        obtain ⟨ys, h3, h4⟩ := get d2 b hd2 ρ' S' H' es x c q2
        exact ⟨ds, es, xs, ys, h1, h2, h3, h4, Option.some.inj q⟩
  refine ⟨fun i ρ' S' H' x c q => ?_, fun i ρ' S' H' dd x c q => ?_, fun i ρ' S' H' dd v H2 x c q y => ?_⟩
  · obtain ⟨ds, es, xs, ys, h1, h2, h3, h4, e⟩ := both ρ' S' H' i _ x c q
    refine ⟨xs, ys, h1, h3, ?_⟩
    cases q3 : ds[i]? with
    | none => exact .inl (by rw [← h2.length]; exact List.getElem?_eq_none_iff.mp q3)
    | some z =>
      cases q4 : es[i]? with
      | none => exact .inr (by rw [← h4.length]; exact List.getElem?_eq_none_iff.mp q4)
      | some w => rw [q3, q4] at e; cases e
  · obtain ⟨ds, es, xs, ys, h1, h2, h3, h4, e⟩ := both ρ' S' H' i _ x c q
    cases q3 : ds[i]? with
    | none => rw [q3] at e; cases e
    | some z =>
      cases q4 : es[i]? with
      | none => rw [q3, q4] at e; cases e
      | some w =>
        obtain ⟨u1, hu1, _⟩ := h2.get q3
        obtain ⟨u2, hu2, _⟩ := h4.get q4
        exact ⟨xs, ys, u1, u2, h1, h3, hu1, hu2⟩
  · obtain ⟨ds, es, xs, ys, h1, h2, h3, h4, e⟩ := both ρ' S' H' i _ x c q
    cases q3 : ds[i]? with
    | none => rw [q3] at e; cases e
    | some z =>
      cases q4 : es[i]? with
      | none => rw [q3, q4] at e; cases e
      | some w =>
        rw [q3, q4] at e
        cases e
        obtain ⟨u1, hu1, hv1⟩ := h2.get q3
        obtain ⟨u2, hu2, hv2⟩ := h4.get q4
        obtain ⟨T, a1, a2, rfl, hT, rfl, hall1, hall2⟩ := y
        have := hall1 xs h1
        rw [hu1] at this
        cases this
        have := hall2 ys h3
        rw [hu2] at this
        cases this
        have x2 := ext_new (p := p) (ρ := ρ') (o := .tup [u1, u2]) hT
        exact ⟨x2, c.new hT, T, _, rfl, SqT.of upd_same, u1, [u2], rfl, VR.mono x2 _ _ hv1, u2, [], rfl, VR.mono x2 _ _ hv2, rfl⟩
theorem gi_zip {e2 : Expr} {elts : List Expr} {kk : Nat} {tpos : Pos} {r : DA} (hp : p.K = X.K) (hg : Gl X "zip") (hm : X.mg "zip" = none) (ha : PA X [e, e2] (GA p W r)) (hs : plainX e = true) (hs2 : plainX e2 = true) : PI X (.Tuple elts kk tpos) (.Call (.Name "zip" pp) [e, e2] [] pos) (GI p W (zipI r)) :=
  gi_args (wi := iZip X.K) ha (pi_zip hg hm ha (star_plain hs) (star_any (by simp [hs2]) pos)) fun σ H R h => GA.mono h fun vs H1 ⟨ds, ρ1, S1, hv, c1, p1⟩ => by
    unfold zipD at p1
    split at p1
    · rename_i d d2
      split at p1
      · rename_i es fs hd hd2
        obtain ⟨y, t, rfl, hy, y2, t2, rfl, hy2, ht⟩ := hv
        have e2 : t2 = [] := ht
        subst e2
        obtain ⟨a, xs, rfl, hq, rv⟩ := lst_of c1 hy hd
        obtain ⟨b, ys, rfl, hq2, rv2⟩ := lst_of c1 hy2 hd2
        exact ⟨a, b, xs, ys, rfl, hp ▸ hq, hp ▸ hq2, p1 ρ1 H1 (.refl ..) c1 _ (src_zip X.K hp hy hy2)⟩
      · exact p1.elim
    · exact p1.elim
end

/-! list comprehensions -/
def wipeE (env : Env) : List Nat → Env
  | [] => env
  | v :: vs => (wipeE env vs).set v none
theorem EnvR.unset {p : Pm} {ρ : List Addr} {H : Hp} {env : Env} {σ : L2.St} (h : EnvR p ρ H env σ) (i : Nat) (o : Option V) : EnvR p ρ H (env.set i none) (σ.set i o) := by
  refine ⟨by rw [List.length_set, List.length_set]; exact h.1, fun j e hj => ?_⟩
  by_cases hij : i = j
  · subst hij
    by_cases hl : i < env.length
    · rw [List.getElem?_set_self hl] at hj; cases hj
    · rw [List.getElem?_eq_none (by rw [List.length_set]; omega)] at hj; cases hj
  · rw [List.getElem?_set_ne hij] at hj
    obtain ⟨w, a, b⟩ := h.2 j e hj
    exact ⟨w, by rw [List.getElem?_set_ne hij]; exact a, b⟩
theorem EnvR.wipe {p : Pm} {ρ : List Addr} {H : Hp} {env : Env} {σ : L2.St} (h : EnvR p ρ H env σ) : ∀ vs : List Nat, EnvR p ρ H (wipeE env vs) (L2.wipe σ vs)
  | [] => h
  | v :: vs => (EnvR.wipe h vs).unset v none
theorem wipe_none (σ : L2.St) (v : Nat) : ∀ vs : List Nat, wipe (σ.set v none) vs = (wipe σ vs).set v none
  | [] => rfl
  | a :: vs => by
    show (wipe (σ.set v none) vs).set a none = ((wipe σ vs).set a none).set v none
    rw [wipe_none σ v vs]
    by_cases h : a = v
    · subst h; rw [List.set_set]
    · rw [List.set_comm _ _ (Ne.symm h)]
theorem wipe_wipe (σ : L2.St) : ∀ vs : List Nat, wipe (wipe σ vs) vs = wipe σ vs := by
  have aux : ∀ us vs : List Nat, (∀ x ∈ us, x ∈ vs) → wipe (wipe σ us) vs = wipe σ vs := by
    intro us
    induction us with
    | nil => intro vs _; rfl
    | cons a r ih =>
      intro vs h
      show wipe ((wipe σ r).set a none) vs = wipe σ vs
      rw [wipe_set _ a none vs (h a (List.mem_cons_self ..))]
      exact ih vs fun x hx => h x (List.mem_cons_of_mem _ hx)
  exact fun vs => aux vs vs fun _ h => h
def nox {α : Type} : Rs α → Rs α
  | .ok a S => .ok a S
  | _ => .bad
abbrev W0 : WX := fun _ _ _ _ => False
theorem Post.noxturn {p : Pm} {ρ : List Addr} {H : Hp} {α β γ : Type} {φ : γ → Store → List Addr → Hp → Prop} {φ' : α → Store → List Addr → Hp → Prop} {ψ ψ' : Value → Option Addr → List Addr → Hp → Prop} {r : Rs α} {f : α → Store → Rs β} {g : β → Store → Rs γ} (h : Post p ρ H φ ψ ((nox (r.bind f)).bind g))
    (k : ∀ a S' ρ' H', Ext p ρ H ρ' H' → Conc p ρ' S' H' → Post p ρ' H' φ ψ ((nox (f a S')).bind g) → φ' a S' ρ' H') : Post p ρ H φ' ψ' r := by
  cases r with
  | ok a S => exact fun ρ' H' x c => k a S ρ' H' x c (Post.ext (r := (nox (f a S)).bind g) h x)
  | exc c fl S => exact h.elim
  | bad => exact h.elim
def putC (n0 : Nat) (y : D) (S : Store) : Rs Unit := match S[n0]? with
  | some (.lst ds) => if ds.length < sz then .ok () (S.set n0 (.lst (ds ++ [y]))) else .bad
  | _ => .bad
def turnC (n0 : Nat) (tests : DT) (elt : DE) (env : Env) (S : Store) : Rs Unit := (tests env S).bind fun b S1 => if b = true then (elt env S1).bind fun y S2 => putC n0 y S2 else .ok () S1
def compL (vs : List Nat) (src : Src) (tgt : DG) (tests : DT) (elt : DE) (n0 : Nat) : Nat → Nat → Env → Store → Rs Unit
  | 0, i, _, S => match itemAt src i S with
    | some none => .ok () S
    | _ => .bad
  | fuel + 1, i, env, S => match itemAt src i S with
    | none => .bad
    | some none => .ok () S
    | some (some x) => match tgt x (wipeE env vs) S with
      | none => .bad
      | some env1 => (nox (turnC n0 tests elt env1 S)).bind fun _ S3 => compL vs src tgt tests elt n0 fuel (i + 1) env S3
def compE (vs : List Nat) (rs : DI) (tgt : DG) (tests : DT) (elt : DE) : DE := fun env S => (rs env S).bind fun src S1 => (compL vs src tgt tests elt S1.length (srcLen src S1) 0 env (S1 ++ [.lst []])).bind fun _ S2 => .ok (.loc S1.length) S2
section
variable {X : Cx} {p : Pm} {W : WX} {elt tg iter : Expr} {ifs : List Expr} {scope : Scope} {vs : List Nat} {pos : Pos} {rs : DI} {tgt : DG} {tests : DT} {re : DE}
theorem compL_eq (src : Src) (n0 fuel i : Nat) (env : Env) (S : Store) : compL vs src tgt tests re n0 fuel i env S = match itemAt src i S with
    | none => .bad
    | some none => .ok () S
    | some (some x) => match fuel with
      | 0 => .bad
      | fuel + 1 => match tgt x (wipeE env vs) S with
        | none => .bad
        | some env1 => (nox (turnC n0 tests re env1 S)).bind fun _ S3 => compL vs src tgt tests re n0 fuel (i + 1) env S3 := by
  cases fuel with
  | zero =>
    show (match itemAt src i S with
      | some none => Rs.ok () S
      | _ => .bad) = _
    cases itemAt src i S with
    | none => rfl
    | some o => cases o <;> rfl
  | succ n => rfl
theorem lc_reads {σ : L2.St} {H : Hp} {Q : VK} (h : GE p W (compE vs rs tgt tests re) σ H Q) : tLc (GI p W rs) (GG p (wipeR vs) tgt) (GT p W0 tests) (GE p W0 re) vs σ H Q := by
  obtain ⟨ρ, S, env, he, hc, hq⟩ := h
  refine ⟨ρ, S, env, he, hc, hq.turn fun src S1 ρ1 H1 x1 c1 p1 J hJ D hD => ?_⟩
  obtain ⟨c2, x2⟩ := c1.push (o := .lst []) (c := .lst []) hD ⟨[], upd_same, rfl⟩
  have at0 : (ρ1 ++ [D])[S1.length]? = some D := by rw [← c1.len]; simp
  have p2 := Post.ext p1 x2
  refine ⟨fun i m H => ∃ ρ S, EnvR p ρ H env σ ∧ Conc p ρ S H ∧ ρ[S1.length]? = some D ∧ SrcOk p J src ρ H ∧ Post p ρ H (fun d _ ρ' H' => ∀ v, VR p ρ' H' d v → Q v H') (fun cls dd _ H' => W cls dd σ H') ((compL vs src tgt tests re S1.length m i env S).bind fun _ S2 => .ok (.loc S1.length) S2),
    ⟨srcLen src S1, ρ1 ++ [D], S1 ++ [.lst []], (he.mono x1).mono x2, c2, at0, hJ.mono x2, p2⟩, ?_⟩
  rintro i m H3 ⟨ρ3, S3, he3, c3, at3, hJ3, p3⟩
  rw [compL_eq] at p3
  cases q : itemAt src i S3 with
  | none => rw [q] at p3; exact p3.elim
  | some o =>
    rw [q] at p3
    cases o with
    | none => exact .inl ⟨hJ3.stop i ρ3 S3 H3 (.refl ..) c3 q, p3 ρ3 H3 (.refl ..) c3 _ ⟨D, rfl, at3⟩⟩
    | some x =>
      refine .inr ⟨hJ3.go i ρ3 S3 H3 x (.refl ..) c3 q, fun H' => ∃ m', m' < m ∧ ∃ ρ S, EnvR p ρ H' env σ ∧ Conc p ρ S H' ∧ ρ[S1.length]? = some D ∧ SrcOk p J src ρ H' ∧ Post p ρ H' (fun d _ ρ' H' => ∀ v, VR p ρ' H' d v → Q v H') (fun cls dd _ H' => W cls dd σ H') ((compL vs src tgt tests re S1.length m' (i + 1) env S).bind fun _ S2 => .ok (.loc S1.length) S2), fun H' hn => hn, ?_⟩
      intro v H4 hy
      obtain ⟨x4, c4, v4⟩ := hJ3.yld i ρ3 S3 H3 x v H4 (.refl ..) c3 q hy
      have p4 := Post.ext p3 x4
      cases m with
      | zero => exact p4.elim
      | succ m =>
        dsimp only at p4
        cases q5 : tgt x (wipeE env vs) S3 with
        | none => rw [q5] at p4; exact p4.elim
        | some env1 =>
          rw [q5] at p4
          dsimp only at p4
          refine ⟨ρ3, S3, wipeE env vs, x, env1, (he3.mono x4).wipe vs, c4, v4, q5, fun σ2 he5 hw => ⟨?_, ?_⟩⟩
          · have hw' : wipe σ2 vs = wipe (wipe σ vs) vs := hw
            rw [hw', wipe_wipe]
          · have p5 : Post p ρ3 H4 (fun d _ ρ' H' => ∀ v, VR p ρ' H' d v → Q v H') (fun cls dd _ H' => W cls dd σ H') ((nox (turnC S1.length tests re env1 S3)).bind fun _ S3 => (compL vs src tgt tests re S1.length m (i + 1) env S3).bind fun _ S2 => .ok (.loc S1.length) S2) := by
              cases z : nox (turnC S1.length tests re env1 S3) with
              | ok a b => rw [z] at p4; exact p4
              | exc a b c => rw [z] at p4; exact p4
              | bad => rw [z] at p4; exact p4
            refine ⟨ρ3, S3, env1, he5, c4, Post.noxturn p5 fun b S6 ρ6 H6 x6 c6 p6 => ?_⟩
            cases b with
            | false =>
              refine ⟨m, Nat.lt_succ_self m, ρ6, S6, (he3.mono x4).mono x6, c6, x6.get (x4.get at3), (hJ3.mono x4).mono x6, ?_⟩
              exact p6
            | true =>
              refine ⟨ρ6, S6, env1, he5.mono x6, c6, Post.noxturn p6 fun y S7 ρ7 H7 x7 c7 p7 w hw => ?_⟩
              have at7 := x7.get (x6.get (x4.get at3))
              unfold putC at p7
              split at p7
              · rename_i ds hS
                obtain ⟨acc, hacc, rv⟩ := c7.cell S1.length D _ at7 hS
                split at p7
                · rename_i hz
                  refine ⟨acc, hacc, by rw [← rv.length, sz_eq]; exact hz, m, Nat.lt_succ_self m, ρ7, S7.set S1.length (.lst (ds ++ [y])), ?_⟩
                  obtain ⟨c8, x8⟩ := c7.put (o := .lst (acc ++ [w])) (c' := .lst (ds ++ [y])) at7 hS ⟨acc ++ [w], upd_same, (VRs.mono (ext_mut (List.mem_of_getElem? at7) hacc True.intro) _ _ rv).append (.one (VR.mono (ext_mut (List.mem_of_getElem? at7) hacc True.intro) _ _ hw))⟩
                  exact ⟨(((he3.mono x4).mono x6).mono x7).mono x8, c8, at7, (((hJ3.mono x4).mono x6).mono x7).mono x8, Post.ext p7 x8⟩
                · exact p7.elim
              · exact p7.elim
theorem ge_comp {own : List (Str × Nat)} (hc : X.calm = true) (hN : X.N.Nodup) (hi : PI X tg iter (GI p W rs)) (ok : BlkOk X.N X.env.scope scope own) (hv : own.map (·.2) = vs)
    (hg : ∀ (s : Shared) (H : Hp) (C : Addr) (cl : List (Str × Addr)) (fp : List Addr), PG (X.blk s H scope (compEnvC scope cl C X.env) fp) tg (GG p (wipeR vs) tgt))
    (ht : ∀ (s : Shared) (H : Hp) (C : Addr) (cl : List (Str × Addr)) (fp : List Addr), PTs (X.blk s H scope (compEnvC scope cl C X.env) fp) ifs (GT p W0 tests))
    (he : ∀ (s : Shared) (H : Hp) (C : Addr) (cl : List (Str × Addr)) (fp : List Addr), PE (X.blk s H scope (compEnvC scope cl C X.env) fp) elt (GE p W0 re)) (hs : plainX iter = true) :
    PE X (.ListComp elt [⟨tg, iter, ifs, 0⟩] scope pos) (GE p W (compE vs rs tgt tests re)) := by
  subst hv
  exact ⟨fun pins s σ H Q I h => (pe_lc hc hN hi ok hg ht he (fun _ => folded_plain hs _)).run pins s σ H Q I (lc_reads h)⟩
/-- no test, one test -/
def yesT : DT := fun _ S => .ok true S
theorem gts_nil : PTs X [] (GT p W yesT) := ⟨fun pins s σ H Q I ⟨ρ, S, env, he, hc, hq⟩ => pts_nil.run pins s σ H Q I (hq ρ H (.refl ..) hc)⟩
theorem gts_one {c : Expr} {t : DT} (h : PT X c (GT p W t)) : PTs X [c] (GT p W t) := pts_one h
end
end Mn

namespace Mn
open PySem PySem.Spec PyProof.Rows L2

/-! statements -/
inductive RS where
  | nx (env : Env) (S : Store) | rt (d : D) (S : Store) | bk (env : Env) (S : Store) | ct (env : Env) (S : Store)
  | exc (c : Str) (fl : List (Str × D)) (env : Env) (S : Store)
  | bad
def Rs.toS {α : Type} (r : Rs α) (env : Env) (f : α → Store → RS) : RS := match r with
  | .ok a S => f a S
  | .exc c fl S => .exc c fl env S
  | .bad => .bad
abbrev DS := Env → Store → RS
def PostS (p : Pm) (ρ : List Addr) (H : Hp) (W : WX) (E : Ends) : RS → Prop
  | .nx env S => ∀ ρ' H' σ', Ext p ρ H ρ' H' → Conc p ρ' S H' → EnvR p ρ' H' env σ' → E.nx σ' H'
  | .bk env S => ∀ ρ' H' σ', Ext p ρ H ρ' H' → Conc p ρ' S H' → EnvR p ρ' H' env σ' → E.bk σ' H'
  | .ct env S => ∀ ρ' H' σ', Ext p ρ H ρ' H' → Conc p ρ' S H' → EnvR p ρ' H' env σ' → E.ct σ' H'
  | .rt d S => ∀ ρ' H' v, Ext p ρ H ρ' H' → Conc p ρ' S H' → VR p ρ' H' d v → E.rt v H'
  | .exc c fl env S => ∀ ρ' H' σ' cls dd, Ext p ρ H ρ' H' → Conc p ρ' S H' → EnvR p ρ' H' env σ' → ExcR p ρ' H' c fl cls dd → W cls dd σ' H'
  | .bad => False
theorem PostS.ext {p : Pm} {ρ ρ1 : List Addr} {H H1 : Hp} {W : WX} {E : Ends} {r : RS} (h : PostS p ρ H W E r) (e : Ext p ρ H ρ1 H1) : PostS p ρ1 H1 W E r := by
  cases r with
  | nx env S => exact fun ρ' H' σ' x c q => h ρ' H' σ' (e.trans x) c q
  | bk env S => exact fun ρ' H' σ' x c q => h ρ' H' σ' (e.trans x) c q
  | ct env S => exact fun ρ' H' σ' x c q => h ρ' H' σ' (e.trans x) c q
  | rt d S => exact fun ρ' H' v x c q => h ρ' H' v (e.trans x) c q
  | exc c fl env S => exact fun ρ' H' σ' cls dd x c q r => h ρ' H' σ' cls dd (e.trans x) c q r
  | bad => exact h
theorem PostS.turn {p : Pm} {ρ : List Addr} {H : Hp} {W : WX} {E : Ends} {α : Type} {r : Rs α} {env : Env} {σ : L2.St} {f : α → Store → RS} {φ' : α → Store → List Addr → Hp → Prop} (he : EnvR p ρ H env σ) (h : PostS p ρ H W E (r.toS env f))
    (k : ∀ a S' ρ' H', Ext p ρ H ρ' H' → Conc p ρ' S' H' → PostS p ρ' H' W E (f a S') → φ' a S' ρ' H') : Post p ρ H φ' (fun cls dd _ H' => W cls dd σ H') r := by
  cases r with
  | ok a S => exact fun ρ' H' x c => k a S ρ' H' x c (PostS.ext (r := f a S) h x)
  | exc c fl S => exact fun ρ' H' cls dd x cc q => h ρ' H' σ cls dd x cc (he.mono x) q
  | bad => exact h
def GS (p : Pm) (W : WX) (r : DS) : TS := fun E σ H => ∃ ρ S env, EnvR p ρ H env σ ∧ Conc p ρ S H ∧ PostS p ρ H W E (r env S)
def nxS : DS := fun env S => .nx env S
def seqS (a b : DS) : DS := fun env S => match a env S with
  | .nx env' S' => b env' S'
  | r => r
section
variable {X : Cx} {p : Pm} {W : WX} {e : Expr} {es : List Expr} {st : Stmt} {sts : List Stmt} {pos pos' : Pos} {ra : DE}
theorem gss_nil : PSs X [] (GS p W nxS) := ⟨fun pins s σ H E I ⟨ρ, S, env, he, hc, hq⟩ => pss_nil.run pins s σ H E I (hq ρ H σ (.refl ..) hc he)⟩
theorem gs_pass : PS X (.Pass pos) (GS p W nxS) := ⟨fun pins s σ H E I ⟨ρ, S, env, he, hc, hq⟩ => ps_pass.run pins s σ H E I (hq ρ H σ (.refl ..) hc he)⟩
theorem gs_doc {x : Str} {j : Nat} : PS X (.Expr (.Constant (.str x) j pos) pos') (GS p W nxS) := ⟨fun pins s σ H E I ⟨ρ, S, env, he, hc, hq⟩ => ps_doc.run pins s σ H E I (hq ρ H σ (.refl ..) hc he)⟩
theorem gs_break : PS X (.Break pos) (GS p W fun env S => .bk env S) := ⟨fun pins s σ H E I ⟨ρ, S, env, he, hc, hq⟩ => ps_break.run pins s σ H E I (hq ρ H σ (.refl ..) hc he)⟩
theorem gs_cont : PS X (.Continue pos) (GS p W fun env S => .ct env S) := ⟨fun pins s σ H E I ⟨ρ, S, env, he, hc, hq⟩ => ps_continue.run pins s σ H E I (hq ρ H σ (.refl ..) hc he)⟩
theorem gss_cons {a b : DS} (h1 : PS X st (GS p W a)) (h2 : PSs X sts (GS p W b)) : PSs X (st :: sts) (GS p W (seqS a b)) := by
  refine ⟨fun pins s σ H E I ⟨ρ, S, env, he, hc, hq⟩ => (pss_cons h1 h2).run pins s σ H E I ⟨ρ, S, env, he, hc, ?_⟩⟩
  unfold seqS at hq
  cases q : a env S with
  | nx env' S' =>
    rw [q] at hq
    exact fun ρ' H' σ' x c he' => ⟨ρ', S', env', he', c, hq.ext x⟩
  | rt d S' => rw [q] at hq; exact hq
  | bk env' S' => rw [q] at hq; exact hq
  | ct env' S' => rw [q] at hq; exact hq
  | exc c fl env' S' => rw [q] at hq; exact hq
  | bad => rw [q] at hq; exact hq
def exprS (ra : DE) : DS := fun env S => (ra env S).toS env fun _ S1 => .nx env S1
theorem gs_expr (ha : PE X e (GE p W ra)) (hs : noComp e = true) : PS X (.Expr e pos) (GS p W (exprS ra)) := by
  refine ⟨fun pins s σ H E I ⟨ρ, S, env, he, hc, hq⟩ => (ps_expr ha (swaps_plain hs _ _)).run pins s σ H E I ⟨ρ, S, env, he, hc, PostS.turn he hq fun d S1 ρ1 H1 x1 c1 p1 v hv => ?_⟩⟩
  exact p1 ρ1 H1 σ (.refl ..) c1 (he.mono x1)
def retS (ra : DE) : DS := fun env S => (ra env S).toS env fun d S1 => .rt d S1
theorem gs_ret (ha : PE X e (GE p W ra)) : PS X (.Return (some e) pos) (GS p W (retS ra)) := by
  refine ⟨fun pins s σ H E I ⟨ρ, S, env, he, hc, hq⟩ => (ps_ret ha).run pins s σ H E I ⟨ρ, S, env, he, hc, PostS.turn he hq fun d S1 ρ1 H1 x1 c1 p1 v hv => ?_⟩⟩
  exact p1 ρ1 H1 v (.refl ..) c1 hv
def retNS : DS := fun _ S => .rt .non S
theorem gs_retN : PS X (.Return none pos) (GS p W retNS) := ⟨fun pins s σ H E I ⟨ρ, S, env, he, hc, hq⟩ => ps_retN.run pins s σ H E I (hq ρ H .non (.refl ..) hc rfl)⟩
/-- target = value -/
def asgS (t : DG) (ra : DE) : DS := fun env S => (ra env S).toS env fun d S1 => match t d env S1 with
  | some env' => .nx env' S1
  | none => .bad
theorem asg_fin {t : DG} {env : Env} {σ : L2.St} {H : Hp} {ρ : List Addr} {S : Store} {d : D} {v : V} {E : Ends} (he : EnvR p ρ H env σ) (hc : Conc p ρ S H) (hv : VR p ρ H d v) (h : PostS p ρ H W E (match t d env S with
  | some env' => .nx env' S
  | none => .bad)) : GG p anyR t v σ H E.nx := by
  split at h
  · rename_i env' q
    exact ⟨ρ, S, env, d, env', he, hc, hv, q, fun σ' he' _ => h ρ H σ' (.refl ..) hc he'⟩
  · exact h.elim
def isTupE : Expr → Bool
  | .Tuple _ _ _ => true
  | .List _ _ => true
  | _ => false
theorem swapped_none {tg : Expr} (h : isTupE tg = false ∨ isTupE e = false) : swappedStores [tg] e X.env = pure none := by
  rcases h with h | h
  · cases tg <;> first | rfl | cases h
  · cases e <;> first | (cases tg <;> rfl) | cases h
theorem gs_asg {tg : Expr} {t : DG} (ha : PE X e (GE p W ra)) (hg : PG X tg (GG p anyR t)) (hs : noComp e = true) (hp : plainX tg = true) (hw : isTupE tg = false ∨ isTupE e = false) : PS X (.Assign [tg] e pos) (GS p W (asgS t ra)) := by
  refine ⟨fun pins s σ H E I ⟨ρ, S, env, he, hc, hq⟩ => (ps_asg ha hg (swaps_plain hs _ _) (swapped_none hw) (by rw [assign_plain hp]; rfl)).run pins s σ H E I ⟨ρ, S, env, he, hc, PostS.turn he hq fun d S1 ρ1 H1 x1 c1 p1 v hv => ?_⟩⟩
  exact asg_fin (he.mono x1) c1 hv p1
/-- name = [..] -/
theorem gs_setLc {elt tg iter : Expr} {ifs : List Expr} {scope : Scope} {vs : List Nat} {py spos : Pos} {rs : DI} {tgt : DG} {tests : DT} {re : DE} {i : Nat} {y : Str} {own : List (Str × Nat)} (hc : X.calm = true) (hN : X.N.Nodup) (hy : X.N[i]? = some y) (hyl : X.env.scope.names.lookup y = some .local)
    (hsw : swapsWith (.ListComp elt [⟨tg, iter, ifs, 0⟩] scope pos) (some (.Name y py)) spos.line X.env = pure true) (hi : PI X tg iter (GI p W rs)) (ok : BlkOk X.N X.env.scope scope own) (hv : own.map (·.2) = vs)
    (hg : ∀ (s : Shared) (H : Hp) (C : Addr) (cl : List (Str × Addr)) (fp : List Addr), PG (X.blk s H scope (compEnvC scope cl C X.env) fp) tg (GG p (wipeR vs) tgt))
    (ht : ∀ (s : Shared) (H : Hp) (C : Addr) (cl : List (Str × Addr)) (fp : List Addr), PTs (X.blk s H scope (compEnvC scope cl C X.env) fp) ifs (GT p W0 tests))
    (he : ∀ (s : Shared) (H : Hp) (C : Addr) (cl : List (Str × Addr)) (fp : List Addr), PE (X.blk s H scope (compEnvC scope cl C X.env) fp) elt (GE p W0 re)) (hs : plainX iter = true) :
    PS X (.Assign [.Name y py] (.ListComp elt [⟨tg, iter, ifs, 0⟩] scope pos) spos) (GS p W (asgS (nameG i) (compE vs rs tgt tests re))) := by
  subst hv
  refine ⟨fun pins s σ H E I ⟨ρ, S, env, hen, hcc, hq⟩ => (ps_setLc hc hN hy hyl hsw hi ok hg ht he (fun _ => folded_plain hs _)).run pins s σ H E I (lc_reads ⟨ρ, S, env, hen, hcc, PostS.turn hen hq fun d S1 ρ1 H1 x1 c1 p1 v hv => ?_⟩)⟩
  exact p1 ρ1 H1 _ (.refl ..) c1 ((hen.mono x1).set hv)
/-- name op= value -/
def augS (i : Nat) (g : D → D → Store → Option (D × Store)) (ra : DE) : DS := fun env S => match env[i]? with
  | some (some x) => (ra env S).toS env fun y S1 => match g x y S1 with
    | some (z, S2) => .nx (env.set i (some z)) S2
    | none => .bad
  | _ => .bad
theorem gs_aug {i : Nat} {x : Str} {op : Operator} {g : D → D → Store → Option (D × Store)} (ho : OpD X p (inplaceOp op) g) (hN : X.N.Nodup) (hi : X.N[i]? = some x) (hx : Loc X.env.scope x) (hf : X.fn x = true ∨ X.env.scope.names.lookup x = some .local) (ha : PE X e (GE p W ra)) :
    PS X (.AugAssign (.Name x pos') op e pos) (GS p W (augS i g ra)) := by
  -- the rule of the layer, its operator's reading by data
  have hop : PIp X op (fun a b H Q => ∃ ρ S d f d' S', Conc p ρ S H ∧ VR p ρ H d a ∧ VR p ρ H f b ∧ g d f S = some (d', S') ∧ OkTo p ρ H Q d' S') := fun pins s σ H a b v u Q I ra rb ⟨ρ, S, d, f, d', S', c, h1, h2, h3, h4⟩ => ho pins s σ H a b v u Q ρ S d f d' S' I c h1 h2 ra rb h3 h4
  refine ⟨fun pins s σ H E I ⟨ρ, S, env, he, hc, hq⟩ => (ps_aug hN hi hx ha hop hf).run pins s σ H E I ?_⟩
  unfold augS at hq
  split at hq
  · rename_i d q
    obtain ⟨v, h1, h2⟩ := he.2 i d q
    refine ⟨v, h1, ρ, S, env, he, hc, PostS.turn he hq fun y S1 ρ1 H1 x1 c1 p1 w hw => ?_⟩
    split at p1
    · rename_i z S2 q2
      exact ⟨ρ1, S1, d, y, z, S2, c1, VR.mono x1 _ _ h2, hw, q2, fun ρ' H' x2 c2 v2 hv2 => p1 ρ' H' _ x2 c2 (((he.mono x1).mono x2).set hv2)⟩
    · exact p1.elim
  · exact hq.elim
/-- o[i] = value -/
def putG (kvs : List (Key × D)) (k : Key) (v : D) : List (Key × D) :=
  if (kvs.any fun kv => decide (kv.1 = k)) = true then kvs.map (fun kv => if kv.1 = k then (kv.1, v) else kv) else kvs ++ [(k, v)]
theorem putG_ok {ρ : List Addr} {H : Hp} {kvs : List (Key × D)} {ws : List (Key × V)} {k : Key} {d : D} {v : V} (h : KRs p ρ H kvs ws) (hv : VR p ρ H d v) : KRs p ρ H (putG kvs k d) (putK ws k v) := by
  have e1 : ∀ {kvs : List (Key × D)} {ws : List (Key × V)}, KRs p ρ H kvs ws → (kvs.any fun kv => decide (kv.1 = k)) = (ws.any fun kv => decide (kv.1 = k)) := by
    intro kvs
    induction kvs with
    | nil => intro ws h; rw [show ws = [] from h]; rfl
    | cons a r ih =>
      intro ws h
      obtain ⟨k', d'⟩ := a
      obtain ⟨x, t, e, h1, h2⟩ := h
      subst e
      rw [List.any_cons, List.any_cons, ih h2]
  have e2 : ∀ {kvs : List (Key × D)} {ws : List (Key × V)}, KRs p ρ H kvs ws → KRs p ρ H (kvs.map (fun kv => if kv.1 = k then (kv.1, d) else kv)) (ws.map (fun kv => if kv.1 = k then (kv.1, v) else kv)) := by
    intro kvs
    induction kvs with
    | nil => intro ws h; rw [show ws = [] from h]; rfl
    | cons a r ih =>
      intro ws h
      obtain ⟨k', d'⟩ := a
      obtain ⟨x, t, e, h1, h2⟩ := h
      subst e
      by_cases hk : k' = k
      · rw [List.map_cons, List.map_cons]
        dsimp only
        rw [if_pos hk, if_pos hk]
        exact ⟨v, _, rfl, hv, ih h2⟩
      · rw [List.map_cons, List.map_cons]
        dsimp only
        rw [if_neg hk, if_neg hk]
        exact ⟨x, _, rfl, h1, ih h2⟩
  have e3 : ∀ {kvs : List (Key × D)} {ws : List (Key × V)}, KRs p ρ H kvs ws → KRs p ρ H (kvs ++ [(k, d)]) (ws ++ [(k, v)]) := by
    intro kvs
    induction kvs with
    | nil => intro ws h; rw [show ws = [] from h]; exact ⟨v, [], rfl, hv, rfl⟩
    | cons a r ih =>
      intro ws h
      obtain ⟨k', d'⟩ := a
      obtain ⟨x, t, e, h1, h2⟩ := h
      subst e
      exact ⟨x, _, rfl, h1, ih h2⟩
  unfold putG putK
  rw [e1 h]
  split
  · exact e2 h
  · exact e3 h
def setD (d i e : D) (S : Store) : Option Store := match d with
  | .loc n => match S[n]? with
    | some (.lst ds) => match i with
      | .int k => (ixN ds.length k).map fun j => S.set n (.lst (ds.set j e))
      | _ => none
    | some (.dct kvs) => match keyOf i with
      | some k => if kvs.length < sz then some (S.set n (.dct (putG kvs k e))) else none
      | none => none
    | _ => none
  | _ => none
theorem set_run (hu : X.A.units + 1 < cLine) {pins : List (Addr × Obj)} {s : Shared} {σ : L2.St} {H : Hp} {x y z : V} {ov iv u : Value} {ρ : List Addr} {S S' : Store} {d i f : D} {Q : Unit → Shared → Prop} (I : Inv X pins σ H s) (hc : Conc p ρ S H) (hx : VR p ρ H d x) (hy : VR p ρ H i y) (hz : VR p ρ H f z)
    (rx : RelV x ov) (ry : RelV y iv) (rz : RelV z u) (h : setD d i f S = some S') (k : ∀ H' s', Ext p ρ H ρ H' → Conc p ρ S' H' → Inv X pins σ H' s' → Q () s') : wpAny (model X.prog X.w) X.A (setItem ov iv u) Q X.xe s := by
  unfold setD at h
  split at h
  · rename_i n
    obtain ⟨a, rfl, ha⟩ := hx
    split at h
    · rename_i ds hS
      obtain ⟨xs, hH, rv⟩ := hc.cell n a _ ha hS
      split at h
      · rename_i j
        cases hy
        cases q : ixN ds.length j with
        | none => rw [q] at h; cases h
        | some m =>
          rw [q] at h
          cases h
          have x1 := ext_mut (p := p) (ρ := ρ) (o := .lst (xs.set m z)) (List.mem_of_getElem? ha) hH True.intro
          obtain ⟨c1, _⟩ := hc.put (o := .lst (xs.set m z)) (c' := .lst (ds.set m f)) ha hS ⟨_, upd_same, (VRs.mono x1 _ _ rv).set (VR.mono x1 _ _ hz) m⟩
          exact thn (set_list pins s σ H (.ref a) (.int j) z ov iv u (fun H' => H' = upd H a (.lst (xs.set m z))) I rx ry rz ⟨a, xs, j, m, rfl, rfl, hH, by rw [← rv.length]; exact q, rfl⟩) fun _ s' ⟨H', I', e⟩ => by
            subst e
            exact k _ s' x1 c1 I'
      · cases h
    · rename_i kvs hS
      obtain ⟨ws, hH, rk⟩ := hc.cell n a _ ha hS
      split at h
      · rename_i kk hk
        have ey := keyOf_ok hy hk
        subst ey
        split at h
        · rename_i hl
          cases h
          have x1 := ext_mut (p := p) (ρ := ρ) (o := .dK (putK ws kk z)) (List.mem_of_getElem? ha) hH True.intro
          obtain ⟨c1, _⟩ := hc.put (o := .dK (putK ws kk z)) (c' := .dct (putG kvs kk f)) ha hS ⟨_, upd_same, KRs.mono x1 _ _ (putG_ok rk hz)⟩
          obtain rfl : ov = Value.ref a := rx
          exact d_setItem hu I (DPut.k (k := kk) (v := z) hH (by rw [← KRs.length rk, sz_eq]; exact hl)) ry rz fun s' I' => k _ s' x1 c1 I'
        · cases h
      · cases h
    · cases h
  · cases h
def subS (ro ri ra : DE) : DS := fun env S => (ra env S).toS env fun v S1 => (ro env S1).toS env fun o S2 => (ri env S2).toS env fun i S3 => match setD o i v S3 with
  | some S4 => .nx env S4
  | none => .bad
theorem pes_run {a : Expr} {r : DE} {f : D → Store → RS} {P : Value → Shared → Prop} {pins : List (Addr × Obj)} {σ : L2.St} {H : Hp} {s : Shared} {ρ : List Addr} {S : Store} {env : Env} {E : Ends} (ha : PE X a (GE p W r)) (I : Inv X pins σ H s) (he : EnvR p ρ H env σ) (hc : Conc p ρ S H)
    (hp : PostS p ρ H W E ((r env S).toS env f))
    (k : ∀ d S' ρ' H' v u s', Ext p ρ H ρ' H' → Conc p ρ' S' H' → VR p ρ' H' d v → RelV v u → Inv X pins σ H' s' → PostS p ρ' H' W E (f d S') → P u s') :
    wpAny (model X.prog X.w) X.A (eval a X.env) P X.xe s :=
  thn (ha.run pins s σ H (fun v H' => ∃ d S' ρ', Ext p ρ H ρ' H' ∧ Conc p ρ' S' H' ∧ VR p ρ' H' d v ∧ PostS p ρ' H' W E (f d S')) I ⟨ρ, S, env, he, hc, PostS.turn he hp fun d S' ρ' H' x c q v hv => ⟨d, S', ρ', x, c, hv, q⟩⟩) fun u s' ⟨v, H', I', r, d, S', ρ', x, c, hv, q⟩ => k d S' ρ' H' v u s' x c hv r I' q
theorem gs_sub {o i : Expr} {ro ri : DE} (hu : X.A.units + 1 < cLine) (ho : PE X o (GE p W ro)) (hi : PE X i (GE p W ri)) (hv : PE X e (GE p W ra)) (hs : noComp e = true) : PS X (.Assign [.Subscript o i pos'] e pos) (GS p W (subS ro ri ra)) := by
  refine ⟨fun pins s σ H E I ⟨ρ, S, env, he, hc, hq⟩ => wpAny_Assign_Subscript ?_ (swaps_plain hs _ _)⟩
  refine pes_run hv I he hc hq fun d S1 ρ1 H1 v u s1 x1 c1 q1 r1 I1 p1 => ?_
  refine pes_run ho I1 (he.mono x1) c1 p1 fun d2 S2 ρ2 H2 v2 u2 s2 x2 c2 q2 r2 I2 p2 => ?_
  refine pes_run hi I2 ((he.mono x1).mono x2) c2 p2 fun d3 S3 ρ3 H3 v3 u3 s3 x3 c3 q3 r3 I3 p3 => ?_
  split at p3
  · rename_i S4 q4
    exact set_run hu I3 c3 (VR.mono x3 _ _ q2) q3 (VR.mono x3 _ _ (VR.mono x2 _ _ q1)) r2 r3 r1 q4 fun H4 s4 x4 c4 I4 => ⟨σ, H4, I4, p3 ρ3 H4 σ x4 c4 ((((he.mono x1).mono x2).mono x3).mono x4)⟩
  · exact p3.elim
/-- if -/
def ifS (t : DT) (a b : DS) : DS := fun env S => (t env S).toS env fun k S1 => if k = true then a env S1 else b env S1
theorem gs_if {a b : List Stmt} {t : DT} {ra rb : DS} (hc : PT X e (GT p W t)) (ha : PSs X a (GS p W ra)) (hb : PSs X b (GS p W rb)) : PS X (.If e a b pos) (GS p W (ifS t ra rb)) := by
  refine ⟨fun pins s σ H E I ⟨ρ, S, env, he, hcc, hq⟩ => (ps_if hc ha hb).run pins s σ H E I ⟨ρ, S, env, he, hcc, PostS.turn he hq fun k S1 ρ1 H1 x1 c1 p1 => ?_⟩⟩
  cases k with
  | true => exact ⟨ρ1, S1, env, he.mono x1, c1, p1⟩
  | false => exact ⟨ρ1, S1, env, he.mono x1, c1, p1⟩
/-- while: n turns at most -/
def whileL (t : DT) (b : DS) : Nat → Env → Store → RS
  | 0, _, _ => .bad
  | n + 1, env, S => (t env S).toS env fun k S1 => if k = true then (match b env S1 with
      | .nx env' S' => whileL t b n env' S'
      | .ct env' S' => whileL t b n env' S'
      | .bk env' S' => .nx env' S'
      | r => r) else .nx env S1
theorem gs_while {body : List Stmt} {t : DT} {b : DS} (n : Nat) (hp : PassesOwn (model X.prog X.w) X.A X.env X.xe) (hc : PT X e (GT p W t)) (hb : PSs X body (GS p W b)) : PS X (.While e body [] pos) (GS p W (whileL t b n)) := by
  refine ⟨fun pins s σ H E I ⟨ρ, S, env, he, hcc, hq⟩ => (ps_while hp hc hb).run pins s σ H E I ?_⟩
  refine ⟨fun m σ H => ∃ ρ S env, EnvR p ρ H env σ ∧ Conc p ρ S H ∧ PostS p ρ H W E (whileL t b m env S), ⟨n, ρ, S, env, he, hcc, hq⟩, ?_⟩
  rintro m σ2 H2 ⟨ρ2, S2, env2, he2, c2, q2⟩
  cases m with
  | zero => exact q2.elim
  | succ m =>
    refine ⟨ρ2, S2, env2, he2, c2, PostS.turn he2 q2 fun k S3 ρ3 H3 x3 c3 p3 => ?_⟩
    cases k with
    | false =>
      rw [if_neg Bool.false_ne_true]
      exact p3 ρ3 H3 σ2 (.refl ..) c3 (he2.mono x3)
    | true =>
      rw [if_pos rfl]
      rw [if_pos rfl] at p3
      refine ⟨fun σ' H' => ∃ m', m' < m + 1 ∧ ∃ ρ S env, EnvR p ρ H' env σ' ∧ Conc p ρ S H' ∧ PostS p ρ H' W E (whileL t b m' env S), fun σ' H' h => h, ρ3, S3, env2, he2.mono x3, c3, ?_⟩
      cases q : b env2 S3 with
      | nx env' S' => rw [q] at p3; exact fun ρ' H' σ' x c he' => ⟨m, Nat.lt_succ_self m, ρ', S', env', he', c, PostS.ext p3 x⟩
      | ct env' S' => rw [q] at p3; exact fun ρ' H' σ' x c he' => ⟨m, Nat.lt_succ_self m, ρ', S', env', he', c, PostS.ext p3 x⟩
      | bk env' S' => rw [q] at p3; exact p3
      | rt d S' => rw [q] at p3; exact p3
      | exc c fl env' S' => rw [q] at p3; exact p3
      | bad => rw [q] at p3; exact p3
/-- for -/
def forL (src : Src) (tgt : DG) (b : DS) : Nat → Nat → Env → Store → RS
  | 0, i, env, S => match itemAt src i S with
    | some none => .nx env S
    | _ => .bad
  | fuel + 1, i, env, S => match itemAt src i S with
    | none => .bad
    | some none => .nx env S
    | some (some x) => match tgt x env S with
      | none => .bad
      | some env1 => match b env1 S with
        | .nx env' S' => forL src tgt b fuel (i + 1) env' S'
        | .ct env' S' => forL src tgt b fuel (i + 1) env' S'
        | .bk env' S' => .nx env' S'
        | r => r
def forS (rs : DI) (tgt : DG) (b : DS) : DS := fun env S => (rs env S).toS env fun src S1 => forL src tgt b (srcLen src S1) 0 env S1
theorem gs_for {tg iter : Expr} {body : List Stmt} {rs : DI} {tgt : DG} {b : DS} (hp : PassesOwn (model X.prog X.w) X.A X.env X.xe) (hc : X.calm = true) (hi : PI X tg iter (GI p W rs)) (hg : PG X tg (GG p anyR tgt)) (hb : PSs X body (GS p W b)) (hs : plainX iter = true) :
    PS X (.For tg iter body [] pos) (GS p W (forS rs tgt b)) := by
  refine ⟨fun pins s σ H E I ⟨ρ, S, env, he, hcc, hq⟩ => (ps_for hp hc hi hg hb (fun _ => folded_plain hs _)).run pins s σ H E I ⟨ρ, S, env, he, hcc, PostS.turn he hq fun src S1 ρ1 H1 x1 c1 p1 J hJ => ?_⟩⟩
  refine ⟨fun i m σ H => ∃ ρ S env, EnvR p ρ H env σ ∧ Conc p ρ S H ∧ SrcOk p J src ρ H ∧ PostS p ρ H W E (forL src tgt b m i env S), ⟨srcLen src S1, ρ1, S1, env, he.mono x1, c1, hJ, p1⟩, ?_⟩
  rintro i m σ2 H2 ⟨ρ2, S2, env2, he2, c2, hJ2, q2⟩
  have stop : itemAt src i S2 = some none → PostS p ρ2 H2 W E (.nx env2 S2) → J.stop i H2 ∧ E.nx σ2 H2 := fun q z => ⟨hJ2.stop i ρ2 S2 H2 (.refl ..) c2 q, z ρ2 H2 σ2 (.refl ..) c2 he2⟩
  cases m with
  | zero =>
    have q3 : PostS p ρ2 H2 W E (match itemAt src i S2 with
      | some none => .nx env2 S2
      | _ => .bad) := q2
    cases q : itemAt src i S2 with
    | none => rw [q] at q3; exact q3.elim
    | some o =>
      rw [q] at q3
      cases o with
      | none => exact .inl (stop q q3)
      | some x => exact q3.elim
  | succ m =>
    have q3 : PostS p ρ2 H2 W E (match itemAt src i S2 with
      | none => .bad
      | some none => .nx env2 S2
      | some (some x) => match tgt x env2 S2 with
        | none => .bad
        | some env1 => match b env1 S2 with
          | .nx env' S' => forL src tgt b m (i + 1) env' S'
          | .ct env' S' => forL src tgt b m (i + 1) env' S'
          | .bk env' S' => .nx env' S'
          | r => r) := q2
    cases q : itemAt src i S2 with
    | none => rw [q] at q3; exact q3.elim
    | some o =>
      rw [q] at q3
      cases o with
      | none => exact .inl (stop q q3)
      | some x =>
        dsimp only at q3
        refine .inr ⟨hJ2.go i ρ2 S2 H2 x (.refl ..) c2 q, fun σ' H' => ∃ m', m' < m + 1 ∧ ∃ ρ S env, EnvR p ρ H' env σ' ∧ Conc p ρ S H' ∧ SrcOk p J src ρ H' ∧ PostS p ρ H' W E (forL src tgt b m' (i + 1) env S), fun σ' H' h => h, ?_⟩
        intro v H4 hy
        obtain ⟨x4, c4, v4⟩ := hJ2.yld i ρ2 S2 H2 x v H4 (.refl ..) c2 q hy
        cases q5 : tgt x env2 S2 with
        | none => rw [q5] at q3; exact q3.elim
        | some env1 =>
          rw [q5] at q3
          dsimp only at q3
          have q6 := PostS.ext q3 x4
          refine ⟨ρ2, S2, env2, x, env1, he2.mono x4, c4, v4, q5, fun σ5 he5 _ => ⟨ρ2, S2, env1, he5, c4, ?_⟩⟩
          cases q7 : b env1 S2 with
          | nx env' S' => rw [q7] at q6; exact fun ρ' H' σ' x c he' => ⟨m, Nat.lt_succ_self m, ρ', S', env', he', c, (hJ2.mono x4).mono x, PostS.ext q6 x⟩
          | ct env' S' => rw [q7] at q6; exact fun ρ' H' σ' x c he' => ⟨m, Nat.lt_succ_self m, ρ', S', env', he', c, (hJ2.mono x4).mono x, PostS.ext q6 x⟩
          | bk env' S' => rw [q7] at q6; exact q6
          | rt d S' => rw [q7] at q6; exact q6
          | exc c fl env' S' => rw [q7] at q6; exact q6
          | bad => rw [q7] at q6; exact q6
end
end Mn

namespace Mn
open PySem PySem.Spec PyProof.Rows L2

/-! a, b, *rest = a tuple, a list -/
section
variable {prog : Program} {w : World} {A : Around} {E : Value → Shared → Prop} {s : Shared}
/-- what stands behind the draws: the rest is collected, a list made of it -/
theorem star_fin {I : Addr} {items : Array Value} {i : Nat} {first : List Value} {Q : List Value → Shared → Prop} {h1 : Heap} (hz : items.size ≤ sizeLine) (hf : first.length = i)
    (hcol : ∀ Q' : List Value → Shared → Prop, (∀ (h' : Heap) (tk : Nat), (∀ b o, b ≠ I → h1.get? b = some o → h'.get? b = some o) → Q' (items.toList.drop i) { s with heap := h', toks := tk }) → wpAny (model prog w) A (collect (.ref I)) Q' E { s with heap := h1 })
    (hQ : ∀ (h' : Heap) (tk : Nat), (∀ b o, b ≠ I → h1.get? b = some o → h'.get? b = some o) → Q (first ++ [.ref h'.objs.size]) { s with heap := h'.push { cls := .type "list", data := .seq (items.toList.drop i).toArray }, toks := tk }) :
    wpAny (model prog w) A (do
      if first.length < i then
        rule "unpack.star.too-few-before"
        raiseError "ValueError" s!"not enough values to unpack (expected at least {i + 1 - 1}, got {first.length})"
      let rest ← holding first (collect (.ref I))
      let after := i + 1 - 1 - i
      if rest.length < after then
        rule "unpack.star.too-few"
        raiseError "ValueError" s!"not enough values to unpack (expected at least {i + 1 - 1}, got {i + rest.length})"
      let mid := rest.length - after
      return first ++ [← newList (rest.take mid)] ++ rest.drop mid) Q E { s with heap := h1 } := by
  have e0 : i + 1 - 1 - i = 0 := by omega
  rw [if_neg (by rw [hf]; exact Nat.lt_irrefl _)]
  refine wpAny_bind (wpAny_holding (hcol _ fun h2 tk kp => ?_))
  rw [e0]
  show wpAny _ _ (if (items.toList.drop i).length < 0 then _ else _) _ _ _
  rw [if_neg (Nat.not_lt_zero _)]
  show wpAny _ _ (newList ((items.toList.drop i).take ((items.toList.drop i).length - 0)) >>= fun d => pure (first ++ [d] ++ (items.toList.drop i).drop ((items.toList.drop i).length - 0))) _ _ _
  rw [Nat.sub_zero, List.take_length, List.drop_length]
  refine wpAny_bind ?_
  unfold newList
  refine wpAny_newObj_type (wpAny_pure ?_) ?_
  · rw [List.append_nil]
    exact hQ h2 tk kp
  · show (items.toList.drop i).toArray.size ≤ sizeLine
    simp only [List.size_toArray, List.length_drop, Array.length_toList]
    omega
theorem star_tup {l : Addr} {items : Array Value} {i : Nat} {Q : List Value → Shared → Prop} (hl : IsTup s.heap l items) (hh : A.handled = none) (hi : i ≤ items.size) (hz : items.size ≤ sizeLine)
    (hQ : ∀ (h' : Heap) (tk : Nat), (∀ b o, s.heap.get? b = some o → h'.get? b = some o) → Q (items.toList.take i ++ [.ref h'.objs.size]) { s with heap := h'.push { cls := .type "list", data := .seq (items.toList.drop i).toArray }, toks := tk }) :
    wpAny (model prog w) A (unpackItems (.ref l) (i + 1) (some i)) Q E s := by
  have hne : l ≠ s.heap.objs.size := by
    obtain ⟨o, ho, _⟩ := hl
    exact Nat.ne_of_lt (Heap.lt_size ho)
  unfold unpackItems notIterableAtAll
  refine wpAny_bind (wpAny_bind (wpAny_specialOf hl.typeIs slot_tuple_iter.lookup (wpAny_pure ?_)))
  simp only [Bool.false_eq_true, if_false]
  refine wpAny_bind (wpAny_holding (iter_tuple hl (wpAny_bind (wpAny_holding (draw_tuple hne i 0 _ _ ⟨_, Heap.get?_push_size _ rfl, rfl, rfl⟩ (hl.push _) (by omega) fun h1 it1 sb => ?_)))))
  rw [Nat.zero_add] at it1
  have t1 : IsTup h1 l items := (hl.push _).extBut sb.extBut hne
  have b1 : s.heap.objs.size < h1.objs.size := by
    obtain ⟨o, ho, _⟩ := id it1
    exact Heap.lt_size ho
  have b2 : l < h1.objs.size := by
    obtain ⟨o, ho, _⟩ := id t1
    exact Heap.lt_size ho
  rw [List.drop_zero]
  refine star_fin (s := s) hz (by rw [List.length_take, Array.length_toList]; omega) (fun Q' q => W.kun_collect (s := { s with heap := h1 }) (T := "tuple_iterator") (.inr (.inr (.inr rfl))) (Walks.tuple (A := A.in1) hh s.heap.objs.size l hne items) (fun j u st => st.1.typeIs) (k := i) hi ⟨it1, t1⟩ b1 b2 (fun h2 tk kp => q h2 tk kp) hz) fun h2 tk kp => hQ h2 tk fun b o e => ?_
  have nb : b ≠ s.heap.objs.size := Nat.ne_of_lt (Heap.lt_size e)
  exact kp b o nb ((sb.2 b nb).trans (Heap.get?_push_of_some _ e))
theorem star_lst {l : Addr} {items : Array Value} {i : Nat} {Q : List Value → Shared → Prop} (hl : s.heap.IsList l items) (hh : A.handled = none) (hi : i ≤ items.size) (hz : items.size ≤ sizeLine)
    (hQ : ∀ (h' : Heap) (tk : Nat), (∀ b o, s.heap.get? b = some o → h'.get? b = some o) → Q (items.toList.take i ++ [.ref h'.objs.size]) { s with heap := h'.push { cls := .type "list", data := .seq (items.toList.drop i).toArray }, toks := tk }) :
    wpAny (model prog w) A (unpackItems (.ref l) (i + 1) (some i)) Q E s := by
  have hne : l ≠ s.heap.objs.size := by
    obtain ⟨o, ho, _⟩ := hl
    exact Nat.ne_of_lt (Heap.lt_size ho)
  unfold unpackItems notIterableAtAll
  refine wpAny_bind (wpAny_bind (wpAny_specialOf hl.typeIs slot_list_iter.lookup (wpAny_pure ?_)))
  simp only [Bool.false_eq_true, if_false]
  refine wpAny_bind (wpAny_holding (wpAny_pyIter_list hl (wpAny_bind (wpAny_holding (W.kun_draw hne i 0 _ _ ⟨_, Heap.get?_push_size _ rfl, rfl, rfl⟩ (hl.push _) (by omega) fun h1 it1 sb => ?_)))))
  rw [Nat.zero_add] at it1
  have t1 : h1.IsList l items := (hl.push _).extBut sb.extBut hne
  have b1 : s.heap.objs.size < h1.objs.size := by
    obtain ⟨o, ho, _⟩ := id it1
    exact Heap.lt_size ho
  have b2 : l < h1.objs.size := by
    obtain ⟨o, ho, _⟩ := id t1
    exact Heap.lt_size ho
  rw [List.drop_zero]
  refine star_fin (s := s) hz (by rw [List.length_take, Array.length_toList]; omega) (fun Q' q => W.kun_collect (s := { s with heap := h1 }) (T := "list_iterator") (.inr (.inr (.inl rfl))) (Walks.list (A := A.in1) hh s.heap.objs.size l hne items) (fun j u st => st.1.typeIs) (k := i) hi ⟨it1, t1⟩ b1 b2 (fun h2 tk kp => q h2 tk kp) hz) fun h2 tk kp => hQ h2 tk fun b o e => ?_
  have nb : b ≠ s.heap.objs.size := Nat.ne_of_lt (Heap.lt_size e)
  exact kp b o nb ((sb.2 b nb).trans (Heap.get?_push_of_some _ e))
end
/-- name, .., *name: the starred one last -/
def starG (t : DGs) (n : Nat) : D → Env → Store → Option (Env × Store) := fun d env S => match itemsOf S d with
  | some ds => if n ≤ ds.length then (t (ds.take n ++ [.loc S.length]) env (S ++ [.lst (ds.drop n)])).map fun env' => (env', S ++ [.lst (ds.drop n)]) else none
  | none => none
def GX (p : Pm) (t : D → Env → Store → Option (Env × Store)) : TG := fun v σ H Q => ∃ ρ S env d env' S', EnvR p ρ H env σ ∧ Conc p ρ S H ∧ VR p ρ H d v ∧ t d env S = some (env', S') ∧ ∀ ρ' H' σ', Ext p ρ H ρ' H' → Conc p ρ' S' H' → EnvR p ρ' H' env' σ' → Q σ' H'
def asgXS (t : D → Env → Store → Option (Env × Store)) (ra : DE) : DS := fun env S => (ra env S).toS env fun d S1 => match t d env S1 with
  | some (env', S2) => .nx env' S2
  | none => .bad
section
variable {X : Cx} {p : Pm} {W : WX} {e x : Expr} {es : List Expr} {pos pos' sp : Pos} {ra : DE}
theorem assign_app (hx : plainX x = true) : (assignEach (es ++ [.Starred x sp]) X.env).map (·.2) = (assignEach (es ++ [x]) X.env).map (·.2) := by
  induction es with
  | nil => cases x <;> first | rfl | cases hx
  | cons a r ih => cases a <;> exact congrArg (List.cons _) ih
theorem assign_star (h : es.all plainX = true) : (assignEach (es ++ [.Starred x sp]) X.env).findIdx? (·.1) = some es.length := by
  induction es with
  | nil => rfl
  | cons a r ih =>
    rw [List.all_cons, Bool.and_eq_true] at h
    have := ih h.2
    cases a <;> first | (cases h.1; done) | (show List.findIdx? _ ((false, _) :: assignEach (r ++ [.Starred x sp]) X.env) = _; rw [List.findIdx?_cons]; simp [this])
theorem gx_star {k : Nat} {t : DGs} (hp : p.K = X.K) (hc : X.calm = true) (hg : PGs X (es ++ [x]) (GGs p anyR t)) (hpl : es.all plainX = true) (hx : plainX x = true) : PG X (.Tuple (es ++ [.Starred x sp]) k pos') (GX p (starG t es.length)) := by
  refine ⟨fun pins s σ H v u Q I r ⟨ρ, S, env, d, env', S', he, hcc, hd, ht, kk⟩ => ?_⟩
  unfold starG at ht
  split at ht
  · rename_i ds hds
    split at ht
    · rename_i hl
      obtain ⟨a, xs, rfl, hq, rv⟩ := items_of hcc hd hds
      obtain rfl : u = Value.ref a := r
      cases q : t (ds.take es.length ++ [.loc S.length]) env (S ++ [.lst (ds.drop es.length)]) with
      | none => rw [q] at ht; cases ht
      | some env1 =>
        rw [q] at ht
        cases ht
        have fin : ∀ (its : List Value), Vals xs its → xs.length ≤ sizeLine → ∀ (h' : Heap) (tk : Nat), (∀ b o, s.heap.get? b = some o → h'.get? b = some o) →
            wpAny (model X.prog X.w) X.A (assignInOrder ((assignEach (es ++ [.Starred x sp]) X.env).map (·.2)) (its.toArray.toList.take es.length ++ [.ref h'.objs.size])) (fun _ s' => ∃ σ' H', Inv X pins σ' H' s' ∧ Q σ' H') X.xe { s with heap := h'.push { cls := .type "list", data := .seq (its.toArray.toList.drop es.length).toArray }, toks := tk } := fun its rv2 hz h' tk kp => by
          have I1 : Inv X pins σ H { s with heap := h', toks := tk } := I.kept kp
          have hn : H h'.objs.size = none := I1.hok.fresh (Nat.le_refl _)
          have I2 : Inv X pins σ (upd H h'.objs.size (.lst (xs.drop es.length))) { s with heap := h'.push { cls := .type "list", data := .seq (its.toArray.toList.drop es.length).toArray }, toks := tk } :=
            I1.laid (t' := tk) (fun b o e => Heap.get?_push_of_some _ e) (Nat.le_refl _) ⟨by rw [List.length_drop]; omega, its.drop es.length, 0, rv2.drop _, by simpa using Heap.get?_push_size _ rfl⟩
          obtain ⟨c2, x2⟩ := hcc.push (o := .lst (xs.drop es.length)) (c := .lst (ds.drop es.length)) hn ⟨_, upd_same, VRs.mono (ext_grow hn) _ _ (rv.drop _)⟩
          rw [assign_app hx]
          have rr : Vals (xs.take es.length ++ [V.ref h'.objs.size]) (its.toArray.toList.take es.length ++ [Value.ref h'.objs.size]) := (rv2.take es.length).append (Paired.cons (show RelV (V.ref h'.objs.size) (Value.ref h'.objs.size) from rfl) .nil)
          have rl : VR p (ρ ++ [h'.objs.size]) (upd H h'.objs.size (.lst (xs.drop es.length))) (.loc S.length) (V.ref h'.objs.size) := ⟨_, rfl, by rw [← hcc.len]; simp⟩
          refine hg.run pins _ σ _ (xs.take es.length ++ [V.ref h'.objs.size]) _ _ I2 rr ⟨_, _, env, _, env', he.mono x2, c2, (VRs.mono x2 _ _ (rv.take es.length)).append (.one rl), q, fun σ' he' _ => kk _ _ σ' x2 c2 he'⟩
        rw [PyProof.Rows.assign_Tuple]
        refine wpAny_bind (wpAny_standAt ?_)
        unfold unpack
        rw [assign_star hpl, show (assignEach (es ++ [.Starred x sp]) X.env).length = es.length + 1 by rw [assign_len, List.length_append]; rfl]
        rcases hq with hq | hq
        · obtain ⟨its, rv2, pl, hz⟩ := I.list (hp ▸ hq)
          have hsz : its.toArray.size = xs.length := by rw [List.size_toArray, rv2.length]
          exact wpAny_bind (wpAny_holding (star_lst pl.isList (I.ok.hd hc) (by rw [hsz, ← rv.length]; exact hl) (by rw [hsz]; exact hz) (fin its rv2 hz)))
        · obtain ⟨its, rv2, pl, hz⟩ := I.tuple (hp ▸ hq)
          have hsz : its.toArray.size = xs.length := by rw [List.size_toArray, rv2.length]
          exact wpAny_bind (wpAny_holding (star_tup pl (I.ok.hd hc) (by rw [hsz, ← rv.length]; exact hl) (by rw [hsz]; exact hz) (fin its rv2 hz)))
    · cases ht
  · cases ht
theorem gs_asgX {tg : Expr} {t : D → Env → Store → Option (Env × Store)} (ha : PE X e (GE p W ra)) (hg : PG X tg (GX p t)) (hs : noComp e = true) (hp : plainX tg = true) (hw : isTupE e = false) : PS X (.Assign [tg] e pos) (GS p W (asgXS t ra)) := by
  refine ⟨fun pins s σ H E I ⟨ρ, S, env, he, hc, hq⟩ => (ps_asg ha hg (swaps_plain hs _ _) (swapped_none (.inr hw)) (by rw [assign_plain hp]; rfl)).run pins s σ H E I ⟨ρ, S, env, he, hc, PostS.turn he hq fun d S1 ρ1 H1 x1 c1 p1 v hv => ?_⟩⟩
  split at p1
  · rename_i env' S2 q
    exact ⟨ρ1, S1, env, d, env', S2, he.mono x1, c1, hv, q, fun ρ' H' σ' x2 c2 he2 => p1 ρ' H' σ' x2 c2 he2⟩
  · exact p1.elim
end

/-! methods of built-in types -/
def MtD (X : Cx) (p : Pm) (id T : String) (g : D → List D → Store → Option (D × Store)) : Prop :=
  ∀ (pins : List (Addr × Obj)) (s : Shared) (σ : L2.St) (H : Hp) (x : V) (xs : List V) (v : Value) (us : List Value) (Q : VK) (ρ : List Addr) (S : Store) (d : D) (ds : List D) (d' : D) (S' : Store), Inv X pins σ H s → Conc p ρ S H → VR p ρ H d x → VRs p ρ H ds xs → RelV x v → Vals xs us → g d ds S = some (d', S') → OkTo p ρ H Q d' S' →
    wpAny (model X.prog X.w) X.A (call (.builtin id) (v :: us)) (EP X pins σ Q) X.xe s
/-- the receiver is of the type -/
def tyB (T : String) (d : D) (S : Store) : Bool := match d with
  | .str _ => T == "str"
  | .ros _ => T == "list"
  | .loc n => match S[n]? with
    | some (.lst _) => T == "list"
    | some (.dct _) => T == "dict"
    | _ => false
  | _ => false
theorem tyB_ok {p : Pm} {ρ : List Addr} {S : Store} {H : Hp} {d : D} {v : V} {T : String} (hc : Conc p ρ S H) (h : VR p ρ H d v) (e : tyB T d S = true) : tyV p.K T v H := by
  cases d with
  | str x => cases h; exact beq_iff_eq.mp e
  | ros ds => obtain ⟨a, xs, rfl, hs, _⟩ := h; exact .inl ⟨beq_iff_eq.mp e, xs, hs.sq⟩
  | loc n =>
    obtain ⟨a, rfl, ha⟩ := h
    have e' : (match S[n]? with
      | some (.lst _) => T == "list"
      | some (.dct _) => T == "dict"
      | _ => false) = true := e
    split at e'
    · rename_i hS
      obtain ⟨xs, hx, _⟩ := hc.cell n a _ ha hS
      exact .inl ⟨beq_iff_eq.mp e', xs, SqL.of hx⟩
    · rename_i hS
      obtain ⟨xs, hx, _⟩ := hc.cell n a _ ha hS
      exact .inr (.inr (.inl ⟨beq_iff_eq.mp e', .inl ⟨xs, hx⟩⟩))
    · cases e'
  | _ => cases e
def noSuper : Expr → Bool
  | .Call (.Name _ _) [] [] _ => false
  | _ => true
theorem base_plain {e : Expr} {name : Str} {env : PySem.Env} (h : noSuper e = true) (wh : Sem Value) : attributeBase e name env wh = wh := by
  unfold attributeBase
  split
  · cases h
  · rfl
def mthE (T : String) (g : D → List D → Store → Option (D × Store)) (ro : DE) (r : DA) : DE := fun env S => (ro env S).bind fun d S1 => if tyB T d S1 = true then (r env S1).bind fun ds S2 => lf (g d ds S2) else .bad
section
variable {X : Cx} {p : Pm} {W : WX} {o e : Expr} {es : List Expr} {apos cpos : Pos} {ro : DE} {r : DA} {T id : String} {name : Str} {g : D → List D → Store → Option (D × Store)}
theorem few_plain (h : es.all plainX = true) (pos : Pos) : (backTo pos (starEach es X.env)).all (fun x => !x.1) = true := by
  induction es with
  | nil => rfl
  | cons a t ih =>
    rw [List.all_cons, Bool.and_eq_true] at h
    rw [star_plain h.1]
    exact ih h.2
theorem ge_mth (hp : p.K = X.K) (pa : PlainAttrs T) (slot : Slot T name id) (hty : typeOf (.builtin id) = pure (.type "method_descriptor")) (hm : MtD X p id T g) (ho : PE X o (GE p W ro)) (ha : PA X (e :: es) (GA p W r))
    (hsup : noSuper o = true) (hpl : (e :: es).all plainX = true) (hlen : (e :: es).length < 30) (hline : (apos.endLine == cpos.line) = true) : PE X (.Call (.Attribute o name apos) (e :: es) [] cpos) (GE p W (mthE T g ro r)) := by
  have hpl2 := hpl
  rw [List.all_cons, Bool.and_eq_true] at hpl2
  refine ⟨fun pins s σ H Q I ⟨ρ, S, env, he, hc, hq⟩ => ?_⟩
  refine wpAny_Call_method_late (base_plain hsup _) (by rw [few_plain hpl]; show (true && true && decide ((e :: es).length + 0 + 0 < 30)) = true; simpa using hlen) hline rfl (pe_run ho I he hc hq fun d S1 ρ1 H1 v u s1 x1 c1 q1 r1 I1 p1 => ?_)
  by_cases ty : tyB T d S1 = true
  · rw [if_pos ty] at p1
    obtain ⟨h1, h2⟩ := tyV_is I1 r1 (hp ▸ tyB_ok c1 q1 ty)
    refine ⟨T, id, pa, slot, hty, h1, h2, ?_⟩
    have hA : wpAny (model X.prog X.w) X.A (spliced (backTo cpos (starEach (e :: es) X.env))) (fun us s' => wpAny (model X.prog X.w) X.A (call (.builtin id) (u :: us) []) (EP X pins σ Q) X.xe s') X.xe s1 := pa_run ha I1 (he.mono x1) c1 p1 fun ds S2 ρ2 H2 vs us s2 x2 c2 q2 r2 I2 p2 => by
      obtain ⟨d', S', e1, k⟩ := post_lf p2
      exact hm pins s2 σ H2 v vs u us Q ρ2 S2 d ds d' S' I2 c2 (VR.mono x2 _ _ q1) q2 r1 r2 e1 k
    rw [star_plain hpl2.1] at hA ⊢
    refine Calls.callWith_builtin (by show (false || (backTo cpos (starEach es X.env)).any (·.1)) = false; rw [star_any hpl2.2] <;> rfl) (Calls.evalArgs_plain ?_)
    exact hA
  · rw [if_neg ty] at p1
    exact p1.elim
theorem ge_mth0 (hp : p.K = X.K) (pa : PlainAttrs T) (slot : Slot T name id) (hty : typeOf (.builtin id) = pure (.type "method_descriptor")) (hm : MtD X p id T g) (ho : PE X o (GE p W ro)) (hsup : noSuper o = true) (hline : (apos.endLine == cpos.line) = true) :
    PE X (.Call (.Attribute o name apos) [] [] cpos) (GE p W (mthE T g ro nilA)) := by
  refine ⟨fun pins s σ H Q I ⟨ρ, S, env, he, hc, hq⟩ => ?_⟩
  refine wpAny_Call_method0_late (base_plain hsup _) hline (pe_run ho I he hc hq fun d S1 ρ1 H1 v u s1 x1 c1 q1 r1 I1 p1 => ?_)
  by_cases ty : tyB T d S1 = true
  · rw [if_pos ty] at p1
    obtain ⟨h1, h2⟩ := tyV_is I1 r1 (hp ▸ tyB_ok c1 q1 ty)
    obtain ⟨d', S', e1, k⟩ := post_lf (show Post p ρ1 H1 _ _ (lf (g d [] S1)) from p1)
    exact ⟨T, id, pa, slot, hty, h1, h2, Calls.callWith_builtin rfl (PySem.evalArgs_none (hm pins s1 σ H1 v [] u [] Q ρ1 S1 d [] d' S' I1 c1 q1 rfl r1 .nil e1 k))⟩
  · rw [if_neg ty] at p1
    exact p1.elim
/-- xs.append(x) -/
def appendD (d : D) (ds : List D) (S : Store) : Option (D × Store) := match d, ds with
  | .loc n, [x] => match S[n]? with
    | some (.lst xs) => if xs.length < sz then some (.non, S.set n (.lst (xs ++ [x]))) else none
    | _ => none
  | _, _ => none
theorem md_append : MtD X p "list.append" "list" appendD := by
  intro pins s σ H x xs v us Q ρ S d ds d' S' I hc hx hxs rx rxs hg k
  unfold appendD at hg
  split at hg
  · rename_i n y
    obtain ⟨a, rfl, ha⟩ := hx
    split at hg
    · rename_i ys hS
      split at hg
      · rename_i hz
        cases hg
        obtain ⟨z, t, rfl, hz1, ht⟩ := hxs
        have e2 : t = [] := ht
        subst e2
        obtain ⟨zs, hH, rv⟩ := hc.cell n a _ ha hS
        have x1 := ext_mut (p := p) (ρ := ρ) (o := .lst (zs ++ [z])) (List.mem_of_getElem? ha) hH True.intro
        obtain ⟨c1, _⟩ := hc.put (o := .lst (zs ++ [z])) (c' := .lst (ys ++ [y])) ha hS ⟨_, upd_same, (VRs.mono x1 _ _ rv).append (.one (VR.mono x1 _ _ hz1))⟩
        exact mt_append pins s σ H (.ref a) [z] v us Q I rx rxs ⟨a, zs, z, rfl, rfl, hH, by rw [← rv.length, sz_eq]; exact hz, k _ _ x1 c1 _ rfl⟩
      · cases hg
    · cases hg
  · cases hg
end
end Mn

namespace Mn
open PySem PySem.Spec PyProof.Rows L2

/-! functions -/
/-- as the hand layer's promise, with no repr under way at the call -/
structure FnG (P : Program) (w : World) (K : PySem.W.Frag) (mg : Str → Option Value) (base : Heap) (CX : CXT) (k : Nat) (f : Addr) (fd : FuncData) (ps : List Str) (sp : Sp) : Prop where
  len : ∀ vs H Q E, sp vs H Q E → vs.length = ps.length
  run : ∀ (A : Around) (out : List PySem.Env) (s : Shared) (H : Hp) (args : Args) (us : List Value) (vs : List V) (Q : VK) (E : XK), Room k A → A.guards = some [] → Env0 P w K mg base A out s H →
    BindsTo s fd args (ps.zip us) → Vals vs us → sp vs H Q E → codeAny (model P w) A (.call (.ref f) args) (CR CX out P w H s Q E) s
theorem FnG.mono {P : Program} {w : World} {K : PySem.W.Frag} {mg : Str → Option Value} {base : Heap} {CX : CXT} {j k : Nat} {f : Addr} {fd : FuncData} {ps : List Str} {sp : Sp} (F : FnG P w K mg base CX j f fd ps sp) (h : j ≤ k) : FnG P w K mg base CX k f fd ps sp :=
  ⟨F.len, fun A out s H args us vs Q E hr => F.run A out s H args us vs Q E (hr.mono h)⟩
/-- what an own function promises -/
def spG (p : Pm) (np : Nat) (g : List D → Store → Rs D) : Sp := fun vs H Q E => ∃ ρ S ds, ds.length = np ∧ VRs p ρ H ds vs ∧ Conc p ρ S H ∧ Post p ρ H (fun d _ ρ' H' => ∀ v, VR p ρ' H' d v → Q v H') (fun cls dd _ H' => E cls dd H') (g ds S)
def fnRun : RS → Rs D
  | .nx _ S => .ok .non S
  | .rt d S => .ok d S
  | .exc c fl _ S => .exc c fl S
  | _ => .bad
def startG (n : Nat) (ds : List D) : Env := ds.map some ++ List.replicate (n - ds.length) none
theorem vrs_get {p : Pm} {ρ : List Addr} {H : Hp} : ∀ {ds : List D} {vs : List V} {i : Nat} {d : D}, VRs p ρ H ds vs → ds[i]? = some d → ∃ v, vs[i]? = some v ∧ VR p ρ H d v
  | [], vs, i, d, h, e => by cases e
  | x :: ds, vs, i, d, h, e => by
    obtain ⟨z, t, rfl, hz, ht⟩ := h
    cases i with
    | zero => cases e; exact ⟨z, rfl, hz⟩
    | succ i => exact vrs_get (ds := ds) (vs := t) (i := i) ht e
theorem envR_start {p : Pm} {ρ : List Addr} {H : Hp} {ds : List D} {vs : List V} (N : List Str) (h : VRs p ρ H ds vs) : EnvR p ρ H (startG N.length ds) (L2.start N vs) := by
  have hl := h.length
  refine ⟨by unfold startG L2.start; simp [hl], fun i d e => ?_⟩
  unfold startG at e
  by_cases hi : i < ds.length
  · rw [List.getElem?_append_left (by simpa using hi), List.getElem?_map] at e
    cases q : ds[i]? with
    | none => rw [q] at e; cases e
    | some x =>
      rw [q] at e
      cases e
      obtain ⟨v, hv, r⟩ := vrs_get h q
      refine ⟨v, ?_, r⟩
      unfold L2.start
      rw [List.getElem?_append_left (by rw [List.length_map, ← hl]; exact hi), List.getElem?_map, hv]
      rfl
  · rw [List.getElem?_append_right (by simpa using hi), List.getElem?_replicate] at e
    split at e <;> cases e
section
variable {P : Program} {w : World} {K : PySem.W.Frag} {mg : Str → Option Value} {base : Heap} {f : Addr} {fd : FuncData} {N ps : List Str} {name qual : Str} {params : Arguments} {body : List Stmt} {scope : Scope} {dvs : List V} {kws : List (Str × V)} {k : Nat} {p : Pm}
/-- the context of an own function's body -/
abbrev cxG (P : Program) (w : World) (K : PySem.W.Frag) (mg : Str → Option Value) (base : Heap) (N : List Str) (qual : Str) (scope : Scope) (f : Addr) (cdv : Value) (A : Around) (out : List PySem.Env) (s : Shared) (H : Hp) (E : XK) : Cx :=
  cxOf (L2.CX P w) P w K mg base N qual scope f cdv A out s H E
theorem takesG {cdv : Value} {A : Around} {out : List PySem.Env} {s : Shared} {H : Hp} {E : XK} : Takes (cxG P w K mg base N qual scope f cdv A out s H E) (fun cls d _ H' => E cls d H') :=
  takes_of (X := cxG P w K mg base N qual scope f cdv A out s H E) (E₁ := fun e' s'' => L2.CX P w out H s E e' s'') rfl rfl rfl rfl
theorem ownsG {cdv : Value} {A : Around} {out : List PySem.Env} {s : Shared} {H : Hp} {E : XK} : PassesOwn (model P w) (cxG P w K mg base N qual scope f cdv A out s H E).A (cxG P w K mg base N qual scope f cdv A out s H E).env (cxG P w K mg base N qual scope f cdv A out s H E).xe :=
  passes_of (X := cxG P w K mg base N qual scope f cdv A out s H E) (K := fun e s'' => L2.CX P w out H s E e s'') (E₁ := fun e' s'' => L2.CX P w out H s E e' s'') rfl
/-- what a function wants of its body's ends, as the body's reading has it -/
abbrev bodyE (Q : VK) : Ends := { nx := fun _ H' => Q .non H', rt := Q }
theorem body_post {ρ : List Addr} {H : Hp} {Q : VK} {E : XK} {r : RS} (h : Post p ρ H (fun d _ ρ' H' => ∀ v, VR p ρ' H' d v → Q v H') (fun cls dd _ H' => E cls dd H') (fnRun r)) : PostS p ρ H (fun cls d _ H' => E cls d H') (bodyE Q) r := by
  cases r with
  | nx e S => intro ρ1 H1 σ1 x c _; exact h ρ1 H1 x c .non rfl
  | rt d S => intro ρ1 H1 v x c hv; exact h ρ1 H1 x c v hv
  | exc n fl e S => intro ρ1 H1 σ1 cls dd x c _ q; exact h ρ1 H1 cls dd x c q
  | bk e S => exact h.elim
  | ct e S => exact h.elim
  | bad => exact h.elim
/-- an end of the body is an end of the call -/
theorem body_end {cdv : Value} {A : Around} {out : List PySem.Env} {s t : Shared} {H : Hp} {E : XK} {Q : VK} {fl : Flow} (h : SP (cxG P w K mg base N qual scope f cdv A out s H E) [] (bodyE Q) fl t) :
    ∃ u, (fl = .ret u ∨ (fl = .next ∧ u = .none)) ∧ CE out P w H s Q u t := by
  cases fl with
  | ret u => obtain ⟨v, σ1, H1, J, rv, q⟩ := h; exact ⟨u, .inl rfl, v, H1, J.os, J.bare, J.base, J.hok, rv, q⟩
  | next => obtain ⟨σ1, H1, J, q⟩ := h; exact ⟨.none, .inr ⟨rfl, rfl⟩, .non, H1, J.os, J.bare, J.base, J.hok, rfl, q⟩
  | brk => obtain ⟨_, _, _, q⟩ := h; exact q.elim
  | cont => obtain ⟨_, _, _, q⟩ := h; exact q.elim
theorem spG_len {np : Nat} {g : List D → Store → Rs D} (vs : List V) (H : Hp) (Q : VK) (E : XK) : spG p np g vs H Q E → vs.length = np := fun ⟨_, _, _, hl, hv, _⟩ => hv.length ▸ hl
/-- a parameter's name has a place in the new frame -/
theorem par_place {us : List Value} (S : FnScope N ps scope) (n : Nat) {y : Str × Value} (hy : y ∈ ps.zip us) : scope.names.lookup y.1 = some .local ∨ (scope.names.lookup y.1 = some .cell ∧ ((cellsFrom n scope.names []).lookup y.1).isSome = true) := by
  obtain ⟨m, _⟩ := List.of_mem_zip hy
  cases S.par y.1 m with
  | inl l => exact Or.inl l
  | inr c => exact Or.inr ⟨c, Option.isSome_iff_exists.mpr (cell_has c)⟩
theorem fnG_of (F : FunD K name qual params body scope dvs kws f fd) (S : FnScope N ps scope) {b : DS}
    (hb : ∀ (cdv : Value) (A : Around) (out : List PySem.Env) (s : Shared) (H : Hp) (E : XK), Room k (A.deeper (envOfC qual scope s.heap.objs.size f cdv)) → A.guards = some [] →
      PSs (cxG P w K mg base N qual scope f cdv A out s H E) body (GS p (fun cls d _ H' => E cls d H') b)) :
    FnG P w K mg base (L2.CX P w) (k + 1) f fd ps (spG p ps.length fun ds S => fnRun (b (startG N.length ds) S)) where
  len := spG_len
  run := fun A out s H args us vs Q E room gd at0 binds rel wish => by
    obtain ⟨_, _, _, _, _, _, _, cdv, _, _, efd, look, code, _⟩ := F.ex
    subst efd
    have up : ∀ a o, base.get? a = some o → s.heap.get? a = some o := fun a o z => (at0.bs a o z).1
    have lenV := spG_len vs H Q E wish
    obtain ⟨ρ, St0, ds, _, vr, cc, post⟩ := wish
    refine codeAny_call_function room.depth (at0.mod.kin.keeps up _ _ look) rfl S.co S.gen rfl (PySem.W.codeRec_of (at0.mod.kin.keeps up) code)
      (binds _ _ _ _ (wpAny_newFunctionEnv_cells S.kind (fun y => par_place S _) fun nv e1 s1 x => ?_))
    subst e1
    have body_ := (hb cdv A out s H E (room.deeper _) gd).run [] s1 _ H (bodyE Q) (inv_start S room.hd at0 lenV rel x) ⟨ρ, St0, startG N.length ds, envR_start N vr, cc, body_post post⟩
    refine ⟨at0.mod.nolimit.keeps fun a o z => x.toInCall.keep a o (up a o z), codeAny_func (wpAny_mono body_ (fun fl t ends => ?_) fun _ _ z => z)⟩
    obtain ⟨u, e | ⟨e, e2⟩, ce⟩ := body_end ends
    · subst e; exact ce
    · subst e e2; exact ce
end

/-! calls of own functions -/
/-- where a parameter's value comes from -/
inductive Sr where
  | ps (i : Nat) | kw (i : Nat) | df (d : D)
/-- a call's shape: n values by place, names of keywords, where each parameter's value comes from -/
structure Shp where
  n : Nat
  ks : List Str
  src : List Sr
def scV : D → V
  | .bl b => .bl b | .int i => .int i | .str x => .str x | _ => .non
def scB : D → Bool
  | .non => true | .bl _ => true | .int _ => true | .str _ => true | _ => false
theorem scV_ok {p : Pm} {ρ : List Addr} {H : Hp} {d : D} (h : scB d = true) : VR p ρ H d (scV d) := by
  cases d <;> first | rfl | cases h
def asmD (ds zs : List D) : Sr → D
  | .ps i => ds.getD i .non
  | .kw i => zs.getD i .non
  | .df d => d
def asmV (vs zs : List V) : Sr → V
  | .ps i => vs.getD i .non
  | .kw i => zs.getD i .non
  | .df d => scV d
def okSr (n m : Nat) : Sr → Bool
  | .ps i => i < n
  | .kw i => i < m
  | .df d => scB d
theorem vr_getD {p : Pm} {ρ : List Addr} {H : Hp} {ds : List D} {vs : List V} {i : Nat} (h : VRs p ρ H ds vs) (hi : i < ds.length) : VR p ρ H (ds.getD i .non) (vs.getD i .non) := by
  obtain ⟨v, hv, r⟩ := vrs_get h (List.getElem?_eq_getElem hi)
  rw [List.getD_eq_getElem?_getD, List.getD_eq_getElem?_getD, hv, List.getElem?_eq_getElem hi]
  exact r
theorem asm_ok {p : Pm} {ρ : List Addr} {H : Hp} {ds zs : List D} {vs ws : List V} (h1 : VRs p ρ H ds vs) (h2 : VRs p ρ H zs ws) : ∀ {src : List Sr}, src.all (okSr ds.length zs.length) = true → VRs p ρ H (src.map (asmD ds zs)) (src.map (asmV vs ws))
  | [], _ => rfl
  | x :: r, h => by
    rw [List.all_cons, Bool.and_eq_true] at h
    refine ⟨_, _, rfl, ?_, asm_ok h1 h2 h.2⟩
    cases x with
    | ps i => exact vr_getD h1 (by simpa [okSr] using h.1)
    | kw i => exact vr_getD h2 (by simpa [okSr] using h.1)
    | df d => exact scV_ok h.1
/-- the shape is bound so by the def -/
def ShpOk (K : PySem.W.Frag) (fd : FuncData) (ps : List Str) (sh : Shp) : Prop := sh.src.length = ps.length ∧ sh.src.all (okSr sh.n sh.ks.length) = true ∧
  ∃ g gV, KBn K fd ps sh.n sh.ks g gV ∧ ∀ vs zs, vs.length = sh.n → zs.length = sh.ks.length → gV vs zs = sh.src.map (asmV vs zs)
theorem kbn_of_binds {K : PySem.W.Frag} {fd : FuncData} {ps : List Str} {n : Nat} {dvs : List V} {ds : List Value} (h : Binds K fd ps ds) (hd : Vals dvs ds) (hn : n + dvs.length = ps.length) : KBn K fd ps n [] (fun us _ => us ++ ds) (fun vs _ => vs ++ dvs) :=
  ⟨fun s us ws X l1 l2 => by
    have e : ws = [] := List.length_eq_zero_iff.mp l2
    subst e
    exact h s us X (by rw [List.length_append, l1, ← hd.length]; exact hn), fun r1 r2 => r1.append hd⟩
def kcalE (n m : Nat) (g : List D → List D → Store → Rs D) (r rk : DA) : DE := fun env S => (r env S).bind fun ds S1 => (rk env S1).bind fun zs S2 => if ds.length = n ∧ zs.length = m then g ds zs S2 else .bad
/-- the keywords' values -/
structure PKG (X : Cx) (p : Pm) (W : WX) (kws : List Keyword) (r : DA) : Prop where
  to : PK X kws (GA p W r)
theorem gk_nil {X : Cx} {p : Pm} {W : WX} : PKG X p W [] nilA := ⟨⟨fun pos pins s σ H Q I ⟨ρ, S, env, he, hc, hq⟩ => pk_nil.run pos pins s σ H Q I (hq ρ H (.refl ..) hc [] rfl)⟩⟩
theorem gk_cons {X : Cx} {p : Pm} {W : WX} {e : Expr} {kws : List Keyword} {nm : Option Str} {kpos : Pos} {ra : DE} {rk : DA} (h1 : PE X e (GE p W ra)) (h2 : PKG X p W kws rk) : PKG X p W (⟨nm, e, kpos⟩ :: kws) (consA ra rk) := by
  refine ⟨⟨fun pos pins s σ H Q I ⟨ρ, S, env, he, hc, hq⟩ => (pk_cons h1 h2.to).run pos pins s σ H Q I ⟨ρ, S, env, he, hc, ?_⟩⟩⟩
  unfold consA at hq
  refine Post.turn hq fun d S1 ρ1 H1 x1 c1 p1 v hv => ⟨ρ1, S1, env, he.mono x1, c1, Post.turn p1 fun ds S2 ρ2 H2 x2 c2 p2 vs hvs => ?_⟩
  exact p2 ρ2 H2 (.refl ..) c2 _ ⟨_, _, rfl, VR.mono x2 _ _ hv, hvs⟩
theorem post_E {p : Pm} {ρ : List Addr} {H : Hp} {α : Type} {φ φ' : α → Store → List Addr → Hp → Prop} {ψ ψ' : Value → Option Addr → List Addr → Hp → Prop} {r : Rs α} (h : Post p ρ H φ ψ r) (k : ∀ a S ρ' H', φ a S ρ' H' → φ' a S ρ' H') (k2 : ∀ c d ρ' H', ψ c d ρ' H' → ψ' c d ρ' H') : Post p ρ H φ' ψ' r := by
  cases r with
  | ok a S => exact fun ρ' H' x c => k _ _ _ _ (h ρ' H' x c)
  | exc c fl S => exact fun ρ' H' cls dd x cc q => k2 _ _ _ _ (h ρ' H' cls dd x cc q)
  | bad => exact h
/-! the way of every call: arguments, keywords, the callee -/
section
variable {X : Cx} {p : Pm} {W : WX} {pins : List (Addr × Obj)} {σ : L2.St} {H : Hp} {s : Shared} {ρ : List Addr} {S : Store} {env : Env} {es : List Expr} {kws : List Keyword} {r rk : DA} {Q : VK} {pos : Pos}
theorem pk_run {α : Type} {φ : α → Store → List Addr → Hp → Prop} {f : List D → Store → Rs α} {P : List Value → Shared → Prop} (ha : PKG X p W kws rk) (I : Inv X pins σ H s) (he : EnvR p ρ H env σ) (hc : Conc p ρ S H)
    (hp : Post p ρ H φ (fun cls dd _ H' => W cls dd σ H') ((rk env S).bind f))
    (k : ∀ ds S' ρ' H' vs us s', Ext p ρ H ρ' H' → Conc p ρ' S' H' → VRs p ρ' H' ds vs → Vals vs us → Inv X pins σ H' s' → Post p ρ' H' φ (fun cls dd _ H' => W cls dd σ H') (f ds S') → P us s') :
    wpAny (model X.prog X.w) X.A (evalAll ((backToKw pos (keywordEach kws X.env)).map (·.2))) P X.xe s := by
  cases h : rk env S with
  | ok ds S' =>
    rw [h] at hp
    refine thn (ha.to.run pos pins s σ H (fun v H' => ∃ ρ', Ext p ρ H ρ' H' ∧ Conc p ρ' S' H' ∧ VRs p ρ' H' ds v) I ⟨ρ, S, env, he, hc, ?_⟩) fun us s' hh => ?_
    · rw [h]
      exact fun ρ' H' x c v r => ⟨ρ', x, c, r⟩
    · obtain ⟨v, H', I', r, ρ', x, c, q⟩ := hh
      exact k ds S' ρ' H' v us s' x c q r I' (Post.ext (r := f ds S') hp x)
  | exc c fl S' =>
    rw [h] at hp
    exact thn (ha.to.run pos pins s σ H (fun _ _ => False) I ⟨ρ, S, env, he, hc, by rw [h]; exact hp⟩) fun _ _ ⟨_, _, _, _, z⟩ => z.elim
  | bad => rw [h] at hp; exact hp.elim
/-- keywords with names, none starred -/
structure Named (kws : List Keyword) (ks : List Str) (pos : Pos) (e : PySem.Env) : Prop where
  all : (backToKw pos (keywordEach kws e)).all (·.1.isSome) = true
  nms : (backToKw pos (keywordEach kws e)).filterMap (·.1) = ks
  any : (backToKw pos (keywordEach kws e)).any (·.1.isNone) = false
theorem named_of {pos : Pos} {e : PySem.Env} : ∀ (kws : List Keyword) (ks : List Str), kws.map (·.arg) = ks.map some → Named kws ks pos e
  | [], [], _ => ⟨rfl, rfl, rfl⟩
  | [], _ :: _, h => by cases h
  | _ :: _, [], h => by cases h
  | ⟨nm, ex, kp⟩ :: t, b :: u, h => by
    obtain ⟨h1, h2⟩ := List.cons.inj h
    obtain rfl : nm = some b := h1
    have i := named_of (pos := pos) (e := e) t u h2
    exact ⟨i.all, congrArg (List.cons b) i.nms, i.any⟩
abbrev QD (p : Pm) (Q : VK) : D → Store → List Addr → Hp → Prop := fun d _ ρ' H' => ∀ v, VR p ρ' H' d v → Q v H'
abbrev QX (W : WX) (σ : L2.St) : Value → Option Addr → List Addr → Hp → Prop := fun cls dd _ H' => W cls dd σ H'
theorem args_go {fv : Value} {first : List Value} {ks : List Str} {gg : List D → List D → Store → Rs D} (hk : PySem.W.keepIn X.K fv = true) (ha : PA X es (GA p W r)) (hkw : PKG X p W kws rk) (hpl : es.all plainX = true) (hr0 : es = [] → r = nilA) (hks : kws.map (·.arg) = ks.map some)
    (I : Inv X pins σ H s) (he : EnvR p ρ H env σ) (hc : Conc p ρ S H) (hq : Post p ρ H (QD p Q) (QX W σ) ((r env S).bind fun ds S1 => (rk env S1).bind fun zs S2 => gg ds zs S2))
    (callee : ∀ ρ2 S2 H2 s2 ds zs vs ws us ts, Ext p ρ H ρ2 H2 → Conc p ρ2 S2 H2 → Inv X pins σ H2 s2 → VRs p ρ2 H2 ds vs → VRs p ρ2 H2 zs ws → Vals vs us → Vals ws ts → Post p ρ2 H2 (QD p Q) (QX W σ) (gg ds zs S2) →
      wpAny (model X.prog X.w) X.A (call fv (first ++ us) (ks.zip ts)) (EP X pins σ Q) X.xe s2) :
    wpAny (model X.prog X.w) X.A (callWith pos fv first (backTo pos (starEach es X.env)) (backToKw pos (keywordEach kws X.env))) (EP X pins σ Q) X.xe s := by
  have nm := named_of (pos := pos) (e := X.env) kws ks hks
  have rest : ∀ (ds : List D) (vs : List V) (us : List Value) (ρ1 : List Addr) (S1 : Store) (H1 : Hp) (s1 : Shared), Ext p ρ H ρ1 H1 → Conc p ρ1 S1 H1 → Inv X pins σ H1 s1 → VRs p ρ1 H1 ds vs → Vals vs us → Post p ρ1 H1 (QD p Q) (QX W σ) ((rk env S1).bind fun zs S2 => gg ds zs S2) →
      wpAny (model X.prog X.w) X.A (evalAll ((backToKw pos (keywordEach kws X.env)).map (·.2))) (fun ts s2 => X.K.In s2.heap ∧ wpAny (model X.prog X.w) X.A (call fv (first ++ us) (ks.zip ts)) (EP X pins σ Q) X.xe s2) X.xe s1 :=
    fun ds vs us ρ1 S1 H1 s1 x1 c1 I1 q1 r1 p1 => pk_run hkw I1 (he.mono x1) c1 p1 fun zs S2 ρ2 H2 ws ts s2 x2 c2 q2 r2 I2 p2 => ⟨I2.kIn, callee ρ2 S2 H2 s2 ds zs vs ws us ts (x1.trans x2) c2 I2 (VRs.mono x2 _ _ q1) q2 r1 r2 p2⟩
  cases es with
  | nil =>
    refine PySem.W.callWith_KW0 (h₀ := X.base) I.ok.mod.kin hk nm.all ?_ (by show (false || (backToKw pos (keywordEach kws X.env)).any (·.1.isNone)) = false; rw [nm.any]; rfl)
    rw [nm.nms]
    have z := hr0 rfl
    subst z
    exact rest [] [] [] ρ S H s (.refl ..) hc I rfl .nil hq
  | cons a t =>
    rw [List.all_cons, Bool.and_eq_true] at hpl
    refine PySem.W.callWith_KW (h₀ := X.base) I.ok.mod.kin hk nm.all ?_ (by rw [star_plain hpl.1]; show ((false || (backTo pos (starEach t X.env)).any (·.1)) || (backToKw pos (keywordEach kws X.env)).any (·.1.isNone)) = false; rw [nm.any, star_any hpl.2]; rfl) (star_plain hpl.1)
    rw [nm.nms]
    exact pa_run ha I he hc hq fun ds S1 ρ1 H1 vs us s1 x1 c1 q1 r1 I1 p1 => rest ds vs us ρ1 S1 H1 s1 x1 c1 I1 q1 r1 p1
end
/-- what stands behind a def's call, for the caller -/
theorem call_back {X : Cx} {W : WX} {pins : List (Addr × Obj)} {σ : L2.St} {H : Hp} {s : Shared} {Q : VK} (tk : Takes X W) (I : Inv X pins σ H s) : ∀ (rr : Result) (t : Shared), CR (L2.CX X.prog X.w) X.stack X.prog X.w H s Q (WE W σ) rr t →
    match rr with | .ok (.ret v) => EP X pins σ Q v t | .ok _ => False | .error e => X.xe e t := by
  intro rr t h
  rcases rr with e | (_ | v | _ | _) <;> first | exact I.after h | exact passAt tk σ pins H s e t I h | exact False.elim h
section
variable {X : Cx} {p : Pm} {W : WX} {k : Nat} {f : Addr} {fd : FuncData} {ps : List Str} {x : Str} {pp pos : Pos} {e : Expr} {es : List Expr} {kws : List Keyword} {r rk : DA} {g : List D → Store → Rs D} {sh : Shp}
def shG (sh : Shp) (g : List D → Store → Rs D) (ds zs : List D) (S : Store) : Rs D := if ds.length = sh.n ∧ zs.length = sh.ks.length then g (sh.src.map (asmD ds zs)) S else .bad
theorem shG_some {sh : Shp} {ρ : List Addr} {H : Hp} {φ : D → Store → List Addr → Hp → Prop} {ψ : Value → Option Addr → List Addr → Hp → Prop} {ds zs : List D} {S : Store} (h : Post p ρ H φ ψ (shG sh g ds zs S)) : (ds.length = sh.n ∧ zs.length = sh.ks.length) ∧ Post p ρ H φ ψ (g (sh.src.map (asmD ds zs)) S) := by
  unfold shG at h
  split at h
  · exact ⟨by assumption, h⟩
  · exact h.elim
/-- the callee of a shape keeps its promise -/
theorem shp_goes {A : Around} {out : List PySem.Env} {s : Shared} {ρ : List Addr} {S : Store} {H : Hp} {ds zs : List D} {vs ws : List V} {us ts : List Value} {Q : VK} {E : XK} (F : FnG X.prog X.w X.K X.mg X.base (L2.CX X.prog X.w) k f fd ps (spG p ps.length g)) (hs : ShpOk X.K fd ps sh) (hr : Room k A) (hgd : A.guards = some [])
    (e0 : Env0 X.prog X.w X.K X.mg X.base A out s H) (kin : X.K.In s.heap) (hc : Conc p ρ S H) (q1 : VRs p ρ H ds vs) (q2 : VRs p ρ H zs ws) (r1 : Vals vs us) (r2 : Vals ws ts) (l1 : ds.length = sh.n) (l2 : zs.length = sh.ks.length)
    (hp : Post p ρ H (QD p Q) (fun cls dd _ H' => E cls dd H') (g (sh.src.map (asmD ds zs)) S)) : codeAny (model X.prog X.w) A (.call (.ref f) ⟨us, sh.ks.zip ts⟩) (CR (L2.CX X.prog X.w) out X.prog X.w H s Q E) s := by
  obtain ⟨hsl, hso, gg, gV, hb, hgV⟩ := hs
  have v1 : vs.length = sh.n := q1.length.symm.trans l1
  have v2 : ws.length = sh.ks.length := q2.length.symm.trans l2
  refine F.run A out s H ⟨us, sh.ks.zip ts⟩ (gg us ts) (gV vs ws) Q E hr hgd e0 (hb.to s us ts kin (r1.length.symm.trans v1) (r2.length.symm.trans v2)) (hb.rel r1 r2) ⟨ρ, S, sh.src.map (asmD ds zs), by rw [List.length_map]; exact hsl, ?_, hc, hp⟩
  rw [hgV vs ws v1 v2]
  exact asm_ok q1 q2 (by rw [l1, l2]; exact hso)
/-- f(e, .., k = v, ..) of an own function -/
theorem ge_call (hpK : p.K = X.K) (F : FnG X.prog X.w X.K X.mg X.base (L2.CX X.prog X.w) k f fd ps (spG p ps.length g)) (hr : Room k X.A) (hgd : X.A.guards = some []) (tk : Takes X W) (hg : Gl X x) (hm : X.mg x = some (.ref f)) (hk : PySem.W.keepIn X.K (.ref f) = true) (hdb : (x == ("__debug__" : Str)) = false)
    (hs : ShpOk X.K fd ps sh) (ha : PA X es (GA p W r)) (hkw : PKG X p W kws rk) (hpl : es.all plainX = true) (hr0 : es = [] → r = nilA) (hks : kws.map (·.arg) = sh.ks.map some) : PE X (.Call (.Name x pp) es kws pos) (GE p W (kcalE sh.n sh.ks.length (fun ds zs S => g (sh.src.map (asmD ds zs)) S) r rk)) := by
  refine ⟨fun pins s σ H Q I ⟨ρ, S, env, he, hcc, hq⟩ => wpAny_Call_Name_kw (ld_glob I hg hm (args_go (gg := shG sh g) (first := []) hk ha hkw hpl hr0 hks I he hcc hq fun ρ2 S2 H2 s2 ds zs vs ws us ts x2 c2 I2 q1 q2 r1 r2 p2 => ?_) hdb)⟩
  obtain ⟨⟨l1, l2⟩, p3⟩ := shG_some p2
  exact wpAny_call (codeAny_mono (shp_goes F hs hr hgd I2.env0 I2.kIn c2 q1 q2 r1 r2 l1 l2 p3) (call_back tk I2))
/-- an own class's instances -/
def insOf (S : Store) : D → Option (Str × List (Str × D))
  | .loc n => match S[n]? with
    | some (.ins c fs) => some (c, fs)
    | _ => none
  | _ => none
theorem ins_of {ρ : List Addr} {S : Store} {H : Hp} (hc : Conc p ρ S H) {d : D} {v : V} {c : Str} {fs : List (Str × D)} (h : VR p ρ H d v) (e : insOf S d = some (c, fs)) :
    ∃ a C dx ws, v = .ref a ∧ p.mg c = some (.ref C) ∧ Cls p.K C ∧ NoAts p.K C (fs.map (·.1)) ∧ H a = some (.ins C dx ws) ∧ FRs p ρ H fs ws := by
  unfold insOf at e
  split at e
  · rename_i n
    split at e
    · rename_i c' fs' hS
      cases e
      obtain ⟨a, rfl, ha⟩ := h
      obtain ⟨C, dx, ws, ⟨m1, m2, m3⟩, h1, h2⟩ := hc.cell n a _ ha hS
      exact ⟨a, C, dx, ws, rfl, m1, m2, m3, h1, h2⟩
    · cases e
  · cases e
theorem FRs.lookup {ρ : List Addr} {H : Hp} {f : Str} : ∀ {fs : List (Str × D)} {ws : List (Str × V)}, FRs p ρ H fs ws → (fs.lookup f = none ∧ ws.lookup f = none) ∨ ∃ d v, fs.lookup f = some d ∧ ws.lookup f = some v ∧ VR p ρ H d v
  | [], ws, h => by rw [show ws = [] from h]; exact .inl ⟨rfl, rfl⟩
  | (k, d) :: r, ws, ⟨x, t, e, h1, h2⟩ => by
    subst e
    cases q : f == k with
    | true => exact .inr ⟨d, x, by simp [List.lookup, q], by simp [List.lookup, q], h1⟩
    | false =>
      have e1 : ((k, d) :: r).lookup f = r.lookup f := by simp [List.lookup, q]
      have e2 : ((k, x) :: t).lookup f = t.lookup f := by simp [List.lookup, q]
      rw [e1, e2]
      exact FRs.lookup h2
/-- o.m(e, .., k = v, ..) of own classes: which class has which def of the name, with which shape -/
abbrev MTab := List (Str × Nat × Shp)
def momE (m : Str) (tab : MTab) (call : Nat → List D → Store → Rs D) (ro : DE) (r rk : DA) : DE := fun env S => (ro env S).bind fun o S1 => match insOf S1 o with
  | none => .bad
  | some (c, fs) => match fs.lookup m, tab.lookup c with
    | none, some (i, sh) => (r env S1).bind fun ds S2 => (rk env S2).bind fun zs S3 => shG sh (call i) (o :: ds) zs S3
    | _, _ => .bad
structure MthOk (X : Cx) (p : Pm) (k : Nat) (call : Nat → List D → Store → Rs D) (m : Str) (ks : List Str) (c : Str) (i : Nat) (sh : Shp) : Prop where
  ks : sh.ks = ks
  ex : ∃ C a fd ps, X.mg c = some (.ref C) ∧ Meth X.K C m a ∧ ShpOk X.K fd ps sh ∧ FnG X.prog X.w X.K X.mg X.base (L2.CX X.prog X.w) k a fd ps (spG p ps.length (call i))
theorem ge_mown {o : Expr} {m : Str} {tab : MTab} {call : Nat → List D → Store → Rs D} {ro : DE} {ks : List Str} {apos cpos : Pos} (hpK : p.K = X.K) (hpM : p.mg = X.mg) (hr : Room k X.A) (hgd : X.A.guards = some []) (tk : Takes X W) (ht : ∀ c i sh, tab.lookup c = some (i, sh) → MthOk X p k call m ks c i sh)
    (ho : PE X o (GE p W ro)) (ha : PA X es (GA p W r)) (hkw : PKG X p W kws rk) (hpl : es.all plainX = true) (hr0 : es = [] → r = nilA) (hks : kws.map (·.arg) = ks.map some) (hsup : noSuper o = true) (hfew : es.length + kws.length < 20) (hl : (apos.endLine == cpos.line) = true) :
    PE X (.Call (.Attribute o m apos) es kws cpos) (GE p W (momE m tab call ro r rk)) := by
  refine ⟨fun pins s σ H Q I ⟨ρ, S, env, he, hcc, hq⟩ => ?_⟩
  rw [arm_eval_Call, base_plain hsup]
  refine wpAny_bind (pe_run ho I he hcc hq fun d S1 ρ1 H1 v u s1 x1 c1 q1 r1 I1 p1 => wpAny_bind (wpAny_standAt ?_))
  have form : methodCallForm (es.length + kws.length) (backTo cpos (starEach es X.env)) (backToKw cpos (keywordEach kws X.env)) = true := by
    unfold methodCallForm
    rw [few_plain hpl, (named_of (pos := cpos) (e := X.env) kws ks hks).all]
    simp only [Bool.true_and, decide_eq_true_eq]
    split <;> omega
  rw [mcall_line form hl]
  cases hi : insOf S1 d with
  | none => simp only [hi] at p1; exact p1.elim
  | some cf =>
    obtain ⟨c, fs⟩ := cf
    simp only [hi] at p1
    obtain ⟨a, C, dx, ws, rfl, m1, m2, m3, h1, h2⟩ := ins_of c1 q1 hi
    obtain rfl : u = Value.ref a := r1
    cases hf : fs.lookup m with
    | some z => simp only [hf] at p1; exact p1.elim
    | none =>
      cases hT : tab.lookup c with
      | none => simp only [hf, hT] at p1; exact p1.elim
      | some ish =>
        obtain ⟨i, sh⟩ := ish
        simp only [hf, hT] at p1
        obtain ⟨e1, C', g, fd, ps', n1, n2, n3, n4⟩ := ht c i sh hT
        have eC : C' = C := by
          rw [hpM, n1] at m1
          cases m1
          rfl
        subst eC
        have lw : ws.lookup m = none := by
          rcases h2.lookup (f := m) with ⟨_, z⟩ | ⟨_, _, z, _⟩
          · exact z
          · rw [hf] at z; cases z
        refine wpAny_bind (wpAny_holding (getmeth_ok I1 h1 (hpK ▸ m2) n2 lw ?_))
        subst e1
        refine args_go (gg := fun ds zs S => shG sh (call i) (d :: ds) zs S) (first := [.ref a]) n2.kp ha hkw hpl hr0 hks I1 (he.mono x1) c1 p1 fun ρ2 S2 H2 s2 ds zs vs ws2 us ts x2 c2 I2 a1 a2 b1 b2 p2 => ?_
        obtain ⟨⟨l1, l2⟩, p3⟩ := shG_some p2
        exact wpAny_call (codeAny_mono (shp_goes (ds := d :: ds) (vs := .ref a :: vs) (us := .ref a :: us) n4 n3 hr hgd I2.env0 I2.kIn c2 ⟨_, _, rfl, VR.mono x2 _ _ q1, a1⟩ a2 (.cons rfl b1) b2 l1 l2 p3) (call_back tk I2))
/-- C(e, .., k = v, ..): a new instance of an own class -/
def makE (c : Str) (i : Nat) (sh : Shp) (call : Nat → List D → Store → Rs D) (r rk : DA) : DE := fun env S => (r env S).bind fun ds S1 => (rk env S1).bind fun zs S2 =>
  (shG sh (call i) (.loc S2.length :: ds) zs (S2 ++ [.ins c []])).bind fun d S3 => match d with
    | .non => .ok (.loc S2.length) S3
    | _ => .bad
theorem under_guards {A : Around} {C : Addr} {us : List Value} {kw : List (Str × Value)} : (A.under (.builtin "type.__call__" ⟨.ref C :: us, kw⟩)).guards = A.guards := by
  first | rfl | simp [Around.under, Code.isGuard, Code.frames, Code.isFrame, guardIds]
theorem ge_make {c : Str} {C : Addr} {i : Nat} {call : Nat → List D → Store → Rs D} (hpK : p.K = X.K) (hpM : p.mg = X.mg) (M : Mk X.K C f) (cl : Cls X.K C) (F : FnG X.prog X.w X.K X.mg X.base (L2.CX X.prog X.w) k f fd ps (spG p ps.length (call i))) (hr : Room (k + 1) X.A) (hgd : X.A.guards = some []) (tk : Takes X W)
    (hg : Gl X c) (hm : X.mg c = some (.ref C)) (hdb : (c == ("__debug__" : Str)) = false) (hs : ShpOk X.K fd ps sh) (ha : PA X es (GA p W r)) (hkw : PKG X p W kws rk) (hpl : es.all plainX = true) (hr0 : es = [] → r = nilA) (hks : kws.map (·.arg) = sh.ks.map some) :
    PE X (.Call (.Name c pp) es kws pos) (GE p W (makE c i sh call r rk)) := by
  refine ⟨fun pins s σ H Q I ⟨ρ, S, env, he, hcc, hq⟩ => wpAny_Call_Name_kw (ld_glob I hg hm (args_go (gg := fun ds zs S2 => (shG sh (call i) (.loc S2.length :: ds) zs (S2 ++ [.ins c []])).bind fun d S3 => match d with
    | .non => .ok (.loc S2.length) S3
    | _ => .bad) (first := []) M.kp ha hkw hpl hr0 hks I he hcc hq fun ρ2 S2 H2 s2 ds zs vs ws us ts x2 c2 I2 q1 q2 r1 r2 p2 => ?_) hdb)⟩
  show wpAny (model X.prog X.w) X.A (PySem.call (Value.ref C) us (sh.ks.zip ts)) _ _ _
  have J := Inv.made (C := C) I2
  have n1 : H2 s2.heap.objs.size = none := I2.hok.fresh (Nat.le_refl _)
  have n2 : H2 (s2.heap.objs.size + 1) = none := I2.hok.fresh (Nat.le_succ _)
  have c3 := c2.new (o := .own (s2.heap.objs.size + 1)) n1
  have x3 := ext_new (p := p) (ρ := ρ2) (o := .own (s2.heap.objs.size + 1)) n1
  have n3 : upd H2 s2.heap.objs.size (.own (s2.heap.objs.size + 1)) (s2.heap.objs.size + 1) = none := by rw [upd_ne (Nat.succ_ne_self _)]; exact n2
  obtain ⟨c4, x4⟩ := c3.push (o := .ins C s2.heap.objs.size []) (c := .ins c []) n3 ⟨C, _, [], ⟨by rw [hpM]; exact hm, by rw [hpK]; exact cl, fun f hf => by cases hf⟩, upd_same, rfl⟩
  have x5 := x3.trans x4
  have self : VR p (ρ2 ++ [s2.heap.objs.size + 1]) (upd (upd H2 s2.heap.objs.size (HO.own (s2.heap.objs.size + 1))) (s2.heap.objs.size + 1) (HO.ins C s2.heap.objs.size [])) (D.loc S2.length) (V.ref (s2.heap.objs.size + 1)) :=
    ⟨_, rfl, by rw [List.getElem?_append_right (by rw [c2.len]; exact Nat.le_refl _), c2.len]; simp⟩
  have p4 := Post.ext p2 x5
  obtain ⟨⟨l1, l2⟩, p5⟩ := shG_some (Post.turn (φ' := QD p fun v H' => v = V.non ∧ Q (V.ref (s2.heap.objs.size + 1)) H') p4 fun d S3 ρ3 H3 x6 c6 p6 => by
    cases d <;> first | exact p6.elim | exact fun v hv => ⟨hv, p6 ρ3 H3 (.refl ..) c6 _ (VR.mono x6 _ _ self)⟩)
  refine wpAny_call (make_map (f := f) I2.kIn M.makes M.init (beq_iff_eq.mp M.fn) ?_)
  refine codeAny_mono (shp_goes (ds := D.loc S2.length :: ds) (vs := V.ref (s2.heap.objs.size + 1) :: vs) (us := Value.ref (s2.heap.objs.size + 1) :: us) (Q := fun v H' => v = V.non ∧ Q (V.ref (s2.heap.objs.size + 1)) H') (E := WE W σ) F hs (hr.make C us _) (by rw [under_guards]; exact hgd) (J.env0.make C us _) J.kIn c4
    ⟨_, _, rfl, self, VRs.mono x5 _ _ q1⟩ (VRs.mono x5 _ _ q2) (.cons rfl r1) r2 l1 l2 p5) fun rr t hq' => ?_
  rcases rr with e | (_ | _ | _ | u)
  · exact passAt tk σ pins _ _ e t J hq'
  · exact False.elim hq'
  · exact False.elim hq'
  · exact False.elim hq'
  · obtain ⟨v, H', J', rv, ev, q3⟩ := J.after hq'
    subst ev
    exact ⟨rv, ⟨V.ref (s2.heap.objs.size + 1), H', J', rfl, q3⟩⟩
end
end Mn

namespace Mn
open PySem PySem.Spec PyProof.Rows L2

/-! exceptions that are caught and kept as values -/
def okNm (x : Str) : Bool := !(x == ("__debug__" : Str)) && !(x == ("__classdict__" : Str)) && !(x == ("__name__" : Str))
theorem okNm_ok {x : Str} (h : okNm x = true) : (x == ("__debug__" : Str)) = false ∧ (x == ("__classdict__" : Str)) = false ∧ x ≠ "__name__" := by
  unfold okNm at h
  simp only [Bool.and_eq_true, Bool.not_eq_true'] at h
  exact ⟨h.1.1, h.1.2, fun e => by rw [e] at h; simp at h⟩
section
variable {X : Cx} {pins : List (Addr × Obj)} {σ : L2.St} {H : Hp} {s : Shared}
/-- an exception that nothing speaks of is told of from here on -/
theorem track {a : Addr} {oe : Obj} {vs : Array Value} {cls : Value} {d : Option Addr} (I : Inv X pins σ H s) (na : H a = none) (he : s.heap.get? a = some oe) (hz : Zc cls d oe) (hd : oe.data = .fields vs)
    (nL : a ≠ X.env.locals) (old : X.s_0.heap.get? a = none) (np : ∀ q ∈ X.pn ++ pins, q.1 ≠ a) : Inv X pins σ (upd H a (ExV cls d a)) s where
  ok := I.ok
  os := I.os
  bare := I.bare
  base := ⟨I.base.keep, I.base.slot, fun b o e n x => by rw [upd_ne (fun z => by rw [z, old] at e; cases e)]; exact I.base.free b o e n x, I.base.there,
    fun b xs e => by rw [upd_ne (ne_of_none (I.base.tups b xs e) na)]; exact I.base.tups b xs e, fun b o u e => by rw [upd_ne (ne_of_none (I.base.frzs b o u e) na)]; exact I.base.frzs b o u e,
    fun b ps e => by obtain ⟨m, q⟩ := I.base.tbls b ps e; exact ⟨m, by rw [upd_ne (ne_of_none q na)]; exact q⟩⟩
  loc := I.loc
  cell := I.cell
  free := by rw [upd_ne (Ne.symm nL)]; exact I.free
  freeC := fun x c e => by
    obtain ⟨v, o, h1, h2⟩ := I.cell x c e
    rw [upd_ne (fun z => by rw [z, he] at h1; cases h1; rw [hd] at h2; cases h2)]
    exact I.freeC x c e
  pin := fun q hq => by
    obtain ⟨h1, h2, h3⟩ := I.pin q hq
    exact ⟨h1, by rw [upd_ne (np q hq)]; exact h2, h3⟩
  hok := fun b o e => by
    by_cases hb : b = a
    · subst hb
      rw [upd_same] at e
      cases e
      exact ⟨⟨oe, vs, he, hz.1, hz.2, hd⟩, ⟨oe, he⟩, fun h1 h2 ⟨o1, f1, e1, r⟩ k => ⟨o1, f1, k _ e1, r⟩⟩
    · rw [upd_ne hb] at e
      exact (I.hok b o e).stay (fun _ _ _ q => q) (fun c q => by rw [upd_ne (ne_of_none q na)]; exact q) fun c xs q => by rw [upd_ne (ne_of_none q na)]; exact q
  len := I.len
/-- what is raised stands apart from all that stood ahead -/
theorem air_new {B : Heap} {a : Addr} (I : Inv X pins σ H s) (nb : ∀ b o, s.heap.get? b = some o → b ∉ frs X.stack → B.get? b = some o) (hB : B.get? a = none) (hf : a ∉ frs X.stack) (hex : X.ex = []) :
    X.s_0.heap.get? a = none ∧ ∀ q ∈ X.pn ++ pins, q.1 ≠ a := by
  have no : s.heap.get? a = none := by
    cases e : s.heap.get? a with
    | none => rfl
    | some o => rw [nb a o e hf] at hB; cases hB
  constructor
  · cases e : X.s_0.heap.get? a with
    | none => rfl
    | some o =>
      obtain ⟨o', q⟩ := I.base.there a o e (by rw [hex]; simp)
      rw [no] at q
      cases q
  · intro q hq z
    rw [z.symm, (I.pin q hq).1] at no
    cases no
/-- out of the suite, the exception still pinned -/
theorem unsuite_pin {a : Addr} {q : Addr × Obj} {pn' : List (Addr × Obj)} (I : Inv (X.suite a (q :: (X.pn ++ pins))) pn' σ H s) (ok : X.Ok) : Inv X (q :: pins) σ H s :=
  ⟨ok, I.os, I.bare, I.base, I.loc, I.cell, I.free, I.freeC, fun p hp => I.pin p (List.mem_append_left _ (by
    rcases List.mem_append.mp hp with h | h
    · exact List.mem_cons_of_mem _ (List.mem_append_left _ h)
    · rcases List.mem_cons.mp h with h | h
      · rw [h]; exact List.mem_cons_self
      · exact List.mem_cons_of_mem _ (List.mem_append_right _ h))), I.hok, I.len⟩
theorem drop_pin {q : Addr × Obj} (I : Inv X (q :: pins) σ H s) : Inv X pins σ H s :=
  ⟨I.ok, I.os, I.bare, I.base, I.loc, I.cell, I.free, I.freeC, fun p hp => I.pin p (by
    rcases List.mem_append.mp hp with h | h
    · exact List.mem_append_left _ h
    · exact List.mem_append_right _ (List.mem_cons_of_mem _ h)), I.hok, I.len⟩
end

/-- which exceptions an except clause's test takes: all that is made meanwhile is left behind -/
def TestOk (X : Cx) (t : Expr) (f : Value → Option Bool) : Prop := ∀ (a : Addr) (oe : Obj) (vs : Array Value) (pn : List (Addr × Obj)) (σ : L2.St) (H : Hp) (s : Shared) (b : Bool), Inv (X.suite a ((a, oe) :: pn)) [] σ H s → s.heap.get? a = some oe → f oe.cls = some b →
  ∀ (Q : Bool → Shared → Prop) (E1 E2 : Value → Shared → Prop), (∀ h' t', (∀ b o, s.heap.get? b = some o → h'.get? b = some o) → Q b { s with heap := h', toks := t' }) →
    wpAny (model X.prog X.w) (X.A.mark (some (.ref a))) (eval t X.env) (fun c s1 => wpAny (model X.prog X.w) (X.A.mark (some (.ref a))) (excMatches (.ref a) c) Q E1 s1) E2 s
theorem test_one {X : Cx} {x : Str} {c : Value} {np : Pos} (hc : Names X x c) : TestOk X (.Name x np) (fun cls => PySem.W.exmOne X.K cls c) := by
  intro a oe vs pn σ H s b I he hb Q E1 E2 q
  have lt : PySem.W.Looks (model X.prog X.w) s.heap (typeOf (.ref a)) oe.cls := fun A Q E s k q => wpAny_typeOf_ref (k _ _ he) q
  have fin : ∀ {E3 : Value → Shared → Prop}, wpAny (model X.prog X.w) (X.A.mark (some (.ref a))) (excMatches (.ref a) c) Q E3 s := fun {E3} => (PySem.W.exm_one (M := model X.prog X.w) I.kIn lt hb).here (q s.heap s.toks fun _ _ z => z)
  obtain ⟨hg, hd, h | ⟨h, hv, hn⟩⟩ := hc
  · exact ld_glob (X := X.suite a ((a, oe) :: pn)) I hg h fin hd
  · exact ld_blt (X := X.suite a ((a, oe) :: pn)) I hg h hv fin hn hd
/-- what the body of  try: .. except t as n: y = n  wishes of its exceptions (n in slot i, y in slot j) -/
def wKeep (f : Value → Option Bool) (i j : Nat) (W : WX) (nx : L2.St → Hp → Prop) : WX := fun cls d σ H => ∃ b, f cls = some b ∧
  (b = true → ∀ a, H a = none → nx (((σ.set i (some (.ref a))).set j (some (.ref a))).set i none) (upd H a (ExV cls d a))) ∧ (b = false → W cls d σ H)
section
variable {X : Cx} {pins : List (Addr × Obj)} {σ : L2.St} {H : Hp} {s sI : Shared} {n y : Str} {i j : Nat} {t : Expr} {f : Value → Option Bool} {p1 p2 p3 pos' pos : Pos} {W : WX}
theorem fly_on {B : Heap} {l : List PySem.Env} {a : Addr} {Z : Obj → Prop} {h h' : Heap} (fl : HandSPX.FlyingZ B l a Z h) (k : ∀ b o, h.get? b = some o → h'.get? b = some o) : HandSPX.FlyingZ B l a Z h' := by
  obtain ⟨k1, k2, k3, oe, vs, T, oT, ts, he, hz, hd, h1, hn, ne, ht, hr⟩ := fl
  exact ⟨fun b o e => k b o (k1 b o e), k2, k3.of_keeps fun b o e _ => ⟨o, k b o e, rfl⟩, oe, vs, T, oT, ts, k _ _ he, hz, hd, h1, hn, ne, k _ _ ht, hr⟩
/-- y = n in the suite -/
theorem keep_suite {a : Addr} {pn : List (Addr × Obj)} {σ : L2.St} {H : Hp} {s : Shared} (I : Inv (X.suite a pn) [] σ H s) (hN : X.N.Nodup) (hi : X.N[i]? = some n) (hn : X.env.kindOf n = some .local) (hd : okNm n = true) (hj : X.N[j]? = some y) (hy : X.env.kindOf y = some .local)
    (v : V) (e : σ[i]? = some (some v)) {Q : Flow → Shared → Prop} {E : Value → Shared → Prop} (q : ∀ s', Inv (X.suite a pn) [] (σ.set j (some v)) H s' → Q .next s') :
    wpAny (model X.prog X.w) (X.A.mark (some (.ref a))) (execs [.Assign [.Name y p1] (.Name n p2) p3] X.env) Q E s := by
  have h := (pss_one (ps_set (X := X.suite a pn) (i := j) (pos := p3) (pos' := p1) hN hj (.inl hy) (pe_var (pos := p2) hi (.inl hn) (okNm_ok hd).1 (okNm_ok hd).2.1) rfl (.inr hy))).run [] s σ H
    { nx := fun σ' H' => σ' = σ.set j (some v) ∧ H' = H, rt := fun _ _ => False } I ⟨v, e, rfl, rfl⟩
  refine wpAny_mono h (fun fl s' hs => ?_) fun _ _ z => z.elim
  cases fl with
  | next => obtain ⟨σ', H', J, e1, e2⟩ := hs; subst e1; subst e2; exact q s' J
  | ret u => obtain ⟨_, _, _, _, _, z⟩ := hs; exact z.elim
  | brk => obtain ⟨_, _, _, z⟩ := hs; exact z.elim
  | cont => obtain ⟨_, _, _, z⟩ := hs; exact z.elim
/-- the clause, its exception landed -/
theorem keep_clause (hs : X.stack = X.env :: X.outer) (hf : X.env.frame = some X.env.locals) (hex : X.ex = []) (hN : X.N.Nodup) (hi : X.N[i]? = some n) (hn : X.env.kindOf n = some .local) (hdn : okNm n = true) (hj : X.N[j]? = some y) (hy : X.env.kindOf y = some .local) (ht : TestOk X t f) (tk : Takes X W)
    {a : Addr} {B : Heap} {cls : Value} {d : Option Addr} {D : Ends} (J : Inv X pins σ H sI) (nb : ∀ b o, sI.heap.get? b = some o → b ∉ frs X.stack → B.get? b = some o) (up : sI.heap.UpToSlots s.heap) (fl : HandSPX.FlyingZ B X.stack a (Zc cls d) s.heap) (na : H a = none) (os : s.os = sI.os) (ag : AllBare s.gens)
    (w : wKeep f i j W D.nx cls d σ H) : wpAny (model X.prog X.w) X.A (handleBy (.ref a) X.env [.ExceptHandler (some t) (some n) [.Assign [.Name y p1] (.Name n p2) p3] pos']) (SP X pins D) X.xe s := by
  obtain ⟨b, hb, yes, no⟩ := w
  have I := J.landed nb fl.1 up os ag
  obtain ⟨oe, vs, he, hz, hd⟩ := fl.there
  have notFrame : a ∉ frs X.stack := fun m => by
    obtain ⟨_, o', e', z⟩ := fl.2.2.1.mem m
    rw [he] at e'
    cases e'
    exact z _ hd
  have nL : a ≠ X.env.locals := fun z => notFrame (List.mem_filterMap.mpr ⟨X.env, by rw [hs]; exact List.mem_cons_self, by rw [hf, z]⟩)
  have nF : a ∉ X.fs := fun m => by
    obtain ⟨e, m1, m2⟩ := List.mem_filterMap.mp m
    exact notFrame (List.mem_filterMap.mpr ⟨e, by rw [hs]; exact List.mem_cons_of_mem _ m1, m2⟩)
  obtain ⟨old, np⟩ := air_new J nb fl.2.1 notFrame hex
  refine wpAny_handleBy_cons (codeAny_handlers_test (ht a oe vs (X.pn ++ pins) σ H s b (I.suite he hd na nL nF) he (by rw [hz.1]; exact hb) _ _ _ fun h' t' k => ?_)) (by intro q; cases q)
  have fl2 := fly_on fl k
  have up2 : sI.heap.UpToSlots h' := up.trans (Heap.UpToSlots.of_keeps k)
  cases b with
  | true =>
    refine codeAny_handlers_suite_as (HandSPX.lands_againZ fl2 fun h4 fl4 up4 => ?_)
    have I4 : Inv X pins σ H { s with heap := h4, toks := t' } := J.landed nb fl4.1 (up2.trans up4) os ag
    obtain ⟨oe4, vs4, he4, hz4, hd4⟩ := fl4.there
    refine store_ok (X := X.suite a ((a, oe4) :: (X.pn ++ pins))) (v := .ref a) (I4.suite he4 hd4 na nL nF) hN hi (.inl hn) rfl (fun s5 I5 => ?_) (.inr hn)
    have hlen : i < σ.length := by rw [J.len]; exact (List.getElem?_eq_some_iff.mp hi).1
    refine keep_suite I5 hN hi hn hdn hj hy (.ref a) (List.getElem?_set_self hlen) fun s6 I6 => ?_
    refine gone_ok (unsuite_pin I6 I.ok) hN hi hn fun s7 I7 => ?_
    have he7 := (I7.pin (a, oe4) (List.mem_append_right _ List.mem_cons_self)).1
    exact ⟨_, _, track (drop_pin I7) na he7 hz4 hd4 nL old np, yes rfl a na⟩
  | false =>
    refine PX.no_clauseZ (B := B) (outer := X.outer) (Z := Zc cls d) (L := X.env.locals) hf (by rw [← hs]; exact fl2) fun h4 hh up4 => tk _ _ ?_
    exact ⟨a, B, sI, pins, σ, H, cls, d, rfl, J, nb, up2.trans up4, .inr (.inr (by rw [hs]; exact hh)), na, os, ag, no rfl⟩
end
def tryS (cat : Str → Option Bool) (i j : Nat) (b : DS) : DS := fun env S => match b env S with
  | .exc k fl env' S' => match cat k with
    | some true => .nx ((env'.set j (some (.exo k (fl.map (·.1)) (fl.map (·.2))))).set i none) S'
    | some false => .exc k fl env' S'
    | none => .bad
  | r => r
theorem envR_keep {p : Pm} {ρ : List Addr} {H : Hp} {env : Env} {σ : L2.St} {i j : Nat} {d : D} {v w : V} (h : EnvR p ρ H env σ) (q : VR p ρ H d v) : EnvR p ρ H ((env.set j (some d)).set i none) (((σ.set i (some w)).set j (some v)).set i none) := by
  refine ⟨by simp [h.1], fun m e hm => ?_⟩
  by_cases hi : i = m
  · subst hi
    rw [List.getElem?_set] at hm
    simp at hm
  · rw [List.getElem?_set_ne hi] at hm
    rw [List.getElem?_set_ne hi]
    by_cases hj : j = m
    · subst hj
      rw [List.getElem?_set] at hm
      simp only [if_true] at hm
      split at hm
      · rename_i hl
        cases hm
        exact ⟨v, by rw [List.getElem?_set_self (by simp [← h.1]; exact hl)], q⟩
      · cases hm
    · rw [List.getElem?_set_ne hj] at hm
      rw [List.getElem?_set_ne hj, List.getElem?_set_ne hi]
      exact h.2 m e hm
theorem frs_zip {p : Pm} {ρ : List Addr} {H : Hp} : ∀ {fl : List (Str × D)} {ws : List (Str × V)}, FRs p ρ H fl ws → ∃ xs, VRs p ρ H (fl.map (·.2)) xs ∧ (fl.map (·.1)).length = xs.length ∧ (fl.map (·.1)).zip xs = ws
  | [], ws, h => ⟨[], rfl, rfl, by rw [show ws = [] from h]; rfl⟩
  | (k, d) :: r, ws, ⟨x, t, e, h1, h2⟩ => by
    obtain ⟨xs, a1, a2, a3⟩ := frs_zip h2
    exact ⟨x :: xs, ⟨x, xs, rfl, h1, a1⟩, by simpa using a2, by rw [e, ← a3]; rfl⟩
/-- an exception told of is a value -/
theorem exo_of {p : Pm} {ρ : List Addr} {H : Hp} {k : Str} {fl : List (Str × D)} {cls : Value} {dd : Option Addr} {a : Addr} (nr : a ∉ ρ) (h : ExcR p ρ H k fl cls dd) (na : H a = none) : VR p ρ (upd H a (ExV cls dd a)) (.exo k (fl.map (·.1)) (fl.map (·.2))) (.ref a) := by
  obtain ⟨⟨C, h1, rfl, f1, f2⟩, h2⟩ := h
  cases fl with
  | nil => exact ⟨a, C, dd, rfl, nr, ⟨h1, f1, f2⟩, upd_same, [], rfl, rfl, .inl ⟨rfl, h2⟩⟩
  | cons q r =>
    obtain ⟨d, ws, rfl, e, h3, h4⟩ := h2
    obtain ⟨xs, a1, a2, a3⟩ := frs_zip h3
    exact ⟨a, C, some d, rfl, nr, ⟨h1, f1, f2⟩, upd_same, xs, VRs.mono (ext_new na) _ _ a1, a2, .inr ⟨d, rfl, by rw [upd_ne (ne_of_none e na), e, a3]⟩⟩
section
variable {X : Cx} {p : Pm} {n y : Str} {i j : Nat} {t : Expr} {f : Value → Option Bool} {p1 p2 p3 pos' pos : Pos} {W : WX} {body : List Stmt} {b : DS} {cat : Str → Option Bool}
theorem gs_try (hs : X.stack = X.env :: X.outer) (hf : X.env.frame = some X.env.locals) (hex : X.ex = []) (hN : X.N.Nodup) (hi : X.N[i]? = some n) (hn : X.env.kindOf n = some .local) (hdn : okNm n = true) (hj : X.N[j]? = some y) (hy : X.env.kindOf y = some .local) (ht : TestOk X t f) (tk : Takes X W)
    (hcat : ∀ k C b, cat k = some b → p.mg k = some (.ref C) → f (.ref C) = some b)
    (hb : ∀ (W : WX) (pn : List (Addr × Obj)) (xe : Value → Shared → Prop), Takes (X.tr pn xe) W → PassesOwn (model X.prog X.w) X.A X.env xe → PSs (X.tr pn xe) body (GS p W b)) :
    PS X (.Try body [.ExceptHandler (some t) (some n) [.Assign [.Name y p1] (.Name n p2) p3] pos'] [] [] pos) (GS p W (tryS cat i j b)) := by
  refine ⟨fun pins s σ H D I ⟨ρ, S, env, he, hcc, hq⟩ => wpAny_Try_except ?_⟩
  have post : PostS p ρ H (wKeep f i j W D.nx) D (b env S) := by
    unfold tryS at hq
    cases q : b env S with
    | exc k fl env' S' =>
      rw [q] at hq
      intro ρ1 H1 σ1 cls dd x1 c1 e1 r1
      obtain ⟨C, m1, m2, _⟩ := r1.1
      cases z : cat k with
      | none => simp only [z] at hq; exact hq.elim
      | some o =>
        refine ⟨o, by rw [m2]; exact hcat k C o z m1, fun eo a na => ?_, fun eo => ?_⟩
        · subst eo
          simp only [z] at hq
          have x2 := ext_new (p := p) (ρ := ρ1) (o := ExV cls dd a) na
          exact hq ρ1 _ _ (x1.trans x2) (c1.new na) (envR_keep (e1.mono x2) (exo_of (c1.fresh na) r1 na))
        · subst eo
          simp only [z] at hq
          exact hq ρ1 H1 σ1 cls dd x1 c1 e1 r1
    | nx env' S' => rw [q] at hq; exact hq
    | rt d S' => rw [q] at hq; exact hq
    | bk env' S' => rw [q] at hq; exact hq
    | ct env' S' => rw [q] at hq; exact hq
    | bad => rw [q] at hq; exact hq
  refine wpAny_mono ((hb (wKeep f i j W D.nx) (X.pn ++ pins) (fun e s₁ => wpAny (model X.prog X.w) X.A (noteFrame e X.env) (fun _ s₂ => wpAny (model X.prog X.w) X.A (setFlight e none) (fun _ s₃ =>
    wpAny (model X.prog X.w) X.A (handleBy e X.env [.ExceptHandler (some t) (some n) [.Assign [.Name y p1] (.Name n p2) p3] pos']) (SP X pins D) X.xe s₃) X.xe s₂) X.xe s₁) (fun u s' air => ?_) PassesOwn.looking).run [] s σ H D (I.toTry _) ⟨ρ, S, env, he, hcc, post⟩) (fun fl s1 hsp => ?_) fun _ _ z => z
  · obtain ⟨a, B, sI, pins', σ', H', cls, d, rfl, J, nb, up, sky, na, os, ag, w⟩ := air
    have hfr : X.A.frames = some (X.env :: X.outer) := by rw [I.ok.frames, hs]
    refine Sky.land Zc.steady hfr hf (by rw [← hs]; exact sky) fun h3 fl3 up3 => ?_
    exact keep_clause hs hf hex hN hi hn hdn hj hy ht tk (J.ofTry I.ok) nb (up.trans up3) (by rw [hs]; exact fl3) na os ag w
  · cases fl with
    | next => obtain ⟨σ', H', J, q⟩ := hsp; exact wpAny_execs_nil ⟨σ', H', J.ofTry I.ok, q⟩
    | ret u => obtain ⟨v, σ', H', J, r, q⟩ := hsp; exact ⟨v, σ', H', J.ofTry I.ok, r, q⟩
    | brk => obtain ⟨σ', H', J, q⟩ := hsp; exact ⟨σ', H', J.ofTry I.ok, q⟩
    | cont => obtain ⟨σ', H', J, q⟩ := hsp; exact ⟨σ', H', J.ofTry I.ok, q⟩
end
end Mn

namespace Mn
open PySem PySem.Spec PyProof.Rows L2

/-! fields of instances and of caught exceptions -/
section
variable {X : Cx} {p : Pm} {W : WX} {pins : List (Addr × Obj)} {σ : L2.St} {H : Hp} {s : Shared} {ρ : List Addr} {S : Store} {o e : Expr} {f : Str} {ro re : DE} {pos pos' : Pos}
def fldD (f : Str) (d : D) (S : Store) : Option (D × Store) := match insOf S d with
  | some (_, fs) => (fs.lookup f).map fun x => (x, S)
  | none => match d with
    | .exo _ ks vs => ((ks.zip vs).lookup f).map fun x => (x, S)
    | _ => none
theorem lookup_key {α : Type} {f : Str} : ∀ {fs : List (Str × α)} {d : α}, fs.lookup f = some d → f ∈ fs.map (·.1)
  | [], d, h => by cases h
  | (k, x) :: r, d, h => by
    by_cases q : f = k
    · rw [q]; exact List.mem_cons_self
    · have e : (f == k) = false := by simpa using q
      have e1 : ((k, x) :: r).lookup f = r.lookup f := by simp [List.lookup, e]
      rw [e1] at h
      exact List.mem_cons_of_mem _ (lookup_key h)
theorem zip_lookup {f : Str} : ∀ {ks : List Str} {vs : List D} {xs : List V} {d : D}, VRs p ρ H vs xs → (ks.zip vs).lookup f = some d → f ∈ ks ∧ ∃ v, (ks.zip xs).lookup f = some v ∧ VR p ρ H d v
  | [], vs, xs, d, _, h => by simp [List.lookup] at h
  | k :: ks, [], xs, d, _, h => by simp [List.lookup] at h
  | k :: ks, x :: vs, xs, d, ⟨v, r, e, h1, h2⟩, h => by
    subst e
    by_cases q : f = k
    · subst q
      simp [List.lookup] at h
      subst h
      exact ⟨List.mem_cons_self, v, by simp [List.lookup], h1⟩
    · have e : (f == k) = false := by simpa using q
      simp only [List.zip_cons_cons, List.lookup, e] at h ⊢
      obtain ⟨a1, a2⟩ := zip_lookup h2 h
      exact ⟨List.mem_cons_of_mem _ a1, a2⟩
/-- an exception told of, as the machine has it -/
theorem exo_at {k : Str} {ks : List Str} {vs : List D} {v : V} (hpK : p.K = X.K) (I : Inv X pins σ H s) (h : VR p ρ H (.exo k ks vs) v) :
    ∃ a C dd oe od xs, v = .ref a ∧ p.mg k = some (.ref C) ∧ ExcF X.K C ∧ NoAts X.K C ks ∧ PySem.W.InstAt s.heap a oe C od ∧ VRs p ρ H vs xs ∧ ((ks = [] ∧ dd = none) ∨ ∃ d mA, dd = some d ∧ s.heap.Ns1 d mA ∧ od = s.heap.get? d ∧ ∀ f, RelO ((ks.zip xs).lookup f) (mA f)) := by
  obtain ⟨a, C, dd, rfl, _, ⟨m1, m2, m3⟩, h1, xs, h2, h3, h4⟩ := h
  obtain ⟨⟨oe, fv, g1, g2, g3, g4⟩, _⟩ := I.hok a _ h1
  have no : PySem.W.notCls oe = true := by unfold PySem.W.notCls; rw [g4]
  rcases h4 with ⟨e1, e2⟩ | ⟨d, e1, e2⟩
  · exact ⟨a, C, dd, oe, none, xs, rfl, m1, hpK ▸ m2, hpK ▸ m3, ⟨g1, g2, no, by rw [g3, e2]; exact True.intro⟩, h2, .inl ⟨e1, e2⟩⟩
  · obtain ⟨mA, hn, hr⟩ := I.hok d _ e2
    obtain ⟨od, es, ep, q, q2⟩ := id hn
    exact ⟨a, C, dd, oe, some od, xs, rfl, m1, hpK ▸ m2, hpK ▸ m3, ⟨g1, g2, no, by rw [g3, e1]; exact q⟩, h2, .inr ⟨d, mA, e1, hn, q.symm, hr⟩⟩
theorem ge_fld (hpK : p.K = X.K) (ho : PE X o (GE p W ro)) (hsup : noSuper o = true) : PE X (.Attribute o f pos) (GE p W fun env S => (ro env S).bind fun d S1 => lf (fldD f d S1)) := by
  refine ⟨fun pins s σ H Q I ⟨ρ, S, env, he, hcc, hq⟩ => attr_of (base_plain hsup _) (pe_run ho I he hcc hq fun d S1 ρ1 H1 v u s1 x1 c1 q1 r1 I1 p1 => ?_)⟩
  obtain ⟨d', S', e1, k⟩ := post_lf p1
  unfold fldD at e1
  split at e1
  · rename_i c fs hi
    obtain ⟨a, C, dx, ws, rfl, m1, m2, m3, h1, h2⟩ := ins_of c1 q1 hi
    obtain rfl : u = Value.ref a := r1
    cases z : fs.lookup f with
    | none => rw [z] at e1; cases e1
    | some y =>
      rw [z] at e1
      cases e1
      rcases h2.lookup (f := f) with ⟨y1, _⟩ | ⟨d2, w, y1, y2, y3⟩
      · rw [z] at y1; cases y1
      · rw [z] at y1
        cases y1
        exact getattr_ok I1 h1 (hpK ▸ m2) (hpK ▸ m3 f (lookup_key z)) y2 fun u2 s2 I2 r2 => ⟨w, H1, I2, r2, k.here c1 y3⟩
  · split at e1
    · rename_i kk ks vs hh
      cases z : (ks.zip vs).lookup f with
      | none => rw [z] at e1; cases e1
      | some y =>
        rw [z] at e1
        cases e1
        obtain ⟨a, C, dd, oe, od, xs, rfl, m1, m2, m3, J, h2, h4⟩ := exo_at hpK I1 q1
        obtain rfl : u = Value.ref a := r1
        obtain ⟨y1, w, y2, y3⟩ := zip_lookup h2 z
        rcases h4 with ⟨e1, e2⟩ | ⟨dx, mA, e1, e2, e3, e4⟩
        · rw [e1] at y1; cases y1
        · obtain ⟨u2, g1, g2⟩ := RelO.some_of (v := w) (o := mA f) (by rw [← y2]; exact e4 f)
          obtain ⟨od2, g3, g4⟩ := lookIn_ns e2
          rw [g3] at e3
          subst e3
          exact HandSPX.exc_get I1.kIn J m2.ga m2.gg m2.sub (PySem.W.findObj_own m2.hd (m3 f y1) rfl (by rw [g4, g1])) (handed_of g2) ⟨w, H1, I1.tok _, g2, k.here c1 y3⟩
    · cases e1
/-- o.f = e in an instance of the class c -/
def putD (f : Str) (v : D) : List (Str × D) → List (Str × D)
  | [] => [(f, v)]
  | (g, x) :: r => if g = f then (g, v) :: r else (g, x) :: putD f v r
theorem putD_ok {d : D} {v : V} (q : VR p ρ H d v) : ∀ {fs : List (Str × D)} {ws : List (Str × V)}, FRs p ρ H fs ws → FRs p ρ H (putD f d fs) (putF f v ws)
  | [], ws, h => by rw [show ws = [] from h]; exact ⟨v, [], rfl, q, rfl⟩
  | (k, x) :: r, ws, ⟨y, t, e, h1, h2⟩ => by
    subst e
    unfold putD putF
    split
    · exact ⟨v, t, rfl, q, h2⟩
    · exact ⟨y, _, rfl, h1, putD_ok q h2⟩
theorem putD_keys {d : D} {g : Str} : ∀ {fs : List (Str × D)}, g ∈ (putD f d fs).map (·.1) → g = f ∨ g ∈ fs.map (·.1)
  | [], h => by simpa [putD] using h
  | (k, x) :: r, h => by
    unfold putD at h
    split at h
    · exact .inr h
    · rcases List.mem_cons.mp h with h | h
      · exact .inr (by rw [h]; exact List.mem_cons_self)
      · exact (putD_keys h).imp id fun z => List.mem_cons_of_mem _ z
theorem FRs.length {fs : List (Str × D)} {ws : List (Str × V)} (h : FRs p ρ H fs ws) : fs.length = ws.length := by
  induction fs generalizing ws with
  | nil => rw [show ws = [] from h]; rfl
  | cons a r ih => obtain ⟨k, d⟩ := a; obtain ⟨x, t, e, _, h2⟩ := h; rw [e, List.length_cons, List.length_cons, ih h2]
theorem ins_loc {S : Store} {n : Nat} {c : Str} {fs : List (Str × D)} (h : insOf S (.loc n) = some (c, fs)) : S[n]? = some (.ins c fs) := by
  have h : (match S[n]? with
    | some (.ins c fs) => some (c, fs)
    | _ => none) = some (c, fs) := h
  split at h
  · rename_i z; cases h; exact z
  · cases h
def stfD (c f : Str) (d v : D) (S : Store) : Option Store := match d, insOf S d with
  | .loc n, some (c', fs) => if c' = c ∧ fs.length < 1000 then some (S.set n (.ins c (putD f v fs))) else none
  | _, _ => none
theorem stf_run {c : Str} (hpK : p.K = X.K) (hno : ∀ C, p.mg c = some (.ref C) → NoAttr X.K C f) {x y : V} {ov u : Value} {S' : Store} {d v : D} {Q : Unit → Shared → Prop} {A : Around} {E : Value → Shared → Prop} (I : Inv X pins σ H s) (hc : Conc p ρ S H) (hx : VR p ρ H d x) (hy : VR p ρ H v y)
    (rx : RelV x ov) (ry : RelV y u) (h : stfD c f d v S = some S') (k : ∀ H' s', Ext p ρ H ρ H' → Conc p ρ S' H' → Inv X pins σ H' s' → Q () s') : wpAny (model X.prog X.w) A (setAttr ov f u) Q E s := by
  unfold stfD at h
  split at h
  · rename_i n c' fs hi
    split at h
    · rename_i hl
      obtain ⟨rfl, hl⟩ := hl
      cases h
      have hS := ins_loc hi
      obtain ⟨a, rfl, ha⟩ := hx
      obtain rfl : ov = Value.ref a := rx
      obtain ⟨C, dx, ws, ⟨m1, m2, m3⟩, h1, h2⟩ := hc.cell n a _ ha hS
      refine setattr_ok I h1 (hpK ▸ m2) (hno C m1) (by rw [← h2.length]; exact hl) ry fun s' J => ?_
      have hE : Ext p ρ H ρ (upd H a (.ins C dx (putF f y ws))) := ext_mut (List.mem_of_getElem? ha) h1 True.intro
      obtain ⟨c2, x2⟩ := hc.put (o := .ins C dx (putF f y ws)) (c' := .ins c' (putD f v fs)) ha hS ⟨C, dx, _, ⟨m1, m2, fun g hg => (putD_keys hg).elim (fun z => by rw [z, hpK]; exact hno C m1) fun z => m3 g z⟩, upd_same, putD_ok (VR.mono hE _ _ hy) (FRs.mono hE _ _ h2)⟩
      exact k _ s' x2 c2 J
    · cases h
  · cases h
def stfS (c f : Str) (ro re : DE) : DS := fun env S => (re env S).toS env fun v S1 => (ro env S1).toS env fun d S2 => match stfD c f d v S2 with
  | some S3 => .nx env S3
  | none => .bad
theorem post_toS {H : Hp} {E : Ends} {α : Type} {r : Rs α} {env : Env} {σ : L2.St} {g : α → Store → RS} (he : EnvR p ρ H env σ) (h : PostS p ρ H W E (r.toS env g)) :
    Post p ρ H (fun _ _ _ _ => True) (fun cls dd _ H' => W cls dd σ H') (r.bind fun a S => .ok a S) := by
  cases r with
  | ok a S => exact fun _ _ _ _ => True.intro
  | exc c fl S => exact fun ρ' H' cls dd x cc q => h ρ' H' σ cls dd x cc (he.mono x) q
  | bad => exact h
/-- an expression ahead of the rest of a statement -/
theorem pe_runS {P : Value → Shared → Prop} {E : Ends} {g : D → Store → RS} {env : Env} (ha : PE X e (GE p W re)) (I : Inv X pins σ H s) (he : EnvR p ρ H env σ) (hc : Conc p ρ S H) (hp : PostS p ρ H W E ((re env S).toS env g))
    (k : ∀ d S' ρ' H' v u s', Ext p ρ H ρ' H' → Conc p ρ' S' H' → VR p ρ' H' d v → RelV v u → Inv X pins σ H' s' → PostS p ρ' H' W E (g d S') → P u s') : wpAny (model X.prog X.w) X.A (eval e X.env) P X.xe s := by
  refine thn (ha.run pins s σ H (fun v H' => ∃ d S' ρ', Ext p ρ H ρ' H' ∧ Conc p ρ' S' H' ∧ VR p ρ' H' d v ∧ PostS p ρ' H' W E (g d S')) I ⟨ρ, S, env, he, hc, PostS.turn he hp fun d S' ρ' H' x c q v hv => ⟨d, S', ρ', x, c, hv, q⟩⟩) fun u s' hh => ?_
  obtain ⟨v, H', I', r, d, S', ρ', x, c, hv, q⟩ := hh
  exact k d S' ρ' H' v u s' x c hv r I' q
theorem gs_stf {c : Str} (hpK : p.K = X.K) (hno : ∀ C, p.mg c = some (.ref C) → NoAttr X.K C f) (ho : PE X o (GE p W ro)) (he : PE X e (GE p W re)) (hs : swapsWith e (some (.Attribute o f pos')) pos.line X.env = pure false) :
    PS X (.Assign [.Attribute o f pos'] e pos) (GS p W (stfS c f ro re)) := by
  refine ⟨fun pins s σ H E I ⟨ρ, S, env, hen, hcc, hq⟩ => plainObj_wpAny_Assign_Attribute (pe_runS he I hen hcc hq fun v S1 ρ1 H1 y u s1 x1 c1 q1 r1 I1 p1 => pe_runS ho I1 (hen.mono x1) c1 p1 fun d S2 ρ2 H2 x ov s2 x2 c2 q2 r2 I2 p2 => ?_) hs⟩
  cases z : stfD c f d v S2 with
  | none => rw [z] at p2; exact p2.elim
  | some S3 =>
    rw [z] at p2
    exact stf_run hpK hno I2 c2 q2 (VR.mono x2 _ _ q1) r2 r1 z fun H3 s3 x3 c3 I3 => ⟨σ, H3, I3, p2 ρ2 H3 σ x3 c3 (((hen.mono x1).mono x2).mono x3)⟩
/-- o.f op= e -/
def augfS (c f : Str) (g : D → D → Store → Option (D × Store)) (ro re : DE) : DS := fun env S => (ro env S).toS env fun d S1 => match insOf S1 d with
  | some (_, fs) => match fs.lookup f with
    | some x => (re env S1).toS env fun y S2 => match g x y S2 with
      | some (z, S3) => match stfD c f d z S3 with
        | some S4 => .nx env S4
        | none => .bad
      | none => .bad
    | none => .bad
  | none => .bad
theorem gs_augf {c : Str} {op : Operator} {g : D → D → Store → Option (D × Store)} (hpK : p.K = X.K) (hno : ∀ C, p.mg c = some (.ref C) → NoAttr X.K C f) (hg : OpD X p (inplaceOp op) g) (ho : PE X o (GE p W ro)) (he : PE X e (GE p W re)) :
    PS X (.AugAssign (.Attribute o f pos') op e pos) (GS p W (augfS c f g ro re)) := by
  refine ⟨fun pins s σ H E I ⟨ρ, S, env, hen, hcc, hq⟩ => wpAny_AugAssign_AttributeAny (pe_runS ho I hen hcc hq fun d S1 ρ1 H1 x ov s1 x1 c1 q1 r1 I1 p1 => ?_)⟩
  cases hi : insOf S1 d with
  | none => simp only [hi] at p1; exact p1.elim
  | some cf =>
    obtain ⟨c', fs⟩ := cf
    simp only [hi] at p1
    cases hf : fs.lookup f with
    | none => simp only [hf] at p1; exact p1.elim
    | some z =>
      simp only [hf] at p1
      obtain ⟨a, C, dx, ws, rfl, m1, m2, m3, h1, h2⟩ := ins_of c1 q1 hi
      obtain rfl : ov = Value.ref a := r1
      rcases h2.lookup (f := f) with ⟨y1, _⟩ | ⟨d2, w, y1, y2, y3⟩
      · rw [hf] at y1; cases y1
      · rw [hf] at y1
        cases y1
        refine getattr_ok I1 h1 (hpK ▸ m2) (hpK ▸ m3 f (lookup_key hf)) y2 fun u2 s2 I2 r2 => pe_runS he I2 (hen.mono x1) c1 p1 fun y S3 ρ3 H3 yv yu s3 x3 c3 q3 r3 I3 p3 => ?_
        cases hz : g z y S3 with
        | none => rw [hz] at p3; exact p3.elim
        | some zs =>
          obtain ⟨z', S4⟩ := zs
          rw [hz] at p3
          dsimp only at p3
          cases hw : stfD c f d z' S4 with
          | none => rw [hw] at p3; exact p3.elim
          | some S5 =>
            rw [hw] at p3
            refine thn (hg pins s3 σ H3 w yv u2 yu (fun v H' => ∃ ρ', Ext p ρ3 H3 ρ' H' ∧ Conc p ρ' S4 H' ∧ VR p ρ' H' z' v) ρ3 S3 z y z' S4 I3 c3 (VR.mono x3 _ _ y3) q3 r2 r3 hz fun ρ' H' x c v r => ⟨ρ', x, c, r⟩) fun u4 s4 hh => ?_
            obtain ⟨v4, H4, I4, r4, ρ4, x4, c4, q4⟩ := hh
            exact stf_run hpK hno I4 c4 (VR.mono x4 _ _ (VR.mono x3 _ _ q1)) q4 rfl r4 hw fun H5 s5 x5 c5 I5 => ⟨σ, H5, I5, p3 ρ4 H5 σ (x4.trans x5) c5 ((((hen.mono x1).mono x3).mono x4).mono x5)⟩
/-! raise C('..'), isinstance(e, C) -/
def raiseS (c : Str) : DS := fun env S => .exc c [] env S
theorem gs_raise {x m : Str} {C : Addr} {j : Nat} {q1 q2 q3 q4 : Pos} (hpK : p.K = X.K) (hpM : p.mg = X.mg) (hc : X.calm = true) (tk : Takes X W) (q : PySem.W.excIn X.K C [.type "ValueError", .type "Exception", .type "BaseException", .type "object"] "ValueError.__new__" = true) (gC : X.mg x = some (.ref C)) (kC : PySem.W.keepIn X.K (.ref C) = true)
    (ef : ExcF X.K C) (ty : PySem.W.typeIn X.K (.ref C) = some (.type "type")) (hg : Gl X x) (hdb : (x == ("__debug__" : Str)) = false) : PS X (.Raise (some (.Call (.Name x q1) [.Constant (.str m) j q2] [] q3)) none q4) (GS p W (raiseS x)) := by
  refine ⟨fun pins s σ H E I ⟨ρ, S, env, he, hcc, hq⟩ => (ps_raise hc tk (pmk_own PySem.F.excBase_ValueError q gC kC (raises_own ef.sub ty) hg hdb)).run pins s σ H E I ?_⟩
  exact hq ρ H σ (.ref C) none (.refl ..) hcc he ⟨⟨C, by rw [hpM]; exact gC, rfl, hpK ▸ ef, fun f hf => by cases hf⟩, rfl⟩
/-- a class as a value -/
def clsB : D → D → Bool
  | .gl x, .gl y => decide (x = y)
  | .ty n, .ty m => decide (n = m)
  | _, _ => false
def ClsV (mg : Str → Option Value) : D → Value → Prop
  | .gl x, u => mg x = some u
  | .ty n, u => u = .type n
  | _, _ => False
def isxG (tab : List (Str × Bool)) (c : D) (ds : List D) (S : Store) : Option (D × Store) := match ds with
  | [.exo k _ _, d] => if clsB d c = true then (tab.lookup k).map fun b => (.bl b, S) else none
  | _ => none
theorem cd_isx {tab : List (Str × Bool)} {c : D} (hpK : p.K = X.K) (ht : ∀ k b C u, tab.lookup k = some b → p.mg k = some (.ref C) → ClsV p.mg c u → PySem.W.kitOne X.K (.ref C) u = some b) : CallD X p (.builtin "isinstance") (isxG tab c) := by
  intro pins s σ H xs us Q ρ S ds d' S' I hc hx rx hg k
  unfold isxG at hg
  split at hg
  · rename_i kk ks vs d
    split at hg
    · rename_i hb
      cases z : tab.lookup kk with
      | none => rw [z] at hg; cases hg
      | some b =>
        rw [z] at hg
        cases hg
        obtain ⟨x, t, rfl, a1, y, t2, rfl, a2, e3⟩ := hx
        obtain rfl : t2 = [] := e3
        cases rx with
        | @cons _ u1 _ ur r1 rr =>
          cases rr with
          | @cons _ u2 _ ur2 r2 rr2 =>
            cases rr2
            have cv : ClsV p.mg c u2 := by
              unfold clsB at hb
              split at hb
              · rename_i x1 y1
                cases of_decide_eq_true hb
                obtain ⟨a, rfl, ha⟩ := a2
                obtain rfl : u2 = Value.ref a := r2
                exact ha
              · rename_i n1 m1
                cases of_decide_eq_true hb
                cases a2
                exact r2
              · cases hb
            obtain ⟨a, C, dd, oe, od, xs, rfl, m1, m2, m3, J, h2, h4⟩ := exo_at hpK I a1
            obtain rfl : u1 = Value.ref a := r1
            exact PySem.W.kia_one (PySem.W.kitx_exc m2.cl m2.ga m2.gg m2.sub m2.ha m2.hn m2.ht m2.hm) I.kIn J (ht kk b C u2 z m1 cv) (fun z => nomatch z) fun tk => ⟨.bl b, H, I.tok tk, rfl, k.here hc rfl⟩
    · cases hg
  · cases hg
end
end Mn

namespace Mn
open PySem PySem.Spec PyProof.Rows L2

/-! {e for target in source}: a set of keys (ints and texts) -/
section
variable {X : Cx} {pins : List (Addr × Obj)} {σ σ' : L2.St} {H3 H' : Hp} {s3 s' : Shared} {scope : Scope} {ce : PySem.Env} {fp : List Addr}
/-- in the block the iterator's own objects may turn -/
theorem blk_turn (I : Inv (X.blk s3 H3 scope ce fp) [] σ' H' s') (hn : ∀ b ∈ fp, H' b = none) : ∀ b ∈ fp, FpOk (X.blk s3 H3 scope ce fp) [] H' b := fun b hb =>
  ⟨hn b hb, (I.ok.exf b hb).1, I.ok.exfs b hb, .inl hb, fun x c e => (I.ok.exf b hb).2 x c e, fun p hp => by cases hp⟩
/-- behind the block the def stands as ahead of it -/
theorem blk_leave (I : Inv X pins σ H3 s3) (hf : ∀ b ∈ fp, FpOk X pins H3 b) (J : Inv (X.blk s3 H3 scope ce fp) [] σ' H' s') : Inv X pins σ H' s' :=
  I.call' (ch := fp) J.os J.base J.hok J.bare fun b hb => ⟨(hf b hb).2.2.2.1, (hf b hb).2.1, (hf b hb).2.2.2.2.1, (hf b hb).2.2.2.2.2⟩
end
abbrev freshSet (w : World) : Obj := { cls := .type "set", dict := none, data := .set #[] 0 (.fresh 0 0 (!w.params.followText "set-order")) }
theorem setK_fresh (P : Program) (w : World) (h : Heap) : (h.push (freshSet w)).SetOf (mixKind P w) h.objs.size (fun _ => false) 0 :=
  ⟨_, #[], 0, _, Heap.get?_push_size _ rfl, ⟨rfl, rfl, rfl⟩, rfl, (fun e he => by simp at he), (fun k => by simp), (by decide), (by rfl), rfl⟩
/-- the wishes of a set comprehension: W by the turn and a measure -/
def tSk (P : Program) (w : World) (wi : TI) (g : TG) (te : TE) (vs : List Nat) : TE := fun σ H Q => wi σ H fun J H1 => ∀ D, H1 D = none → ∃ W : Nat → Nat → Hp → Prop, (∃ m, W 0 m (upd H1 D (SetK P w D (fun _ => false) 0))) ∧ ∀ i m H, W i m H →
  (J.stop i H ∧ Q (.ref D) H) ∨ (J.go i H ∧ ∀ x H', J.yld i H x H' → g x (wipe σ vs) H' fun σ2 H2 => wipe σ2 vs = wipe σ vs ∧ te σ2 H2 fun y H4 =>
    ∃ (k : Key) (S : Key → Bool) (n : Nat), y = kV k ∧ H4 D = some (SetK P w D S n) ∧ n + 1 < scanBound ∧ ∃ m', m' < m ∧ W (i + 1) m' (upd H4 D (SetK P w D (fun j => S j || decide (j = k)) (if S k = true then n else n + 1))))
/-- the loop's standing: turn i of the walk, m turns left at most -/
def SkAt (X : Cx) (s3 : Shared) (H3 : Hp) (scope : Scope) (ce : PySem.Env) (fp : List Addr) (σw : L2.St) (tn : Nat → Heap → Prop) (W : Nat → Nat → Hp → Prop) (m : Nat) (s : Shared) : Prop :=
  ∃ i H, Inv (X.blk s3 H3 scope ce fp) [] σw H s ∧ tn i s.heap ∧ (∀ b ∈ fp, H b = none) ∧ W i m H
section
variable {X : Cx} {pins : List (Addr × Obj)} {σ : L2.St} {H3 : Hp} {s3 : Shared} {scope : Scope} {ce : PySem.Env} {fp : List Addr} {tn : Nat → Heap → Prop} {J : It} {it D : Addr} {elt tg iter : Expr} {g : TG} {te : TE} {vs : List Nat} {pos : Pos} {Q : VK} {R : Result → Shared → Prop} {W : Nat → Nat → Hp → Prop}
/-- a turn that went on: the member is added, the next turn stands -/
theorem sk_added {σ2 : L2.St} {H4 : Hp} {s4 s7 : Shared} {u : Value} {y : V} {i m : Nat} {F : Value → Shared → Prop} (T : Turn X.prog X.w X.K tg J fp it tn) (I : Inv (X.blk s3 H3 scope ce fp) ([] ++ pinsAt fp s7.heap) σ2 H4 s4) (r : RelV y u) (st : tn (i + 1) s7.heap) (hw : wipe σ2 vs = wipe σ vs)
    (h : ∃ (k : Key) (S : Key → Bool) (n : Nat), y = kV k ∧ H4 D = some (SetK X.prog X.w D S n) ∧ n + 1 < scanBound ∧ ∃ m', m' < m ∧ W (i + 1) m' (upd H4 D (SetK X.prog X.w D (fun j => S j || decide (j = k)) (if S k = true then n else n + 1)))) :
    wpAny (model X.prog X.w) X.A (call (.builtin "set.add") [.ref D, u]) (fun _ s5 => ∃ m', m' < m ∧ SkAt X s3 H3 scope ce fp (wipe σ vs) tn W m' s5) F s4 := by
  obtain ⟨k, S, n, rfl, hD, room, m', hm, w'⟩ := h
  have add := mt_saddK (X := X.blk s3 H3 scope ce fp) _ s4 σ2 H4 (.ref D) [kV k] (.ref D) [u] (fun _ H' => H' = upd H4 D (SetK X.prog X.w D (fun j => S j || decide (j = k)) (if S k = true then n else n + 1))) I rfl (.cons r .nil) ⟨D, k, S, n, rfl, rfl, hD, room, rfl⟩
  refine wpAny_mono add (fun _ s5 hs => ?_) fun _ _ z => z.elim
  obtain ⟨_, H5, I5, _, rfl⟩ := hs
  have pin : ∀ b ∈ fp, ∀ o, s7.heap.get? b = some o → s5.heap.get? b = some o ∧ (upd H4 D (SetK X.prog X.w D (fun j => S j || decide (j = k)) (if S k = true then n else n + 1))) b = none := fun b hb o e =>
    let z := I5.pin (b, o) (List.mem_append_right _ (List.mem_append_right _ (mem_pinsAt hb e)))
    ⟨z.1, z.2.1⟩
  refine ⟨m', hm, i + 1, _, (I5.unpinned (pins := [])).weak (by rw [← hw, wipe_length]) (fun j v e => by rw [← hw] at e; exact (wipe_some e).1), T.keep _ _ _ st fun b hb o e => (pin b hb o e).1, fun b hb => ?_, w'⟩
  obtain ⟨o, e, _⟩ := T.obj _ _ st b hb
  exact (pin b hb o e).2
/-- the loop -/
theorem sk_loop (hc : X.calm = true) (T : Turn X.prog X.w X.K tg J fp it tn) (pg : PG (X.blk s3 H3 scope ce fp) tg g) (pe : PE (X.blk s3 H3 scope ce fp) elt te)
    (turn : ∀ i m H, W i m H → (J.stop i H ∧ Q (.ref D) H) ∨ (J.go i H ∧ ∀ x H', J.yld i H x H' → g x (wipe σ vs) H' fun σ2 H2 => wipe σ2 vs = wipe σ vs ∧ te σ2 H2 fun y H4 =>
      ∃ (k : Key) (S : Key → Bool) (n : Nat), y = kV k ∧ H4 D = some (SetK X.prog X.w D S n) ∧ n + 1 < scanBound ∧ ∃ m', m' < m ∧ W (i + 1) m' (upd H4 D (SetK X.prog X.w D (fun j => S j || decide (j = k)) (if S k = true then n else n + 1)))))
    (done : ∀ s H, Inv (X.blk s3 H3 scope ce fp) [] (wipe σ vs) H s → Q (.ref D) H → R (.ok .next) s) {m : Nat} {s : Shared} (h : SkAt X s3 H3 scope ce fp (wipe σ vs) tn W m s) :
    codeAny (model X.prog X.w) X.A (.compLoop (.SetComp elt [⟨tg, iter, [], 0⟩] scope pos) 0 (.ref it) (.ref D) ce) R s := by
  refine PpSet.compLoopS_any (SkAt X s3 H3 scope ce fp (wipe σ vs) tn W) (fun n s5 hs => ?_) m h
  obtain ⟨i, H5, I5, st5, n5, w5⟩ := hs
  rcases turn i n H5 w5 with ⟨stop, qq⟩ | ⟨go, step⟩
  · refine thnF (T.done (X.blk s3 H3 scope ce fp) rfl rfl rfl hc i [] s5 _ H5 (fun _ _ => False) I5 (blk_turn I5 n5) st5 stop) fun r s6 hr => ?_
    obtain ⟨rfl, I6⟩ := hr
    exact done s6 H5 I6 qq
  · refine thnF (T.item (X.blk s3 H3 scope ce fp) rfl rfl rfl hc i [] s5 _ H5 (fun _ _ => False) I5 (blk_turn I5 n5) st5 go) fun r s6 hr => ?_
    obtain ⟨u, rfl, h6⟩ := hr
    refine thnF h6 fun _ s7 h7 => ?_
    obtain ⟨x, H7, I7, r7, y7, st7, n7⟩ := h7
    refine thnF (pg.run _ s7 _ H7 x u _ (I7.pinned (blk_turn I7 n7) (T.obj _ _ st7)) r7 (step x H7 y7)) fun _ s8 h8 => ?_
    obtain ⟨σ8, H8, I8, hw8, q8⟩ := h8
    rw [List.forIn_nil]
    refine wpAny_pure ?_
    rw [if_pos rfl]
    refine thnF (pe.run _ s8 σ8 H8 _ I8 q8) fun z s9 h9 => ?_
    obtain ⟨yv, H9, I9, r9, q9⟩ := h9
    exact sk_added T I9 r9 st7 hw8 q9
end
section
variable {X : Cx} {elt tg iter : Expr} {scope : Scope} {own : List (PySem.Str × Nat)} {pos : Pos} {wi : TI} {g : TG} {te : TE}
theorem pe_sk (hc : X.calm = true) (hN : X.N.Nodup) (hi : PI X tg iter wi) (ok : BlkOk X.N X.env.scope scope own)
    (hg : ∀ (s : Shared) (H : Hp) (C : Addr) (cl : List (PySem.Str × Addr)) (fp : List Addr), PG (X.blk s H scope (compEnvC scope cl C X.env) fp) tg g)
    (he : ∀ (s : Shared) (H : Hp) (C : Addr) (cl : List (PySem.Str × Addr)) (fp : List Addr), PE (X.blk s H scope (compEnvC scope cl C X.env) fp) elt te) (hs : ∀ x, foldedSetIterable iter X.env x = pure x) :
    PE X (.SetComp elt [⟨tg, iter, [], 0⟩] scope pos) (tSk X.prog X.w wi g te (own.map (·.2))) := by
  refine ⟨fun pins s σ H Q I h => ?_⟩
  have caught : ∀ y ∈ scope.names, y.2 = .free → ∃ c, X.env.cells.lookup y.1 = some c := fun y hy e => I.ok.has _ (ok.free y hy e)
  rw [PpSet.eval_SetComp]
  refine wpAny_comprehension_free (use := none) rfl hs (closure_ok caught) ok.kind (fun y hy e => by rw [ok.uniq y hy, e]) (thn (hi.run pins s σ H _ I h) fun xv s1 hx => thn hx fun itv s2 h2 => ?_)
  obtain ⟨it, fp, tn, J, H2, rfl, I2, T, st2, f2, q⟩ := h2
  refine PpSet.newSet_ok (newEnv_comp ?_)
  obtain ⟨W, ⟨m0, w0⟩, turn⟩ := q s2.heap.objs.size (I2.hok.fresh (Nat.le_refl _))
  have I3 : Inv X pins σ (upd H2 s2.heap.objs.size (SetK X.prog X.w s2.heap.objs.size (fun _ => false) 0)) { s2 with heap := s2.heap.push (freshSet X.w) } :=
    I2.laid (t' := s2.toks) (fun b o e => Heap.get?_push_of_some _ e) (Nat.le_refl _) (setK_new (setK_fresh X.prog X.w s2.heap))
  have low : ∀ b ∈ fp, b < s2.heap.objs.size := fun b hb => by obtain ⟨o, e, _⟩ := T.obj _ _ st2 b hb; exact Heap.lt_size e
  have f3 : ∀ b ∈ fp, FpOk X pins (upd H2 s2.heap.objs.size (SetK X.prog X.w s2.heap.objs.size (fun _ => false) 0)) b := fun b hb => ⟨by rw [upd_ne (Nat.ne_of_lt (low b hb))]; exact (f2 b hb).1, (f2 b hb).2⟩
  have st3 : tn 0 (s2.heap.push (freshSet X.w)) := T.keep _ _ _ st2 fun b _ o e => Heap.get?_push_of_some _ e
  have I4 := block_start I3 ok hN fun b hb => ⟨f3 b hb, by show b < (s2.heap.push (freshSet X.w)).objs.size; rw [Heap.size_push]; exact Nat.lt_succ_of_lt (low b hb)⟩
  have st4 := T.keep _ _ (pushCells ((s2.heap.push (freshSet X.w)).push { cls := .type "dict", data := .dict #[] }) scope.names) st3 fun b _ o e => pushCells_keeps _ _ _ _ (Heap.get?_push_of_some _ e)
  have loop := sk_loop (pos := pos) (iter := iter) (R := compPost (model X.prog X.w) X.A X.xe none (EP X pins σ Q) (.ref s2.heap.objs.size) (s2.heap.push (freshSet X.w)).objs.size) hc T (hg _ _ _ _ fp) (he _ _ _ _ fp) turn (fun s6 H6 I6 q6 => ?_) ⟨0, _, I4, st4, fun b hb => (f3 b hb).1, w0⟩
  · exact PpSet.codeAny_compStart_set loop (T.self X.A 0 _ _ _ st4 loop)
  · obtain ⟨m, hn, _⟩ := I6.loc
    have nC : H6 (s2.heap.push (freshSet X.w)).objs.size = none := I6.free
    have fC := I3.fpOk (H' := H6) (Nat.le_refl _) nC
    have I7 := blk_leave I3 f3 I6
    refine ⟨m, hn, fun h'' sb => ⟨.ref s2.heap.objs.size, H6, I7.turned (t' := s6.toks) (fun b o hb e => (sb.2 b hb).trans e) fC.1 fC.2.1 fC.2.2.2.1 fC.2.2.2.2.1 fC.2.2.2.2.2, rfl, q6⟩⟩
end
/-! its semantics -/
theorem Post.noxt {p : Pm} {ρ : List Addr} {H : Hp} {α γ : Type} {φ : γ → Store → List Addr → Hp → Prop} {φ' : α → Store → List Addr → Hp → Prop} {ψ ψ' : Value → Option Addr → List Addr → Hp → Prop} {r : Rs α} {f : α → Store → Rs γ} (h : Post p ρ H φ ψ ((nox r).bind f))
    (k : ∀ a S' ρ' H', Ext p ρ H ρ' H' → Conc p ρ' S' H' → Post p ρ' H' φ ψ (f a S') → φ' a S' ρ' H') : Post p ρ H φ' ψ' r := by
  cases r with
  | ok a S => exact fun ρ' H' x c => k a S ρ' H' x c (Post.ext (r := f a S) h x)
  | exc c fl S => exact h.elim
  | bad => exact h.elim
def addK (ks : List Key) (k : Key) : List Key := if hasK ks k = true then ks else ks ++ [k]
theorem hasK_add (ks : List Key) (k : Key) : hasK (addK ks k) = fun j => hasK ks j || decide (j = k) := by
  funext j
  unfold addK
  split
  · rename_i h
    by_cases e : j = k
    · subst e; rw [h]; simp
    · rw [decide_eq_false e, Bool.or_false]
  · unfold hasK
    rw [List.any_append]
    simp only [List.any_cons, List.any_nil, Bool.or_false]
    congr 1
    by_cases e : j = k
    · subst e; rfl
    · rw [decide_eq_false e, decide_eq_false (Ne.symm e)]
theorem addK_len (ks : List Key) (k : Key) : (addK ks k).length = if hasK ks k = true then ks.length else ks.length + 1 := by
  unfold addK
  split <;> simp
theorem hasK_mem {ks : List Key} {k : Key} : hasK ks k = true ↔ k ∈ ks := by
  unfold hasK
  rw [List.any_eq_true]
  exact ⟨fun ⟨x, h, e⟩ => by rw [← of_decide_eq_true e]; exact h, fun h => ⟨k, h, by simp⟩⟩
theorem addK_nodup {ks : List Key} {k : Key} (h : ks.Nodup) : (addK ks k).Nodup := by
  unfold addK
  split
  · exact h
  · rename_i n
    refine List.nodup_append.mpr ⟨h, by simp, fun x hx y hy e => n (hasK_mem.mpr ?_)⟩
    rw [List.mem_singleton.mp hy] at e
    rw [← e]; exact hx
def addS (n0 : Nat) (y : D) (S : Store) : Rs Unit := match keyOf y, S[n0]? with
  | some k, some (.set ks) => if ks.length + 1 < scanBound then .ok () (S.set n0 (.set (addK ks k))) else .bad
  | _, _ => .bad
def setL (vs : List Nat) (src : Src) (tgt : DG) (elt : DE) (n0 : Nat) : Nat → Nat → Env → Store → Rs Unit
  | 0, i, _, S => match itemAt src i S with
    | some none => .ok () S
    | _ => .bad
  | fuel + 1, i, env, S => match itemAt src i S with
    | none => .bad
    | some none => .ok () S
    | some (some x) => match tgt x (wipeE env vs) S with
      | none => .bad
      | some env1 => (nox (elt env1 S)).bind fun y S2 => (addS n0 y S2).bind fun _ S3 => setL vs src tgt elt n0 fuel (i + 1) env S3
def skE (vs : List Nat) (rs : DI) (tgt : DG) (elt : DE) : DE := fun env S => (rs env S).bind fun src S1 => (setL vs src tgt elt S1.length (srcLen src S1) 0 env (S1 ++ [.set []])).bind fun _ S2 => .ok (.loc S1.length) S2
section
variable {X : Cx} {p : Pm} {W : WX} {elt tg iter : Expr} {scope : Scope} {vs : List Nat} {pos : Pos} {rs : DI} {tgt : DG} {re : DE}
theorem setL_eq (src : Src) (n0 fuel i : Nat) (env : Env) (S : Store) : setL vs src tgt re n0 fuel i env S = match itemAt src i S with
    | none => .bad
    | some none => .ok () S
    | some (some x) => match fuel with
      | 0 => .bad
      | fuel + 1 => match tgt x (wipeE env vs) S with
        | none => .bad
        | some env1 => (nox (re env1 S)).bind fun y S2 => (addS n0 y S2).bind fun _ S3 => setL vs src tgt re n0 fuel (i + 1) env S3 := by
  cases fuel with
  | zero =>
    unfold setL
    cases itemAt src i S with
    | none => rfl
    | some o => cases o <;> rfl
  | succ n => rfl
/-- what the loop's invariant says of the new set D, at the cell n0 -/
def SkW (p : Pm) (env : Env) (σ : L2.St) (Q : VK) (W : WX) (vs : List Nat) (src : Src) (tgt : DG) (re : DE) (n0 : Nat) (J : L2.It) (D : Addr) (i m : Nat) (H : Hp) : Prop := ∃ ρ S, EnvR p ρ H env σ ∧ Conc p ρ S H ∧ ρ[n0]? = some D ∧ SrcOk p J src ρ H ∧
  Post p ρ H (QD p Q) (QX W σ) ((setL vs src tgt re n0 m i env S).bind fun _ S2 => .ok (.loc n0) S2)
theorem sk_reads {σ : L2.St} {H : Hp} {Q : VK} (h : GE p W (skE vs rs tgt re) σ H Q) : tSk p.P p.w (GI p W rs) (GG p (wipeR vs) tgt) (GE p W0 re) vs σ H Q := by
  obtain ⟨ρ, S, env, he, hc, hq⟩ := h
  refine ⟨ρ, S, env, he, hc, hq.turn fun src S1 ρ1 H1 x1 c1 p1 J hJ D hD => ?_⟩
  obtain ⟨c2, x2⟩ := c1.push (o := SetK p.P p.w D (fun _ => false) 0) (c := .set []) hD ⟨upd_same, .nil⟩
  refine ⟨SkW p env σ Q W vs src tgt re S1.length J D, ⟨srcLen src S1, ρ1 ++ [D], S1 ++ [.set []], (he.mono x1).mono x2, c2, by rw [← c1.len]; simp, hJ.mono x2, Post.ext p1 x2⟩, ?_⟩
  rintro i m H3 ⟨ρ3, S3, he3, c3, at3, hJ3, p3⟩
  rw [setL_eq] at p3
  cases q : itemAt src i S3 with
  | none => rw [q] at p3; exact p3.elim
  | some o =>
    rw [q] at p3
    cases o with
    | none => exact .inl ⟨hJ3.stop i ρ3 S3 H3 (.refl ..) c3 q, p3 ρ3 H3 (.refl ..) c3 _ ⟨D, rfl, at3⟩⟩
    | some x =>
      refine .inr ⟨hJ3.go i ρ3 S3 H3 x (.refl ..) c3 q, fun v H4 hy => ?_⟩
      obtain ⟨x4, c4, v4⟩ := hJ3.yld i ρ3 S3 H3 x v H4 (.refl ..) c3 q hy
      cases m with
      | zero => exact p3.elim
      | succ m =>
        dsimp only at p3
        cases q5 : tgt x (wipeE env vs) S3 with
        | none => rw [q5] at p3; exact p3.elim
        | some env1 =>
          rw [q5] at p3
          dsimp only at p3
          refine ⟨ρ3, S3, wipeE env vs, x, env1, (he3.mono x4).wipe vs, c4, v4, q5, fun σ2 he5 hw => ⟨?_, ρ3, S3, env1, he5, c4, ?_⟩⟩
          · have hw' : L2.wipe σ2 vs = L2.wipe (L2.wipe σ vs) vs := hw
            rw [hw', wipe_wipe]
          · have p5 : Post p ρ3 H4 (QD p Q) (QX W σ) ((nox (re env1 S3)).bind fun y S2 => (addS S1.length y S2).bind fun _ S3 => (setL vs src tgt re S1.length m (i + 1) env S3).bind fun _ S2 => .ok (.loc S1.length) S2) := by
              have p4 := Post.ext p3 x4
              cases z : nox (re env1 S3) with
              | ok a b =>
                rw [z] at p4
                have p4 : Post p ρ3 H4 (QD p Q) (QX W σ) (((addS S1.length a b).bind fun _ S3 => setL vs src tgt re S1.length m (i + 1) env S3).bind fun _ S2 => .ok (.loc S1.length) S2) := p4
                show Post p ρ3 H4 (QD p Q) (QX W σ) ((addS S1.length a b).bind fun _ S3 => (setL vs src tgt re S1.length m (i + 1) env S3).bind fun _ S2 => Rs.ok (Mn.D.loc S1.length) S2)
                cases z2 : addS S1.length a b with
                | ok c d => rw [z2] at p4; exact p4
                | exc c fl d => rw [z2] at p4; exact p4
                | bad => rw [z2] at p4; exact p4
              | exc a b c => rw [z] at p4; exact p4
              | bad => rw [z] at p4; exact p4
            refine Post.noxt p5 fun y S7 ρ7 H7 x7 c7 p7 w hw => ?_
            have at7 := x7.get (x4.get at3)
            unfold addS at p7
            split at p7
            · rename_i k ks hk hS
              obtain ⟨hset, nd⟩ := c7.cell S1.length D _ at7 hS
              split at p7
              · rename_i room
                obtain ⟨c8, x8⟩ := c7.put (o := SetK p.P p.w D (hasK (addK ks k)) (addK ks k).length) (c' := .set (addK ks k)) at7 hS ⟨upd_same, addK_nodup nd⟩
                refine ⟨k, hasK ks, ks.length, keyOf_ok hw hk, hset, room, m, Nat.lt_succ_self m, ?_⟩
                rw [← hasK_add, ← addK_len]
                exact ⟨ρ7, _, (((he3.mono x4).mono x7)).mono x8, c8, at7, ((hJ3.mono x4).mono x7).mono x8, Post.ext p7 x8⟩
              · exact p7.elim
            · exact p7.elim
theorem ge_sk {own : List (Str × Nat)} (hP : p.P = X.prog ∧ p.w = X.w) (hc : X.calm = true) (hN : X.N.Nodup) (hi : PI X tg iter (GI p W rs)) (ok : BlkOk X.N X.env.scope scope own) (hv : own.map (·.2) = vs)
    (hg : ∀ (s : Shared) (H : Hp) (C : Addr) (cl : List (Str × Addr)) (fp : List Addr), PG (X.blk s H scope (compEnvC scope cl C X.env) fp) tg (GG p (wipeR vs) tgt))
    (he : ∀ (s : Shared) (H : Hp) (C : Addr) (cl : List (Str × Addr)) (fp : List Addr), PE (X.blk s H scope (compEnvC scope cl C X.env) fp) elt (GE p W0 re)) (hs : plainX iter = true) :
    PE X (.SetComp elt [⟨tg, iter, [], 0⟩] scope pos) (GE p W (skE vs rs tgt re)) := by
  subst hv
  refine ⟨fun pins s σ H Q I h => (pe_sk hc hN hi ok hg he (fun _ => folded_plain hs _)).run pins s σ H Q I ?_⟩
  rw [← hP.1, ← hP.2]
  exact sk_reads h
end
end Mn

namespace Mn
open PySem PySem.Spec PyProof.Rows L2

/-! exceptions of own classes with an __init__ of their own -/
/-- the built-in __init__ at the bottom -/
structure IniF (B I : String) : Prop where
  slot : Slot B "__init__" I
  ent : entryFor table I = some Builtin.«BaseException.__init__»
  split : splitId I = some (B, "__init__")
  kind : builtinKind I = some .slot
  row : Manifest.signature? I = some ⟨.positional, "*", B, .self, [⟨"args", .varPos, false⟩]⟩
  star : (B != "*") = true
theorem iniF_of {B N I : String} (F : ExcCallFacts B N I) : IniF B I := ⟨F.init, F.initEntry, F.initSplit, F.initKind, F.initRow, F.noStar⟩
theorem iniKey : IniF "KeyError" "KeyError.__init__" where
  slot := Slot.of (owner := "KeyError") (n := "__init__") (by rw [typeLookup_type, builtinLookup_eq_fast]; kernel_rfl) (by decide +kernel) (by decide +kernel) (by decide +kernel) (by first | exact .inr (by decide +kernel) | exact .inl (by decide +kernel)) (by rw [isSubtype_type]; kernel_rfl)
  ent := entryFor_alias (id' := "BaseException.__init__") (by rw [fastTable_eq_tree]; kernel_rfl) (by first | decide +kernel | rfl) (by decide +kernel) (by rw [fastTable_eq_tree]; kernel_rfl)
  split := by kernel_rfl
  kind := by kernel_rfl
  row := by kernel_rfl
  star := by decide +kernel
theorem stoKey : StoreFacts "KeyError" [.type "KeyError", .type "LookupError", .type "Exception", .type "BaseException", .type "object"] "object.__setattr__" "object" where
  mro := by kernel_rfl
  slot := PySem.F.store_object.slot |> fun s => by
    first
      | exact Slot.of (owner := "object") (n := "__setattr__") (by rw [typeLookup_type, builtinLookup_eq_fast]; kernel_rfl) (by decide +kernel) (by decide +kernel) (by decide +kernel) (by first | exact .inr (by decide +kernel) | exact .inl (by decide +kernel)) (by rw [isSubtype_type]; kernel_rfl)
  entry := PySem.F.store_LookupError.entry
  kind := PySem.F.store_LookupError.kind
  split := PySem.F.store_LookupError.split
  hasOwner := by decide +kernel
  args := PySem.F.store_LookupError.args
  passes := fun self => by kernel_rfl
/-- what must be known of the class at the bottom: B, where its __new__ is O's -/
structure ExB (B O N I : String) (bm : List Value) : Prop where
  new : ∃ J bmO, ExcBaseFacts O N J bmO
  ini : IniF B I
  sto : StoreFacts B bm "object.__setattr__" "object"
  hasB : bm.contains (.type B) = true
  hasO : bm.contains (.type O) = true
  hasE : bm.contains (.type "BaseException") = true
  noA : bm.contains (.type "AttributeError") = false
  noN : bm.contains (.type "NameError") = false
theorem exB_V : ExB "ValueError" "ValueError" "ValueError.__new__" "ValueError.__init__" [.type "ValueError", .type "Exception", .type "BaseException", .type "object"] :=
  ⟨⟨_, _, PySem.F.excBase_ValueError⟩, iniF_of PySem.F.excCall_ValueError, PySem.F.store_ValueError, by decide +kernel, by decide +kernel, by decide +kernel, by decide +kernel, by decide +kernel⟩
theorem exB_R : ExB "RuntimeError" "RuntimeError" "RuntimeError.__new__" "RuntimeError.__init__" [.type "RuntimeError", .type "Exception", .type "BaseException", .type "object"] :=
  ⟨⟨_, _, PySem.F.excBase_RuntimeError⟩, iniF_of PySem.F.excCall_RuntimeError, PySem.F.store_RuntimeError, by decide +kernel, by decide +kernel, by decide +kernel, by decide +kernel, by decide +kernel⟩
theorem exB_L : ExB "LookupError" "LookupError" "LookupError.__new__" "LookupError.__init__" [.type "LookupError", .type "Exception", .type "BaseException", .type "object"] :=
  ⟨⟨_, _, PySem.F.excBase_LookupError⟩, iniF_of PySem.F.excCall_LookupError, PySem.F.store_LookupError, by decide +kernel, by decide +kernel, by decide +kernel, by decide +kernel, by decide +kernel⟩
theorem exB_O : ExB "OverflowError" "OverflowError" "OverflowError.__new__" "OverflowError.__init__" [.type "OverflowError", .type "ArithmeticError", .type "Exception", .type "BaseException", .type "object"] :=
  ⟨⟨_, _, PySem.F.excBase_OverflowError⟩, iniF_of PySem.F.excCall_OverflowError, PySem.F.store_OverflowError, by decide +kernel, by decide +kernel, by decide +kernel, by decide +kernel, by decide +kernel⟩
theorem exB_K : ExB "KeyError" "LookupError" "LookupError.__new__" "KeyError.__init__" [.type "KeyError", .type "LookupError", .type "Exception", .type "BaseException", .type "object"] :=
  ⟨⟨_, _, PySem.F.excBase_LookupError⟩, iniKey, stoKey, by decide +kernel, by decide +kernel, by decide +kernel, by decide +kernel, by decide +kernel⟩

/-! the call of such a class, up to its __init__ -/
abbrev newExcO (C t : Addr) : Obj := { cls := .ref C, data := .fields #[.ref t, .none, .none, .none, .bool false, .none] }
abbrev argsO (us : List Value) : Obj := { cls := .type "tuple", data := .seq us.toArray }
section
variable {prog : Program} {w : World} {A : Around} {E : Value → Shared → Prop} {R : Result → Shared → Prop} {h : Heap} {g : Array GenState} {d : Drawn} {t : Nat} {os : OsState}
variable {nm q : Str} {C Nn : Addr} {bs bm : List Value} {hdct : Bool} {sn : List Str} {sub : List Value} {ab : Bool} {col : Option Bool} {dd : Option Addr} {k0 k1 k2 k3 k5 : Option Value} {B O N I : String}
theorem exc_check {bm0 : List Value} (F : ExB B O N I bm0) (hT : bm.contains (.type O) = true) {us : List Value} {Q : Unit → Shared → Prop}
    (hC : h.get? C = some (excClassObj nm q C Nn bs bm hdct sn sub ab col dd k0 k1 k2 k3 k5 N)) (hq : Q () ⟨h, g, d, t, os⟩) : wpAny (model prog w) A (checkBuiltinCall N ⟨.ref C :: us, []⟩) Q E ⟨h, g, d, t, os⟩ := by
  obtain ⟨J, bmO, G⟩ := F.new
  have starred := G.noStar
  have sb : (Value.ref C :: bm).contains (.type O) = true := by rw [List.contains_cons, hT, Bool.or_true]
  simp only [checkBuiltinCall, G.newSplit, G.newKind, G.newRow]
  repeat (first
    | refine wpAny_madeBy_exc hC ?_
    | refine wpAny_staticBase_exc hC ?_
    | (refine wpAny_isSubtype_exc hC ?_; rw [sb])
    | refine wpAny_loadPart_at hC ?_
    | simp only [Bool.false_eq_true, bne_self_eq_false, if_false]
    | wp_step)
  exact hq
theorem exc_new {bm0 : List Value} (F : ExB B O N I bm0) (hT : ∀ T : String, bm.contains (.type T) = bm0.contains (.type T)) {us : List Value} (hl : us.length ≤ sizeLine)
    (hC : h.get? C = some (excClassObj nm q C Nn bs bm hdct sn sub ab col dd k0 k1 k2 k3 k5 N)) (hq : R (.ok (.ret (.ref (h.objs.size + 1)))) ⟨(h.push (argsO us)).push (newExcO C h.objs.size), g, d, t, os⟩) :
    codeAny (model prog w) A (.builtin N ⟨.ref C :: us, []⟩) R ⟨h, g, d, t, os⟩ := by
  obtain ⟨J, bmO, G⟩ := F.new
  have en := G.ends
  have s1 : (Value.ref C :: bm).contains (.type O) = true := by rw [List.contains_cons, hT, F.hasO, Bool.or_true]
  have s2 : (Value.ref C :: bm).contains (.type "AttributeError") = false := by rw [List.contains_cons, hT, F.noA]; rfl
  have s3 : (Value.ref C :: bm).contains (.type "NameError") = false := by rw [List.contains_cons, hT, F.noN]; rfl
  refine codeAny_builtinAt G.entry ?_
  unfold Builtin.«BaseException.__new__»
  refine PySem.wpAt_bind ?_
  show PySem.wpAt _ _ _ (stack >>= _) _ _ _
  refine PySem.wpAt_bind (PySem.wpAt_stack fun _ _ => PySem.wpAt_of_wpAny ?_)
  wp_walk
  refine PySem.wpAt_of_wpAny ?_
  rw [G.owner]
  repeat (first
    | (with_reducible refine wpAny_isSubtype_exc hC ?_; first | rw [s2] | rw [s3] | rw [s1])
    | with_reducible refine wpAny_madeHere_exc G.canon hC ?_
    | with_reducible refine wpAny_loadPart_at hC ?_
    | wp_step)
  show R _ _
  rw [Heap.size_push]
  exact hq
theorem exc_made {bm0 : List Value} (F : ExB B O N I bm0) (hT : ∀ T : String, bm.contains (.type T) = bm0.contains (.type T)) {us : List Value} {fI : Addr} {Q : Fin → Shared → Prop} (hl : us.length ≤ sizeLine)
    (hC : h.get? C = some (excClassObj nm q C Nn bs bm hdct sn sub ab col dd k0 k1 k2 k3 k5 N)) (hi : W.Looks (model prog w) h (typeLookup (.ref C) "__init__") (some (.ref fI))) (hb : ∀ self, W.Looks (model prog w) h (bindSpecial (.ref fI) self) (.ref fI, [self]))
    (hq : codeAny (model prog w) A (.call (.ref fI) ⟨.ref (h.objs.size + 1) :: us, []⟩) (fun r s' => match r with
      | .error e => E e s'
      | .ok (.ret v) => v = .none ∧ Q (.done (.ret (.ref (h.objs.size + 1)))) s'
      | .ok _ => False) ⟨(h.push (argsO us)).push (newExcO C h.objs.size), g, d, t, os⟩) :
    wpAny (model prog w) A (Builtin.«type.__call__» ⟨.ref C :: us, []⟩) Q E ⟨h, g, d, t, os⟩ := by
  obtain ⟨J, bmO, G⟩ := F.new
  repeat (first
    | with_reducible refine wpAny_madeBy_exc hC ?_
    | with_reducible refine wpAny_loadPart_at hC ?_
    | wp_step)
  refine codeAny_call_builtin_code (Code.quiet_builtin _ G.quiet) (exc_check F (by rw [hT]; exact F.hasO) hC (exc_new F hT hl hC ?_))
  show wpAny _ _ _ _ _ _
  have up : ∀ b o, h.get? b = some o → ((h.push (argsO us)).push (newExcO C h.objs.size)).get? b = some o := fun b o e => Heap.get?_push_of_some _ (Heap.get?_push_of_some _ e)
  have it : ((h.push (argsO us)).push (newExcO C h.objs.size)).get? (h.objs.size + 1) = some (newExcO C h.objs.size) := by heap_get
  have hC2 := up _ _ hC
  have self : (Value.ref C :: bm).contains (.ref C) = true := by simp
  unfold isInstance
  repeat (first
    | (with_reducible refine wpAny_isSubtype_exc hC2 ?_; rw [self])
    | with_reducible refine wpAny_loadPart_at it ?_
    | wp_step)
  show wpAny _ _ (typeLookup (.ref C) _) _ _ _
  refine (hi.keeps up).at (wpAny_holding (wpAny_bind (((hb (.ref (h.objs.size + 1))).keeps up).at (wpAny_bind (wpAny_call (codeAny_mono hq fun r s' z => ?_))))))
  match r, z with
  | .error _, z => exact z
  | .ok (.ret _), ⟨e, z⟩ =>
    subst e
    first
      | exact wpAny_pure (wpAny_pure z)
      | (wp_walk; exact z)
  | .ok .next, z => exact z.elim
  | .ok .brk, z => exact z.elim
  | .ok .cont, z => exact z.elim
theorem exc_call {bm0 : List Value} (F : ExB B O N I bm0) (hT : ∀ T : String, bm.contains (.type T) = bm0.contains (.type T)) {us : List Value} {fI : Addr} (hl : us.length ≤ sizeLine)
    (hC : h.get? C = some (excClassObj nm q C Nn bs bm hdct sn sub ab col dd k0 k1 k2 k3 k5 N)) (hi : W.Looks (model prog w) h (typeLookup (.ref C) "__init__") (some (.ref fI))) (hb : ∀ self, W.Looks (model prog w) h (bindSpecial (.ref fI) self) (.ref fI, [self]))
    (hq : codeAny (model prog w) (A.under (.builtin "type.__call__" ⟨.ref C :: us, []⟩)) (.call (.ref fI) ⟨.ref (h.objs.size + 1) :: us, []⟩) (fun r s' => match r with
      | .error e => R (.error e) s'
      | .ok (.ret v) => v = .none ∧ R (.ok (.ret (.ref (h.objs.size + 1)))) s'
      | .ok _ => False) ⟨(h.push (argsO us)).push (newExcO C h.objs.size), g, d, t, os⟩) :
    codeAny (model prog w) A (.call (.ref C) ⟨us, []⟩) R ⟨h, g, d, t, os⟩ := by
  have k1 := tc_lookup
  have k2 := tc_bind (.ref C)
  have ty : (⟨h, g, d, t, os⟩ : Shared).TypeIs (.ref C) "type" := ⟨_, hC, rfl⟩
  refine codeAny_of_tree ?_
  show wpAny _ _ (callAny (.ref C) _) _ _ _
  repeat (any_goals (first
    | with_reducible refine wpAny_loadPart_at hC ?_
    | assumption
    | wp_step))
  refine ⟨rfl, codeAny_call_builtin_at (Code.quiet_builtin _ (by decide +kernel)) entry_typeCall (wpAny_check_type_call_sub hC (exc_made F hT hl hC hi hb (codeAny_mono hq fun r s' z => ?_)))⟩
  match r, z with
  | .error _, z => exact z
  | .ok (.ret _), z => exact z
  | .ok .next, z => exact z
  | .ok .brk, z => exact z
  | .ok .cont, z => exact z
/-- B.__init__(e, ..): the arguments are laid anew -/
theorem exc_init {bm0 : List Value} (F : ExB B O N I bm0) (hT : ∀ T : String, bm.contains (.type T) = bm0.contains (.type T)) {e t0 : Addr} {us : List Value} (hl : us.length ≤ sizeLine)
    (hC : h.get? C = some (excClassObj nm q C Nn bs bm hdct sn sub ab col dd k0 k1 k2 k3 k5 N)) (he : h.get? e = some (newExcO C t0))
    (hq : ∀ h' t1, (∀ b o, b ≠ e → h.get? b = some o → h'.get? b = some o) → h'.get? e = some (newExcO C t1) → R (.ok (.ret .none)) ⟨h', g, d, t, os⟩) :
    codeAny (model prog w) A (.call (.builtin I) ⟨.ref e :: us, []⟩) R ⟨h, g, d, t, os⟩ := by
  have sB : (Value.ref C :: bm).contains (.type B) = true := by rw [List.contains_cons, hT, F.hasB, Bool.or_true]
  have starred := F.ini.star
  refine codeAny_call_builtin F.ini.slot.plain F.ini.ent ?_
  simp only [checkBuiltinCall, F.ini.split, F.ini.kind, F.ini.row]
  repeat (first
    | (with_reducible refine wpAny_isSubtype_exc hC ?_; rw [sB])
    | with_reducible refine wpAny_loadPart_at he ?_
    | with_reducible refine wpAny_loadPart_at hC ?_
    | wp_step)
  refine wpAny_onRaise ?_
  rw [show ∀ (a b : String) (n : Nat), Bind.check ⟨.positional, "*", B, .self, [⟨"args", .varPos, false⟩]⟩ a b n (List.map (fun x => x.fst) ({ pos := Value.ref e :: us } : Args).kw) = pure () from fun a b n => check_star_args _ _ _ _ _ _]
  refine wpAny_pure ?_
  wp_walk
  refine hq _ h.objs.size (fun b o hb ho => ?_) ?_
  · rw [Heap.get?_update_other _ _ hb.symm]
    exact Heap.get?_push_of_some _ ho
  · rw [Heap.get?_update_self _ (Heap.get?_push_of_some _ he) rfl]
    rfl
end
end Mn

namespace Mn
open PySem PySem.Spec PyProof.Rows L2

/-- what the written part says of such a class, its field f, its __init__ at fI -/
structure ExI (K : PySem.W.Frag) (C fI : Addr) (bm0 : List Value) (N : String) (f : Str) : Prop where
  q : PySem.W.excInitIn K C bm0 N = true
  ov : PySem.W.excOver K C bm0 = true
  sa : PySem.W.findIn K (.ref C) "__setattr__" = some (some (.builtin "object.__setattr__"))
  nf : PySem.W.findIn K (.ref C) f = some none
  hd : PySem.W.hasDictIn K C = true
  ini : PySem.W.findIn K (.ref C) "__init__" = some (some (.ref fI))
  fn : PySem.W.typeIn K (.ref fI) = some (.type "function")
  kp : PySem.W.keepIn K (.ref C) = true
  sub : PySem.W.subIn K (.ref C) (.type "BaseException") = some true
  ty : PySem.W.typeIn K (.ref C) = some (.type "type")
theorem any_opt {α : Type} {o : Option α} {f : α → Bool} (h : o.any f = true) : ∃ x, o = some x ∧ f x = true := by
  cases o with
  | none => cases h
  | some x => exact ⟨x, rfl, h⟩
section
variable {X : Cx} {pins : List (Addr × Obj)} {σ : L2.St} {H : Hp} {s : Shared} {a C fI : Addr} {f : Str} {y : V} {u : Value} {bm0 : List Value} {B O N I : String} {A : Around} {E : Value → Shared → Prop}
/-- self.f = y: the exception has no dict yet -/
theorem exi_store (F : ExB B O N I bm0) (T : ExI X.K C fI bm0 N f) (J : Inv X pins σ H s) (e : H a = some (exo a C none)) (ry : RelV y u) {Q : Unit → Shared → Prop}
    (h : ∀ dx s', H dx = none → dx ≠ a → Inv X pins σ (upd (upd H a (exo a C (some dx))) dx (exd dx [(f, y)])) s' → Q () s') : wpAny (model X.prog X.w) A (setAttr (.ref a) f u) Q E s := by
  obtain ⟨t1, ho⟩ := L2.exo_at J.hok e
  obtain ⟨cd, hc, hd⟩ := any_opt T.hd
  have ht : PySem.W.takerIn X.K C f = some none := by unfold PySem.W.takerIn; rw [T.nf]; rfl
  obtain ⟨hp, g, d, t, os⟩ := s
  have lt : a < hp.objs.size := Heap.lt_size ho
  refine PySem.W.set_plain J.kIn (ox := PySem.W.excObj C t1 none .none) (od := none) ⟨ho, rfl, rfl, trivial⟩ T.sa ?_
  refine PySem.W.osa_openX (s := ⟨hp, g, d, t + 1, os⟩) (od := none) F.sto J.kIn ⟨ho, rfl, rfl, trivial⟩ T.ov ht fun b => ?_
  refine wpAny_bind (wpAny_pure (wpAny_bind (PySem.W.instanceDict_exc (s := ⟨hp, g, d, t + 1, os⟩) ho (PySem.W.looks_clsIn J.kIn hc) hd ?_)))
  have at1 : (hp.push (PySem.W.dictOf [] 0)).get? a = some (PySem.W.excObj C t1 none .none) := Heap.get?_push_of_some _ ho
  refine PySem.PX.store_in_new (dx := hp.objs.size) ⟨_, #[], 0, (Heap.get?_update_ne _ _ _ _ (Nat.ne_of_gt lt)).trans (Heap.get?_push_at rfl rfl), rfl, fun x hx => by simp at hx, fun _ => rfl⟩ fun h' tk hn hs => ?_
  have keep : ∀ b o, b ≠ a → hp.get? b = some o → h'.get? b = some o := fun b o hb z => (hs.2 b (Nat.ne_of_lt (Heap.lt_size z))).trans ((Heap.get?_update_ne _ _ _ _ hb).trans (Heap.get?_push_of_some _ z))
  have now : h'.get? a = some ({ cls := .ref C, dict := some hp.objs.size, data := .fields #[.ref t1, .none, .none, .none, .bool false, .none] } : Obj) := (hs.2 a (Nat.ne_of_lt lt)).trans (Heap.get?_update_self _ at1 rfl)
  have nd : H hp.objs.size = none := J.hok.fresh (Nat.le_refl _)
  have dn : hp.objs.size ≠ a := Nat.ne_of_gt lt
  have J1 : Inv X pins σ (upd H a (exo a C (some hp.objs.size))) ⟨h', g, d, tk, os⟩ := J.write (t' := tk) (x := a) (e := a) (by rw [e]; exact True.intro) (.inl rfl) keep ⟨_, now⟩ (exo_ok now)
  have nd1 : upd H a (exo a C (some hp.objs.size)) hp.objs.size = none := by rw [upd_ne dn]; exact nd
  have J2 := J1.take (h' := h') (t' := tk) (it := hp.objs.size) (o := exd hp.objs.size [(f, y)]) (fun b o _ z => z) (J.fpOk (H' := upd H a (exo a C (some hp.objs.size))) (Nat.le_refl _) nd1)
    (exd_ok hn fun z => by
      by_cases q : z = f
      · subst q; simp [List.lookup]; exact ry
      · have q2 : (z == f) = false := by simpa using q
        simp [List.lookup, q2, q]; exact True.intro)
  exact h _ _ nd dn J2
/-- B.__init__(e, ..): nothing of it is told -/
theorem exi_init {us : List Value} {Q : Value → Shared → Prop} (F : ExB B O N I bm0) (T : ExI X.K C fI bm0 N f) (J : Inv X pins σ H s) (e : H a = some (exo a C none)) (hl : us.length ≤ sizeLine) (h : ∀ s', Inv X pins σ H s' → Q .none s') :
    wpAny (model X.prog X.w) A (call (.builtin I) (.ref a :: us)) Q E s := by
  obtain ⟨t1, ho⟩ := L2.exo_at J.hok e
  obtain ⟨nm, Nn, q, bs, bm, hdct, sn, sub, ab, col, dd, k0, k1, k2, k3, k5, hC, hT⟩ := PySem.W.excInit_of J.kIn T.q
  obtain ⟨hp, g, d, t, os⟩ := s
  refine wpAny_call (exc_init F hT hl hC ho fun h' t2 k now => h _ ?_)
  have J1 : Inv X pins σ (upd H a (exo a C none)) ⟨h', g, d, t, os⟩ := J.write (t' := t) (x := a) (e := a) (by rw [e]; exact True.intro) (.inl rfl) k ⟨_, now⟩ (exo_ok now)
  rwa [show upd H a (exo a C none) = H from funext fun b => by
    by_cases z : b = a
    · rw [z, upd_same, e]
    · exact upd_ne z] at J1
end
end Mn

namespace Mn
open PySem PySem.Spec PyProof.Rows L2

/-- where P.__init__ leads: P a class of the text, or a built-in's name -/
def InitAt (K : PySem.W.Frag) (mg : Str → Option Value) (P : Str) (I : String) : Prop :=
  (∃ CP, mg P = some (.ref CP) ∧ PySem.W.specialIn K (.ref CP) "__getattribute__" = some (some (.builtin "type.__getattribute__")) ∧ PySem.W.readsIn K CP (.type "type") = true ∧ PySem.W.findCls K (.ref CP) (.type "type") "__init__" = some (.val (.builtin I))) ∨
  (∃ T : String, mg P = none ∧ bootBuiltins P = some (.type T) ∧ typeOf (.type T) = pure (.type "type") ∧ Manifest.isStub T = false ∧ PySem.W.findCls K (.type T) (.type "type") "__init__" = some (.val (.builtin I)))
theorem init_cases {f : Flow} {P : Flow → Prop} (h1 : P .next) (h2 : P .brk) (h3 : P .cont) (h4 : ∀ u, P (.ret u)) : P f := by
  cases f with
  | next => exact h1
  | brk => exact h2
  | cont => exact h3
  | ret u => exact h4 u
section
variable {X : Cx} {pins : List (Addr × Obj)} {σ : L2.St} {H : Hp} {s : Shared} {a C fI : Addr} {f P sf yf : Str} {m : Str} {bm0 : List Value} {B O N I : String} {j : Nat} {p1 p2 p3 p4 p5 p6 p7 p8 p9 : Pos}
/-- P.__init__(self, '..') -/
theorem pe_binit (F : ExB B O N I bm0) (T : ExI X.K C fI bm0 N f) (IA : InitAt X.K X.mg P I) (hh : PySem.W.handedIn (.builtin I) = true) (hg : Gl X P) (hnm : okNm P = true) (hN : X.N[0]? = some sf) (hv : Vis X.env.scope sf) (hsf : okNm sf = true) (hl : (p2.endLine == p5.line) = true) :
    PE X (.Call (.Attribute (.Name P p1) "__init__" p2) [.Name sf p3, .Constant (.str m) j p4] [] p5) (fun σ H Q => ∃ a, σ[0]? = some (some (.ref a)) ∧ H a = some (exo a C none) ∧ Q .non H) := by
  refine ⟨fun pins s σ H Q J ⟨a, h0, e, hq⟩ => ?_⟩
  obtain ⟨d1, d2, d3⟩ := okNm_ok hnm
  obtain ⟨e1, e2, e3⟩ := okNm_ok hsf
  have rest : ∀ s1, Inv X pins σ H s1 → wpAny (model X.prog X.w) X.A (callWith p5 (Value.builtin I) [] (backTo p5 (starEach [.Name sf p3, .Constant (.str m) j p4] X.env)) (backToKw p5 (keywordEach [] X.env))) (EP X pins σ Q) X.xe s1 := fun s1 J1 => by
    refine PyProof.Rows.callWith_method1 (thn ((pa_cons (pe_var hN hv e1 e2) (pa_cons pe_str pa_nil)).run p5 pins s1 σ H (fun vs H' => H' = H ∧ vs = [.ref a, .str m]) J1 ⟨.ref a, h0, rfl, rfl⟩) fun us s2 hh2 => ?_)
    obtain ⟨vs, H2, J2, rv, e5, rfl⟩ := hh2
    rw [e5] at J2
    obtain ⟨u1, u2, rfl, r1, r2⟩ := vals2 rv
    obtain rfl : u1 = Value.ref a := r1
    exact exi_init F T J2 e (by rw [sizeLine_eq]; simp) fun s3 J3 => ⟨.non, H, J3, rfl, hq⟩
  rw [arm_eval_Call, base_plain (by rfl)]
  have form : methodCallForm ([Expr.Name sf p3, Expr.Constant (.str m) j p4].length + ([] : List Keyword).length) (backTo p5 (starEach [Expr.Name sf p3, .Constant (.str m) j p4] X.env)) (backToKw p5 (keywordEach [] X.env)) = true := by rfl
  rcases IA with ⟨CP, m1, m2, m3, m4⟩ | ⟨T', m1, m2, m3, m4, m5⟩
  · refine wpAny_bind (ld_glob J hg m1 (wpAny_bind (wpAny_standAt ?_)) d1)
    rw [mcall_line form hl]
    refine wpAny_bind (wpAny_holding (PySem.W.method_cls J.kIn m2 (PySem.W.cls_value J.kIn m3 m4 hh ?_)))
    exact rest _ (J.tok _)
  · refine wpAny_bind (ld_blt J hg m1 m2 (wpAny_bind (wpAny_standAt ?_)) d3 d1)
    rw [mcall_line form hl]
    obtain ⟨mm, fr⟩ := J.fr
    refine wpAny_bind (wpAny_holding (PySem.W.method_type fr J.ok.mod.kin m3 m4 m5 hh ?_))
    exact rest _ (J.tok _)
/-- self.f = y, in __init__ -/
theorem ps_sto (F : ExB B O N I bm0) (T : ExI X.K C fI bm0 N f) (hN : X.N[0]? = some sf) (hv : Vis X.env.scope sf) (hsf : okNm sf = true) (hN1 : X.N[1]? = some yf) (hv1 : Vis X.env.scope yf) (hyf : okNm yf = true) :
    PS X (.Assign [.Attribute (.Name sf p1) f p2] (.Name yf p3) p4) (fun D σ H => ∃ a y, σ[0]? = some (some (.ref a)) ∧ σ[1]? = some (some y) ∧ H a = some (exo a C none) ∧ ∀ dx, H dx = none → dx ≠ a → D.nx σ (upd (upd H a (exo a C (some dx))) dx (exd dx [(f, y)]))) := by
  refine ⟨fun pins s σ H D J ⟨a, y, h0, h1, e, hq⟩ => ?_⟩
  obtain ⟨d1, d2, _⟩ := okNm_ok hsf
  obtain ⟨e1, e2, _⟩ := okNm_ok hyf
  refine plainObj_wpAny_Assign_Attribute (thn ((pe_var hN1 hv1 e1 e2).run pins s σ H (fun v H' => H' = H ∧ v = y) J ⟨y, h1, rfl, rfl⟩) fun u s1 hh => ?_)
  obtain ⟨v, H1, J1, r1, rfl, rfl⟩ := hh
  refine thn ((pe_var hN hv d1 d2).run pins s1 σ H1 (fun w H' => H' = H1 ∧ w = .ref a) J1 ⟨.ref a, h0, rfl, rfl⟩) fun ov s2 hh => ?_
  obtain ⟨w, H2, J2, r2, rfl, rfl⟩ := hh
  obtain rfl : ov = Value.ref a := r2
  exact exi_store F T J2 e r1 fun dx s' n1 n2 J3 => ⟨σ, _, J3, hq dx n1 n2⟩
end
/-- what such an __init__ does -/
def spI (C : Addr) (f : Str) : Sp := fun vs H Q _ => ∃ a y, vs = [.ref a, y] ∧ H a = some (exo a C none) ∧ ∀ dx, H dx = none → dx ≠ a → Q .non (upd (upd H a (exo a C (some dx))) dx (exd dx [(f, y)]))
/-- its text -/
def iniB (P sf yf f : Str) (sc : Scope) : List Stmt → Bool
  | [.Expr (.Call (.Attribute (.Name x _) i p2) [.Name s1 _, .Constant (.str _) _ _] [] p5) _, .Assign [.Attribute (.Name s2 _) g _] (.Name y _) _] =>
    decide (x = P) && decide (i = ("__init__" : Str)) && (p2.endLine == p5.line) && decide (s1 = sf) && decide (s2 = sf) && decide (g = f) && decide (y = yf) && okNm P && okNm sf && okNm yf && decide (sc.names.lookup P = some .globalImplicit) && decide (sc.names.lookup sf = some .local) && decide (sc.names.lookup yf = some .local)
  | _ => false
theorem fn_init {P : Program} {w : World} {K : PySem.W.Frag} {mg : Str → Option Value} {base : Heap} {C fI : Addr} {fd : FuncData} {name qual Px sf yf f : Str} {params : Arguments} {body : List Stmt} {scope : Scope} {dvs : List V} {kws : List (Str × V)} {bm0 : List Value} {B O N I : String} {k : Nat}
    (FD : FunD K name qual params body scope dvs kws fI fd) (S : FnScope [sf, yf] [sf, yf] scope) (hb : iniB Px sf yf f scope body = true) (F : ExB B O N I bm0) (T : ExI K C fI bm0 N f) (IA : InitAt K mg Px I) (hh : PySem.W.handedIn (.builtin I) = true) :
    FnOk P w K mg base (L2.CX P w) (k + 1) fI fd [sf, yf] (spI C f) := by
  obtain ⟨_, _, _, _, _, _, _, cdv, _, _, rfl, look, code, _⟩ := FD.ex
  refine L2.fn_of look code S (fun vs H Q E ⟨_, _, e, _⟩ => by rw [e]; rfl) fun A outer s H vs Q E _ ⟨a, y, e, ea, hq⟩ => ?_
  subst e
  unfold iniB at hb
  split at hb
  · simp only [Bool.and_eq_true, decide_eq_true_eq] at hb
    obtain ⟨⟨⟨⟨⟨⟨⟨⟨⟨⟨⟨⟨rfl, rfl⟩, hl⟩, rfl⟩, rfl⟩, rfl⟩, rfl⟩, q1⟩, q2⟩, q3⟩, q4⟩, q5⟩, q6⟩ := hb
    refine ⟨_, pss_cons (ps_expr (pe_binit F T IA hh q4 q1 rfl (.inl q5) q2 hl) (by rfl)) (pss_cons (ps_sto F T rfl (.inl q5) q2 rfl (.inl q6) q3) pss_nil), ?_⟩
    exact ⟨a, rfl, ea, a, y, rfl, rfl, ea, hq⟩
  · cases hb

/-! raise C(e) -/
section
variable {X : Cx} {W : WX} {e : Expr} {te : TE} {C fI : Addr} {fd : FuncData} {x sf yf f : Str} {bm0 : List Value} {B O N I : String} {k : Nat} {q1 q3 q4 : Pos}
theorem pmk_exi (F : ExB B O N I bm0) (T : ExI X.K C fI bm0 N f) (Fn : FnOk X.prog X.w X.K X.mg X.base (L2.CX X.prog X.w) k fI fd [sf, yf] (spI C f)) (hr : Room (k + 1) X.A) (hs : ShpOk X.K fd [sf, yf] ⟨2, [], [.ps 0, .ps 1]⟩)
    (tk : Takes X W) (hg : Gl X x) (hm : X.mg x = some (.ref C)) (hdb : (x == ("__debug__" : Str)) = false) (he : PE X e te) (hpl : plainX e = true) :
    PMk X (.Call (.Name x q1) [e] [] q3) (fun σ H Q => tCons te tNil σ H fun vs H1 => ∃ v, vs = [v] ∧ ∀ dx, H1 dx = none → Q (.ref C) (some dx) (upd H1 dx (.xd [(f, v)]))) := by
  intro pins s σ H Q J h
  have e1 : starEach [e] X.env = (false, eval e X.env) :: starEach [] X.env := star_plain hpl
  refine wpAny_Call_Name_kw (ld_glob J hg hm ?_ hdb)
  refine PySem.W.callWith_K (h₀ := X.base) J.ok.mod.kin T.kp (thn ((pa_cons he pa_nil e1).run q3 pins s σ H (fun vs H1 => ∃ v, vs = [v] ∧ ∀ dx, H1 dx = none → Q (.ref C) (some dx) (upd H1 dx (.xd [(f, v)]))) J ?_) fun us s1 hh => ?_) e1 rfl
  · exact h
  · obtain ⟨vs, H1, J1, rv, v, rfl, q⟩ := hh
    obtain ⟨u, rfl, r⟩ := vals1 rv
    refine ⟨J1.kIn, ?_⟩
    show wpAny _ _ (call (.ref C) [u]) _ _ _
    obtain ⟨nm, Nn, qn, bs, bm, hdct, sn, sub, ab, col, dd, k0, k1, k2, k3, k5, hC, hT⟩ := PySem.W.excInit_of J1.kIn T.q
    obtain ⟨hp, g, d, t, os⟩ := s1
    have up : ∀ b o, hp.get? b = some o → ((hp.push (argsO [u])).push (newExcO C hp.objs.size)).get? b = some o := fun b o z => Heap.get?_push_of_some _ (Heap.get?_push_of_some _ z)
    have it : ((hp.push (argsO [u])).push (newExcO C hp.objs.size)).get? (hp.objs.size + 1) = some (newExcO C hp.objs.size) := by heap_get
    have na : H1 (hp.objs.size + 1) = none := J1.hok.fresh (Nat.le_succ _)
    have J2 : Inv X pins σ (upd H1 (hp.objs.size + 1) (exo (hp.objs.size + 1) C none)) ⟨(hp.push (argsO [u])).push (newExcO C hp.objs.size), g, d, t, os⟩ :=
      J1.laid (t' := t) (h' := (hp.push (argsO [u])).push (newExcO C hp.objs.size)) up (Nat.le_succ _) (exo_ok it)
    obtain ⟨_, _, gg, gV, bind, eV⟩ := hs
    have wish : spI C f (gV [V.ref (hp.objs.size + 1), v] []) (upd H1 (hp.objs.size + 1) (exo (hp.objs.size + 1) C none)) (fun y H' => y = V.non ∧ ∃ dx, H1 dx = none ∧ dx ≠ hp.objs.size + 1 ∧
        H' = upd (upd (upd H1 (hp.objs.size + 1) (exo (hp.objs.size + 1) C none)) (hp.objs.size + 1) (exo (hp.objs.size + 1) C (some dx))) dx (exd dx [(f, v)])) (WE W σ) := by
      rw [eV [V.ref (hp.objs.size + 1), v] [] rfl rfl]
      refine ⟨_, v, rfl, upd_same, fun dx n1 n2 => ⟨rfl, dx, by rw [upd_ne n2] at n1; exact n1, n2, rfl⟩⟩
    refine wpAny_call (exc_call F hT (by rw [sizeLine_eq]; simp) hC (PySem.W.looks_findIn J1.kIn T.ini) (fun self => PySem.W.bind_fn J1.kIn self T.fn)
      (codeAny_mono (Fn.run _ X.stack _ _ ⟨[Value.ref (hp.objs.size + 1), u], []⟩ (gg [Value.ref (hp.objs.size + 1), u] []) _ _ _ (hr.make C [u] []) (J2.env0.make C [u] []) (bind.to _ [Value.ref (hp.objs.size + 1), u] [] J2.kIn rfl rfl) (bind.rel (.cons (show RelV (V.ref (hp.objs.size + 1)) (Value.ref (hp.objs.size + 1)) from rfl) (.cons r .nil)) .nil) wish) fun rr s' z => ?_))
    match rr, z with
    | .error er, z => exact passAt tk σ pins _ _ er s' J2 z
    | .ok .next, z => exact False.elim z
    | .ok .brk, z => exact False.elim z
    | .ok .cont, z => exact False.elim z
    | .ok (.ret w), z =>
      obtain ⟨y, H2, os2, bare2, un2, hok2, rw2, rfl, dx, n1, n2, eH⟩ := z
      obtain ⟨h2, g2, d2, t2, os'⟩ := s'
      subst eH
      have ea : upd (upd (upd H1 (hp.objs.size + 1) (exo (hp.objs.size + 1) C none)) (hp.objs.size + 1) (exo (hp.objs.size + 1) C (some dx))) dx (exd dx [(f, v)]) (hp.objs.size + 1) = some (exo (hp.objs.size + 1) C (some dx)) := by
        rw [upd_ne (Ne.symm n2), upd_same]
      refine ⟨rw2, mk_end (raises_own T.sub T.ty) J1 (Nat.le_succ _) up un2 hok2 os2 bare2 ea upd_same n1 ?_⟩
      rw [show upd (del (upd (upd (upd H1 (hp.objs.size + 1) (exo (hp.objs.size + 1) C none)) (hp.objs.size + 1) (exo (hp.objs.size + 1) C (some dx))) dx (exd dx [(f, v)])) (hp.objs.size + 1)) dx (HO.xd [(f, v)]) = upd H1 dx (.xd [(f, v)]) from funext fun b => by
        by_cases b1 : b = dx
        · rw [b1, upd_same, upd_same]
        · rw [upd_ne b1, upd_ne b1]
          by_cases b2 : b = hp.objs.size + 1
          · rw [b2, del_same, na]
          · rw [del_ne b2, upd_ne b1, upd_ne b2, upd_ne b2]]
      exact q dx n1
end
section
variable {X : Cx} {p : Pm} {W : WX} {e : Expr} {re : DE} {C fI : Addr} {fd : FuncData} {x sf yf f : Str} {bm0 : List Value} {B O N I : String} {k : Nat} {q1 q3 q4 : Pos}
def raiseXS (c f : Str) (re : DE) : DS := fun env S => (re env S).toS env fun d S1 => .exc c [(f, d)] env S1
theorem gs_raiseX (hpK : p.K = X.K) (hpM : p.mg = X.mg) (hc : X.calm = true) (F : ExB B O N I bm0) (T : ExI X.K C fI bm0 N f) (ef : ExcF X.K C) (na : NoAttr X.K C f) (Fn : FnOk X.prog X.w X.K X.mg X.base (L2.CX X.prog X.w) k fI fd [sf, yf] (spI C f)) (hr : Room (k + 1) X.A) (hs : ShpOk X.K fd [sf, yf] ⟨2, [], [.ps 0, .ps 1]⟩)
    (tk : Takes X W) (hg : Gl X x) (hm : X.mg x = some (.ref C)) (hdb : (x == ("__debug__" : Str)) = false) (he : PE X e (GE p W re)) (hpl : plainX e = true) : PS X (.Raise (some (.Call (.Name x q1) [e] [] q3)) none q4) (GS p W (raiseXS x f re)) := by
  refine ⟨fun pins s σ H E J ⟨ρ, S, env, hen, hcc, hq⟩ => (ps_raise hc tk (pmk_exi F T Fn hr hs tk hg hm hdb he hpl)).run pins s σ H E J ⟨ρ, S, env, hen, hcc, PostS.turn hen hq fun d S1 ρ1 H1 x1 c1 p1 v hv => ⟨v, rfl, fun dx n => ?_⟩⟩⟩
  have x2 := ext_new (p := p) (ρ := ρ1) (o := .xd [(f, v)]) n
  refine p1 ρ1 _ σ _ _ x2 (c1.new n) ((hen.mono x1).mono x2) ⟨⟨C, by rw [hpM]; exact hm, rfl, hpK ▸ ef, fun g hg => ?_⟩, dx, [(f, v)], rfl, upd_same, ⟨v, [], rfl, VR.mono x2 _ _ hv, rfl⟩, c1.fresh n⟩
  rw [List.mem_singleton.mp hg]
  exact hpK ▸ na
end
end Mn

namespace Mn
open PySem PySem.Spec PyProof.Rows L2

/-! except (C, D, ..) as n -/
section
variable {M : Model} {A : Around} {E : Value → Shared → Prop} {s : Shared} {α β : Type}
theorem for_pass {u : β} {f : α → β → Sem (ForInStep β)} {Q : β → Shared → Prop} : ∀ {cs : List α}, (∀ c ∈ cs, ∀ P : ForInStep β → Shared → Prop, P (.yield u) s → wpAny M A (f c u) P E s) → Q u s → wpAny M A (forIn cs u f) Q E s
  | [], _, hq => by rw [List.forIn_nil]; exact wpAny_pure hq
  | c :: r, hf, hq => by
    rw [List.forIn_cons]
    refine wpAny_bind (hf c List.mem_cons_self _ ?_)
    exact for_pass (fun x hx => hf x (List.mem_cons_of_mem _ hx)) hq
theorem for_any {u v : β} {f : α → β → Sem (ForInStep β)} {d : α → Bool} {Q : β → Shared → Prop} : ∀ {cs : List α}, (∀ c ∈ cs, ∀ P : ForInStep β → Shared → Prop, P (if d c = true then .done v else .yield u) s → wpAny M A (f c u) P E s) → Q (if cs.any d = true then v else u) s → wpAny M A (forIn cs u f) Q E s
  | [], _, hq => by rw [List.forIn_nil]; exact wpAny_pure hq
  | c :: r, hf, hq => by
    rw [List.forIn_cons]
    refine wpAny_bind (hf c List.mem_cons_self _ ?_)
    rw [List.any_cons] at hq
    cases h : d c with
    | true => rw [h] at hq; exact wpAny_pure hq
    | false =>
      rw [h] at hq
      exact for_any (fun x hx => hf x (List.mem_cons_of_mem _ hx)) hq
end
section
variable {M : Model} {K : PySem.W.Frag}
theorem exm_each {cls : Value} : ∀ {cs : List Value} {b : Bool}, PySem.W.exmAny K cls cs = some b → ∃ d : Value → Bool, (∀ c ∈ cs, PySem.W.exmOne K cls c = some (d c)) ∧ b = cs.any d
  | cs, b, h => by
    refine ⟨fun c => (PySem.W.exmOne K cls c).getD false, ?_⟩
    induction cs generalizing b with
    | nil =>
      have e : some false = some b := h
      cases e
      exact ⟨fun c hc => by simp at hc, rfl⟩
    | cons c r ih =>
      obtain ⟨b1, d1, h1, h2, rfl⟩ := PySem.W.exmAny_cons h
      obtain ⟨a1, a2⟩ := ih d1 h2
      refine ⟨fun x hx => ?_, ?_⟩
      · rcases List.mem_cons.mp hx with rfl | hx
        · show PySem.W.exmOne K cls x = some ((PySem.W.exmOne K cls x).getD false)
          rw [h1]; rfl
        · exact a1 x hx
      · rw [List.any_cons, ← a2, h1]; rfl
theorem exm_many {cls : Value} {cs : List Value} {tp e : Addr} {b : Bool} {h : Heap} (X : K.In h) (LT : PySem.W.Looks M h (typeOf (.ref e)) cls) (hp : h.get? tp = some { cls := .type "tuple", data := .seq cs.toArray }) (hx : PySem.W.exmAny K cls cs = some b) :
    PySem.W.Looks M h (excMatches (.ref e) (.ref tp)) b := by
  intro A Q E s k q
  obtain ⟨d, hd, rfl⟩ := exm_each hx
  have tup : PySem.W.Looks M h (isInstance (.ref tp) (.type "tuple")) true := ((PySem.W.Looks.ld hp).andThen .now).andThen (PySem.W.Looks.of_pure isSubtype_tuple_tuple)
  unfold excMatches
  refine wpAny_bind ((tup.keeps k).here ?_)
  rw [if_pos rfl]
  refine wpAny_bind (wpAny_seqItems (k _ _ hp) rfl (wpAny_bind (wpAny_pure ?_)))
  refine wpAny_bind (for_pass (fun c hc P hP => ?_) ?_)
  · refine wpAny_bind (((PySem.W.exm_cls (M := M) X (hd c (by simpa using hc))).1.keeps k).here ?_)
    exact wpAny_pure hP
  · refine wpAny_bind ((LT.keeps k).here ?_)
    refine wpAny_bind (for_any (d := d) (v := (some true, ())) (fun c hc P hP => ?_) ?_)
    · refine wpAny_bind (((PySem.W.exm_cls (M := M) X (hd c (by simpa using hc))).2.keeps k).here ?_)
      cases z : d c with
      | true => rw [z] at hP; exact wpAny_pure hP
      | false => rw [z] at hP; exact wpAny_pure hP
    · have e : cs.toArray.toList.any d = cs.any d := by simp
      show wpAny _ _ _ _ _ _
      rw [Option.getD_some, e]
      cases z : cs.any d with
      | true => rw [z] at q; exact wpAny_pure q
      | false => rw [z] at q; exact wpAny_pure q
end
/-- the names of classes, in the written order -/
inductive NamesAll (X : Cx) : List Expr → List Value → Prop
  | nil : NamesAll X [] []
  | cons {x : Str} {q : Pos} {c : Value} {es : List Expr} {cs : List Value} : Names X x c → NamesAll X es cs → NamesAll X (.Name x q :: es) (c :: cs)
theorem names_run {X : Cx} {a : Addr} {oe : Obj} {pn : List (Addr × Obj)} {σ : L2.St} {H : Hp} {s : Shared} {B : Around} {E : Value → Shared → Prop} {pos : Pos} (I : Inv (X.suite a ((a, oe) :: pn)) [] σ H s) (hB : B = X.A.mark (some (.ref a))) : ∀ {es : List Expr} {cs : List Value}, NamesAll X es cs → ∀ {P : List Value → Shared → Prop}, P cs s → wpAny (model X.prog X.w) B (spliced (backTo pos (starEach es X.env))) P E s
  | _, _, .nil, P, h => wpAny_items_nil h
  | _, _, .cons hc r, P, h => by
    subst hB
    have tail := names_run (pos := pos) (E := E) I rfl r (P := fun vs s2 => P (_ :: vs) s2) h
    refine wpAny_items_cons ?_
    obtain ⟨hg, hd, m | ⟨m, hv, hn⟩⟩ := hc
    · exact ld_glob (X := X.suite a ((a, oe) :: pn)) I hg m tail hd
    · exact ld_blt (X := X.suite a ((a, oe) :: pn)) I hg m hv tail hn hd
theorem test_many {X : Cx} {es : List Expr} {cs : List Value} {k : Nat} {pos : Pos} (hn : NamesAll X es cs) (hl : cs.length ≤ sizeLine) : TestOk X (.Tuple es k pos) (fun cls => PySem.W.exmAny X.K cls cs) := by
  intro a oe vs pn σ H s b I he hb Q E1 E2 q
  refine wpAny_Tuple (names_run I rfl hn ⟨hl, ?_⟩)
  have up : ∀ b o, s.heap.get? b = some o → (s.heap.push { cls := .type "tuple", data := .seq cs.toArray }).get? b = some o := fun b o z => Heap.get?_push_of_some _ z
  have lt : PySem.W.Looks (model X.prog X.w) (s.heap.push { cls := .type "tuple", data := .seq cs.toArray }) (typeOf (.ref a)) oe.cls := fun A Q E s k q => wpAny_typeOf_ref (k _ _ (up _ _ he)) q
  exact (exm_many (M := model X.prog X.w) (I.kIn.keeps up) lt (Heap.get?_push_size _ rfl) hb).here (q _ s.toks up)
end Mn

namespace Mn
open PySem PySem.Spec PyProof.Rows L2

/-! t[::-1] of a tuple -/
section
variable {prog : Program} {w : World} {A : Around} {E : Value → Shared → Prop} {s : Shared}
theorem rev_pick (xs : Array Value) : ((List.range xs.size).filterMap fun (m : Nat) => xs[((((xs.size : Nat) : Int) - 1) + (m : Int) * (-1)).toNat]?).toArray = xs.toList.reverse.toArray := by
  have e : (fun (m : Nat) => xs[((((xs.size : Nat) : Int) - 1) + (m : Int) * (-1)).toNat]?) = fun (m : Nat) => xs[((xs.size : Int) - 1 - (m : Int)).toNat]? := by
    funext m
    congr 1
    omega
  rw [e]
  congr 1
  have key : ∀ k, k ≤ xs.size → (List.range k).filterMap (fun (m : Nat) => xs[((xs.size : Int) - 1 - m).toNat]?) = xs.toList.reverse.take k := by
    intro k
    induction k with
    | zero => intro _; simp
    | succ k ih =>
      intro hk
      rw [List.range_succ, List.filterMap_append, ih (by omega)]
      have h1 : ((xs.size : Int) - 1 - (k : Nat)).toNat = xs.size - 1 - k := by omega
      have h2 : xs.size - 1 - k < xs.size := by omega
      rw [List.take_add_one, List.getElem?_reverse (by simp; omega)]
      simp only [List.filterMap_cons, List.filterMap_nil, h1, Array.getElem?_eq_getElem h2, Array.length_toList, Array.getElem?_toList]
      rfl
  rw [key _ (Nat.le_refl _), List.take_of_length_le (by simp)]
/-- how many places t[::-1] has -/
theorem places_back (n : Nat) : Builtin.Slice.slicePlaces ((n : Int) - 1) (-1) (-1) = n := by
  unfold Builtin.Slice.slicePlaces
  rw [if_neg (by decide)]
  split
  · rw [show (- -1 : Int) = 1 by decide, Int.ediv_one]; omega
  · omega
/-- what the slice [::-1] says of n places: from the last one, downwards, all of them -/
theorem slice_back {B : Around} {F : Value → Shared → Prop} {sl : Addr} {vk : Value} {n : Nat} {R : Int × Int × Nat → Shared → Prop} (hs : s.heap.IsSliceOf sl .none .none vk) (pk : IsPart vk (some (-1))) (h : R ((n : Int) - 1, -1, n) s) :
    wpAny (model prog w) B (Builtin.Slice.sliceApplied (.ref sl) (pure (n : Int))) R F s := by
  obtain ⟨o, ho, _, hd⟩ := hs
  have parts : wpAny (model prog w) B (Builtin.Slice.sliceFields (.ref sl)) (fun q t => q = (.none, .none, vk) ∧ t = s) F s :=
    wpAny_bind (wpAny_field ho hd rfl (wpAny_bind (wpAny_field ho hd rfl (wpAny_bind (wpAny_field ho hd rfl (wpAny_pure ⟨rfl, rfl⟩))))))
  have last : wpAny (model prog w) B (pure ((n : Int) - 1, (-1 : Int), Builtin.Slice.slicePlaces ((n : Int) - 1) (-1) (-1))) R F s := wpAny_pure (by rw [places_back]; exact h)
  unfold Builtin.Slice.sliceApplied
  refine wpAny_bind (wpAny_mono parts (fun q t e => ?_) fun _ _ z => z)
  obtain ⟨rfl, rfl⟩ := e
  refine wpAny_bind (HT.slicePart_ pk ?_)
  rw [if_neg (by decide)]
  exact wpAny_bind (slicePart_none (wpAny_bind (slicePart_none (wpAny_bind (wpAny_pure last)))))
/-- t[sl] of a tuple, where the slice says: from lo by step, n places (not the whole, forwards) -/
theorem tup_slice {t sl : Addr} {items : Array Value} {lo step : Int} {n : Nat} {Q : Value → Shared → Prop} (ht : IsTup s.heap t items) (hT : s.TypeIs (.ref sl) "slice") (hz : n ≤ sizeLine) (hw : (step == 1) = false)
    (hap : ∀ (B : Around) (R : Int × Int × Nat → Shared → Prop) (F : Value → Shared → Prop), R (lo, step, n) s → wpAny (model prog w) B (Builtin.Slice.sliceApplied (.ref sl) (pure ((items.size : Nat) : Int))) R F s)
    (h : ∀ s', s' = { s with heap := s.heap.push { cls := .type "tuple", data := .seq ((List.range n).filterMap fun (k : Nat) => items[(lo + (k : Int) * step).toNat]?).toArray } } → Q (.ref s.heap.objs.size) s') : wpAny (model prog w) A (getItem (.ref t) (.ref sl)) Q E s := by
  have few : sizeOk (.seq ((List.range n).filterMap fun (k : Nat) => items[(lo + (k : Int) * step).toNat]?).toArray) := by
    show (List.toArray _).size ≤ sizeLine
    rw [List.size_toArray]
    exact Nat.le_trans (List.length_filterMap_le _ _) (by rw [List.length_range]; exact hz)
  have body : ∀ (B : Around) (R : Fin → Shared → Prop) (F : Value → Shared → Prop), (∀ s', s' = { s with heap := s.heap.push { cls := .type "tuple", data := .seq ((List.range n).filterMap fun (k : Nat) => items[(lo + (k : Int) * step).toNat]?).toArray } } → R (.done (.ret (.ref s.heap.objs.size))) s') →
      wpAny (model prog w) B (Builtin.«tuple.__getitem__» ⟨[.ref t, .ref sl], []⟩) R F s := fun B R F hr => by
    have cut : ((lo == 0 && step == 1 && n == items.size) = true) = False := by rw [hw]; simp
    unfold Builtin.«tuple.__getitem__»
    refine wpAny_bind (wpAny_of_eq (a := ((Value.ref t : Value), [Value.ref sl])) (by first | rfl | (simp only [slotArgs]; rfl)) ?_)
    refine wpAny_bind (tupleItemsOf_ ht (wpAny_bind (wpAny_typeOf hT ?_)))
    rw [if_pos (by decide)]
    refine wpAny_bind (hap _ _ _ ?_)
    simp only [cut, if_false]
    refine wpAny_bind ?_
    unfold Builtin.Tuple.tupleExact
    exact wpAny_newObj_type (wpAny_pure (hr _ rfl)) few
  unfold getItem
  refine wpAny_holding (wpAny_bind (wpAny_sequenceKey ht.typeIs (by decide) (wpAny_bind ?_)))
  refine wpAny_callSpecial?_slot (name := Str.ofString "__getitem__") ht.typeIs slot_tuple_getitem (wpAny_call_entry slot_tuple_getitem ht.typeIs entry_tuple_getitem ?_ (args_tuple_getitem _ _))
  refine body _ _ _ fun s2 e => ?_
  exact ⟨_, rfl, wpAny_pure (h s2 e)⟩
theorem getItem_tupRev {t sl : Addr} {items : Array Value} {vk : Value} {Q : Value → Shared → Prop} (ht : IsTup s.heap t items) (hs : s.heap.IsSliceOf sl .none .none vk) (pk : IsPart vk (some (-1)))
    (h : Q (.ref s.heap.objs.size) { s with heap := s.heap.push { cls := .type "tuple", data := .seq items.toList.reverse.toArray } }) (hz : items.size ≤ sizeLine) : wpAny (model prog w) A (getItem (.ref t) (.ref sl)) Q E s := by
  obtain ⟨o, ho, hc, _⟩ := id hs
  refine tup_slice (lo := ((items.size : Nat) : Int) - 1) (step := -1) ht ⟨o, ho, hc⟩ hz (by decide) (fun B R F hr => slice_back hs pk hr) fun s' e => ?_
  rw [e, rev_pick]
  exact h
end
theorem VRs.rev {p : Pm} {ρ : List Addr} {H : Hp} : ∀ {ds : List D} {vs : List V}, VRs p ρ H ds vs → VRs p ρ H ds.reverse vs.reverse
  | [], vs, h => by
    have : vs = [] := h
    subst this; rfl
  | d :: ds, vs, h => by
    obtain ⟨z, t, rfl, hz, ht⟩ := h
    rw [List.reverse_cons, List.reverse_cons]
    exact (VRs.rev ht).append (.one hz)
def revE (ra rk : DE) : DE := fun env S => (ra env S).bind fun d S1 => (rk env S1).bind fun k S2 => match d, k with
  | .tup ds, .int i => if i = -1 then .ok (.tup ds.reverse) S2 else .bad
  | _, _ => .bad
section
variable {X : Cx} {p : Pm} {W : WX} {a b c e : Expr} {ra rb rc : DE} {pos : Pos}
theorem ge_rev (hp : p.K = X.K) {p2 : Pos} (ha : PE X a (GE p W ra)) (hb : PE X b (GE p W rb)) : PE X (.Subscript a (.Slice none none (some b) p2) pos) (GE p W (revE ra rb)) := by
  refine ⟨fun pins s σ H Q I ⟨ρ, S, env, he, hc, hq⟩ => Subscript_ ?_⟩
  refine pe_run ha I he hc hq fun d S1 ρ1 H1 v u s1 x1 c1 q1 r1 I1 p1 => ?_
  refine wpAny_Slice ?_
  rw [evalPart_none]
  refine wpAny_pure (wpAny_pure ?_)
  rw [evalPart_some]
  refine pe_run hb I1 (he.mono x1) c1 p1 fun k S2 ρ2 H2 w u2 s2 x2 c2 q2 r2 I2 p2 => ?_
  cases d with
  | tup ds =>
    cases k with
    | int i =>
      have p3 : Post p ρ2 H2 (fun d _ ρ' H' => ∀ v, VR p ρ' H' d v → Q v H') (fun cls dd _ H' => W cls dd σ H') (if i = -1 then Rs.ok (.tup ds.reverse) S2 else .bad) := p2
      by_cases hi : i = -1
      · rw [if_pos hi] at p3
        subst hi
        cases q2
        obtain ⟨t, rfl⟩ := r2
        obtain ⟨x, xs, rfl, hx, rv⟩ := VR.mono x2 _ _ q1
        obtain rfl : u = Value.ref x := r1
        have I4 : Inv X pins σ H2 { s2 with heap := s2.heap.push { cls := .type "slice", data := .fields #[.none, .none, .int (-1) t] } } := I2.kept (t' := s2.toks) fun b ob q => Heap.get?_push_of_some _ q
        obtain ⟨its, r, ht, hz⟩ := I4.tuple (hp ▸ hx)
        refine tail_any (ops := [.ref x, .ref s2.heap.objs.size]) ht.typeIs slot_tuple_getitem.lookup (getItem_tupRev ht (Heap.IsSliceOf.new ..) (.int (-1) t) ?_ (by rw [List.size_toArray, ← r.length]; exact hz)) (by with_unfolding_all rfl)
        have hn := I4.hok.fresh (Nat.le_refl _)
        refine ⟨.ref _, _, I4.laid (t' := s2.toks) (o := .tup xs.reverse) (fun b ob q => Heap.get?_push_of_some _ q) (Nat.le_refl _) ⟨by rw [List.length_reverse]; exact hz, _, r.reverse, IsTup.new _ _⟩, rfl, ?_⟩
        have x5 := ext_new (p := p) (ρ := ρ2) (o := .tup xs.reverse) hn
        exact p3 ρ2 _ x5 (c2.new hn) _ ⟨_, _, rfl, .inl (.inl upd_same), VRs.mono x5 _ _ rv.rev⟩
      · rw [if_neg hi] at p3; exact p3.elim
    | _ => exact p2.elim
  | _ => exact p2.elim
/-! -x, {} -/
def negE (ra : DE) : DE := fun env S => (ra env S).bind fun d S1 => match d with
  | .int i => .ok (.int (-i)) S1
  | _ => .bad
theorem ge_neg (ha : PE X a (GE p W ra)) : PE X (.UnaryOp .USub a pos) (GE p W (negE ra)) := by
  refine ⟨fun pins s σ H Q I ⟨ρ, S, env, he, hc, hq⟩ => (pe_un un_neg ha).run pins s σ H Q I ⟨ρ, S, env, he, hc, hq.turn fun d S1 ρ1 H1 x1 c1 p1 v rv => ?_⟩⟩
  cases d with
  | int i => cases rv; exact ⟨i, rfl, p1 ρ1 H1 (.refl ..) c1 _ rfl⟩
  | _ => exact p1.elim
def dic0E : DE := fun _ S => .ok (.loc S.length) (S ++ [.dct []])
theorem ge_dic0 : PE X (.Dict [] [] pos) (GE p W dic0E) := by
  refine ⟨fun pins s σ H Q I ⟨ρ, S, env, he, hc, hq⟩ => pe_dnewK.run pins s σ H Q I fun a hn => ?_⟩
  obtain ⟨c1, x1⟩ := hc.push (o := .dK []) (c := .dct []) hn ⟨_, upd_same, rfl⟩
  exact hq _ _ x1 c1 _ ⟨a, rfl, by rw [← hc.len]; simp⟩
/-! a chain as a test -/
def chainT (g g' : D → D → Store → Option (D × Store)) (ra rb rc : DE) : DT := tstD (chain2 g g' ra rb rc)
theorem gt_chain {op op' : CmpOp} {g g' : D → D → Store → Option (D × Store)} (hp : p.K = X.K) (h : OpD X p (compareOp op) g) (h' : OpD X p (compareOp op') g') (ha : PE X a (GE p W ra)) (hb : PE X b (GE p W rb)) (hcc : PE X c (GE p W rc)) (hm : lastMarks [op, op'] [b, c] = false) :
    PT X (.Compare a [op, op'] [b, c] pos) (GT p W (tstD (chain2 g g' ra rb rc))) := by
  refine ⟨fun pins s σ H Q I ⟨ρ, S, env, he, hc, hq⟩ => isTrue_chain ?_ hm⟩
  have e : tstD (chain2 g g' ra rb rc) env S = (ra env S).bind fun x S1 => (rb env S1).bind fun y S2 => (lf (g x y S2)).bind fun z S3 => (toB z S3).bind fun k S4 => if k = true then (rc env S4).bind fun w S5 => (lf (g' y w S5)).bind truR else .ok false S4 := by
    unfold tstD chain2
    cases ra env S with
    | ok x S1 =>
      show (((rb env S1).bind _).bind truR) = (rb env S1).bind _
      cases rb env S1 with
      | ok y S2 =>
        show (((lf (g x y S2)).bind _).bind truR) = (lf (g x y S2)).bind _
        cases lf (g x y S2) with
        | ok z S3 =>
          show (((toB z S3).bind _).bind truR) = (toB z S3).bind _
          cases toB z S3 with
          | ok k S4 =>
            show ((if k = true then (rc env S4).bind fun w S5 => lf (g' y w S5) else Rs.ok (D.bl false) S4).bind truR) = if k = true then (rc env S4).bind fun w S5 => (lf (g' y w S5)).bind truR else Rs.ok false S4
            cases k with
            | true =>
              show (((rc env S4).bind fun w S5 => lf (g' y w S5)).bind truR) = (rc env S4).bind fun w S5 => (lf (g' y w S5)).bind truR
              cases rc env S4 <;> rfl
            | false => rfl
          | _ => rfl
        | _ => rfl
      | _ => rfl
    | _ => rfl
  rw [e] at hq
  refine pe_run ha I he hc hq fun d S1 ρ1 H1 v u s1 x1 c1 q1 r1 I1 p1 => test_link ?_
  refine pe_run hb I1 (he.mono x1) c1 p1 fun f S2 ρ2 H2 w t s2 x2 c2 q2 r2 I2 p2 => ?_
  refine opd_runk h I2 c2 (VR.mono x2 _ _ q1) q2 r1 r2 p2 fun z S3 ρ3 H3 w3 t3 s3 x3 c3 q3 r3 I3 p3 => ?_
  obtain ⟨k, rfl, p4⟩ := post_toB p3
  cases q3
  cases r3
  refine wpAny_truthy_bool ?_
  cases k with
  | false => exact ite_ff ⟨H3, I3, p4 ρ3 H3 (.refl ..) c3⟩
  | true =>
    refine ite_tt (test_last ?_)
    refine pe_run hcc I3 (((he.mono x1).mono x2).mono x3) c3 p4 fun e4 S4 ρ4 H4 w4 t4 s4 x4 c4 q4 r4 I4 p5 => ?_
    refine opd_runk h' I4 c4 (VR.mono x4 _ _ (VR.mono x3 _ _ q2)) q4 r2 r4 p5 fun z S5 ρ5 H5 w5 t5 s5 x5 c5 q5 r5 I5 p6 => ?_
    have p7 : Post p ρ5 H5 (fun b _ _ H' => Q b H') (fun cls dd _ H' => W cls dd σ H') ((truR z S5).bind fun k S => .ok k S) := by
      revert p6
      cases truR z S5 <;> exact fun h => h
    exact tru_run hp I5 c5 q5 r5 p7 fun k s6 e6 I6 q6 => ⟨H5, I6, q6 ρ5 H5 (.refl ..) c5⟩
end
end Mn

namespace Mn
open PySem PySem.Spec PyProof.Rows L2

/-! xs.index(x), xs.count(x): flat items -/
def placeF (x : D) : List D → Option Nat
  | [] => none
  | y :: r => if eqF y x = true then some 0 else (placeF x r).map (· + 1)
def indexD (d : D) (ds : List D) (S : Store) : Option (D × Store) := match lstOf S d, ds with
  | some ys, [x] => if (flatD x && ys.all flatD) = true then (placeF x ys).map fun (j : Nat) => (D.int (j : Int), S) else none
  | _, _ => none
def countD (d : D) (ds : List D) (S : Store) : Option (D × Store) := match lstOf S d, ds with
  | some ys, [x] => if (flatD x && ys.all flatD) = true then some (D.int ((ys.countP fun y => eqF y x : Nat) : Int), S) else none
  | _, _ => none
theorem placeF_some {x : D} : ∀ {ys : List D} {j : Nat}, placeF x ys = some j → (∃ z, ys[j]? = some z ∧ eqF z x = true) ∧ ∀ (m : Nat) (z : D), m < j → ys[m]? = some z → eqF z x = false
  | y :: r, j, h => by
    unfold placeF at h
    split at h
    · cases h
      rename_i e
      exact ⟨⟨y, rfl, e⟩, fun m z hm _ => absurd hm (Nat.not_lt_zero _)⟩
    · rename_i e
      obtain ⟨i, hi, rfl⟩ := Option.map_eq_some_iff.mp h
      obtain ⟨⟨z, h1, h2⟩, h3⟩ := placeF_some hi
      refine ⟨⟨z, by simpa using h1, h2⟩, fun m z' hm hz => ?_⟩
      cases m with
      | zero => simp at hz; subst hz; simpa using e
      | succ m => exact h3 m z' (by omega) (by simpa using hz)
section
variable {X : Cx} {p : Pm}
theorem list_at {ρ : List Addr} {S : Store} {H : Hp} (hc : Conc p ρ S H) {d : D} {v : V} {ds : List D} (h : VR p ρ H d v) (e : lstOf S d = some ds) : ∃ a xs, v = .ref a ∧ SqL p.K H a xs ∧ VRs p ρ H ds xs := by
  unfold lstOf at e
  split at e
  · cases e; obtain ⟨a, xs, h1, h2, h3⟩ := h; exact ⟨a, xs, h1, h2.sq, h3⟩
  · rename_i n
    split at e
    · rename_i es hS
      cases e
      obtain ⟨a, h1, ha⟩ := h
      obtain ⟨xs, h2, h3⟩ := hc.cell n a _ ha hS
      exact ⟨a, xs, h1, .inl (.inl h2), h3⟩
    · cases e
  · cases e
theorem md_index (hp : p.K = X.K) : MtD X p "list.index" "list" indexD := by
  intro pins s σ H x xs v us Q ρ S d ds d' S' I hc hx hxs rx rxs hg k
  unfold indexD at hg
  split at hg
  · rename_i ys y e
    split at hg
    · rename_i fl
      rw [Bool.and_eq_true] at fl
      obtain ⟨j, hj, ej⟩ := Option.map_eq_some_iff.mp hg
      cases ej
      obtain ⟨a, zs, rfl, hs, hv⟩ := list_at hc hx e
      obtain ⟨z, t, rfl, hz, ht⟩ := hxs
      obtain rfl : t = [] := ht
      obtain ⟨⟨w, h1, h2⟩, h3⟩ := placeF_some hj
      obtain ⟨wv, g1, g2⟩ := hv.get h1
      refine mt_index pins s σ H (.ref a) [z] v us Q I rx rxs ⟨a, zs, z, j, wv, rfl, rfl, hp ▸ hs, flatD_ok hz fl.1, flatDs_ok hv fl.2, g1, ?_, fun m z' hm hm2 => ?_, k.here hc rfl⟩
      · rw [eqF_ok g2 hz (List.all_eq_true.mp fl.2 w (List.mem_of_getElem? h1)) fl.1]; exact h2
      · obtain ⟨w', g3, g4⟩ := hv.getV hm2
        rw [eqF_ok g4 hz (List.all_eq_true.mp fl.2 w' (List.mem_of_getElem? g3)) fl.1]; exact h3 m w' hm g3
    · cases hg
  · cases hg
theorem count_flat {ρ : List Addr} {H : Hp} {y : D} {z : V} (hz : VR p ρ H y z) (fy : flatD y = true) : ∀ {ys : List D} {zs : List V} {us : List Value}, VRs p ρ H ys zs → ys.all flatD = true → Vals zs us → us.countP (eqU z) = ys.countP fun w => eqF w y
  | [], zs, us, h, _, r => by
    obtain rfl : zs = [] := h
    cases r
    rfl
  | w :: ys, _, us, ⟨x, t, e, h1, h2⟩, f, r => by
    subst e
    rw [List.all_cons, Bool.and_eq_true] at f
    cases r with
    | @cons _ u _ ur r1 r2 =>
      rw [List.countP_cons, List.countP_cons, count_flat hz fy h2 f.2 r2, eqU_of r1 (flatD_ok h1 f.1), eqF_ok h1 hz f.1 fy]
theorem md_count (hp : p.K = X.K) : MtD X p "list.count" "list" countD := by
  intro pins s σ H x xs v us Q ρ S d ds d' S' I hc hx hxs rx rxs hg k
  unfold countD at hg
  split at hg
  · rename_i ys y e
    split at hg
    · rename_i fl
      cases hg
      rw [Bool.and_eq_true] at fl
      obtain ⟨a, zs, rfl, hs, hv⟩ := list_at hc hx e
      obtain ⟨z, t, rfl, hz, ht⟩ := hxs
      obtain rfl : t = [] := ht
      cases rx
      obtain ⟨u, rfl, ru⟩ := vals1 rxs
      obtain ⟨its, rv, ⟨o, n, ho, hcl, hdn, hd⟩, hlen⟩ := I.list (hp ▸ hs)
      obtain ⟨oc, od, data, sl⟩ := o
      dsimp only at hcl hd
      subst hcl hd
      refine call_meets PySem.F.slot_list_count ⟨_, ho, rfl⟩ PySem.F.entry_list_count (PySem.F.args_list_count_2 _ _) (SeqAt.list_countAt a its.toArray n od sl u (eqU z))
        ⟨ho, fun w hw => mem_eqAt ru (flatD_ok hz fl.1) rv (flatDs_ok hv fl.2) w (by simpa using hw), .int (ys.countP fun w => eqF w y), H, I.tok _, ⟨s.toks, ?_⟩, k.here hc rfl⟩
      rw [show its.toArray.toList.countP (eqU z) = ys.countP fun w => eqF w y from by rw [← count_flat hz fl.1 hv fl.2 rv]]
    · cases hg
  · cases hg
end
end Mn

namespace Mn
open PySem PySem.Spec PyProof.Rows L2

/-! own syntax -/
inductive BO where
  | add | sub | mul | fdiv | mod | pow | shl | shr | band
inductive CO where
  | eq | ne | lt | le | gt | ge | is | isn | inn | nin
inductive BF where
  | len | tuple | list | all | any | max | min | abs | isi | repr
inductive BT where
  | int | bool | str | tuple | list | dict
inductive MT where
  | append | index | count
def BO.op : BO → Operator
  | .add => .Add | .sub => .Sub | .mul => .Mult | .fdiv => .FloorDiv | .mod => .Mod | .pow => .Pow | .shl => .LShift | .shr => .RShift | .band => .BitAnd
def iaddI (d e : D) (S : Store) : Option (D × Store) := match d, e with
  | .int i, .int j => some (.int (i + j), S)
  | _, _ => none
def BO.ig : BO → D → D → Store → Option (D × Store)
  | .add => iaddI
  | _ => fun _ _ _ => none
def BO.g : BO → D → D → Store → Option (D × Store)
  | .add => addD | .sub => subD | .mul => mulD | .fdiv => fdivD | .mod => modD | .pow => powD | .shl => shlD | .shr => shrD | .band => andD
def CO.op : CO → CmpOp
  | .eq => .Eq | .ne => .NotEq | .lt => .Lt | .le => .LtE | .gt => .Gt | .ge => .GtE | .is => .Is | .isn => .IsNot | .inn => .In | .nin => .NotIn
def CO.g : CO → D → D → Store → Option (D × Store)
  | .eq => bOp eqO false | .ne => bOp eqO true | .lt => bOp ltD false | .le => bOp gtD true | .gt => bOp gtD false | .ge => bOp ltD true
  | .is => bOp isD false | .isn => bOp isD true | .inn => bOp inD false | .nin => bOp inD true
def BF.nm : BF → Str
  | .len => "len" | .tuple => "tuple" | .list => "list" | .all => "all" | .any => "any" | .max => "max" | .min => "min" | .abs => "abs" | .isi => "isinstance" | .repr => "repr"
def BF.v : BF → Value
  | .len => .builtin "len" | .tuple => .type "tuple" | .list => .type "list" | .all => .builtin "all" | .any => .builtin "any" | .max => .builtin "max" | .min => .builtin "min" | .abs => .builtin "abs" | .isi => .builtin "isinstance" | .repr => .builtin "repr"
def BF.g : BF → List D → Store → Option (D × Store)
  | .len => on1 lenD | .tuple => on1 tupleD | .list => on1 listD | .all => on1 allD | .any => on1 anyD | .max => on2I maxI | .min => on2I minI | .abs => on1 absD | .isi => isiD | .repr => on1 rprD
def BT.nm : BT → Str
  | .int => "int" | .bool => "bool" | .str => "str" | .tuple => "tuple" | .list => "list" | .dict => "dict"
def BT.t : BT → String
  | .int => "int" | .bool => "bool" | .str => "str" | .tuple => "tuple" | .list => "list" | .dict => "dict"
def MT.T : MT → String
  | .append => "list" | .index => "list" | .count => "list"
def MT.id : MT → String
  | .append => "list.append" | .index => "list.index" | .count => "list.count"
def MT.nm : MT → Str
  | .append => "append" | .index => "index" | .count => "count"
def MT.g : MT → D → List D → Store → Option (D × Store)
  | .append => appendD | .index => indexD | .count => countD
mutual
inductive Ex where
  | var (i : Nat) | cst (d : D) | glo (x : Str) (d : D) | bty (t : BT)
  | bin (o : BO) (a b : Ex) | cmp (o : CO) (a b : Ex) | chn (o1 o2 : CO) (a b c : Ex)
  | notq (a : Ex) | boo (k : Bool) (es : Exs) | ite (t : Te) (a b : Ex) | neg (a : Ex)
  | tup (es : Exs) | lst (es : Exs) | dic0 | idx (a b : Ex) | slc (a : Ex) (lo hi : Op) | rev (a b : Ex)
  | bfn (f : BF) (es : Exs) | own (i : Nat) (sh : Shp) (es ks : Exs) | mth (m : MT) (o : Ex) (es : Exs)
  | lcp (vs : List Nat) (g : It) (tg : Tg) (ts : Cd) (e : Ex)
  | scp (vs : List Nat) (g : It) (tg : Tg) (e : Ex)
  | fld (f : Str) (o : Ex) | mto (m : Str) (tab : MTab) (o : Ex) (es ks : Exs) | mk (cl : Str) (i : Nat) (sh : Shp) (es ks : Exs) | isx (x : Str) (cd : D) (tab : List (Str × Bool)) (e : Ex)
inductive Op where
  | no | so (e : Ex)
inductive Exs where
  | nil | cons (e : Ex) (es : Exs)
inductive Te where
  | pl (e : Ex) | no (t : Te) | bo (k : Bool) (ts : Tes)
inductive Tes where
  | nil | cons (t : Te) (ts : Tes)
inductive Cd where
  | yes | one (t : Te)
inductive It where
  | seq (e : Ex) | rng1 (e : Ex) | rng2 (a b : Ex) | enm (e : Ex) | zip (a b : Ex)
inductive Tg where
  | nm (i : Nat) | tp (ts : Tgs)
inductive Tgs where
  | nil | cons (t : Tg) (ts : Tgs)
end
mutual
inductive St where
  | pass | brk | cnt
  | expr (e : Ex) | ret (e : Ex) | retN | asg (t : Tg) (e : Ex) | asgX (ts : Tgs) (n : Nat) (e : Ex)
  | put (o i e : Ex) | ifs (t : Te) (a b : Ss) | whl (n : Nat) (t : Te) (b : Ss) | forq (t : Tg) (g : It) (b : Ss)
  | stf (cl f : Str) (o e : Ex) | augf (cl f : Str) (op : BO) (o e : Ex) | aug (i : Nat) (op : BO) (e : Ex) | rse (cl : Str) | tryx (x : Str) (cat : List (Str × Bool)) (i j : Nat) (b : Ss) | dead
  | rsx (cl f : Str) (e : Ex) | trym (xs : List Str) (cat : List (Str × Bool)) (i j : Nat) (b : Ss)
inductive Ss where
  | nil | cons (s : St) (ss : Ss)
end
/-- the built-in class at the bottom of an own exception -/
inductive BX where
  | V | R | L | O | K
/-- an own exception with a field: its class, the field, the bottom, whose __init__ it calls -/
structure RX where
  cl : Str
  f : Str
  b : BX
  P : Str
structure Fn where
  cls : Option Str := none
  nm : Str
  ps : List Str
  N : List Str
  shps : List Shp
  body : Ss
/-- what the text's own things are: defs, constants, classes made, fields of classes, exceptions with a text, tables of isinstance and of except clauses -/
structure Glo where
  fns : List Fn
  cons : List (Str × D)
  mks : List Str := []
  flds : List (Str × Str) := []
  rses : List Str := []
  isxs : List (Str × D × List (Str × Bool)) := []
  cats : List (Str × List (Str × Bool)) := []
  rsxs : List RX := []
  catm : List (List Str × List (Str × Bool)) := []

/-! what it means -/
abbrev Calls' := Nat → List D → Store → Rs D
mutual
def evG : Tg → DG
  | .nm i => nameG i
  | .tp ts => tupG (evGs ts) (lenGs ts)
def evGs : Tgs → DGs
  | .nil => nilG
  | .cons t ts => consG (evG t) (evGs ts)
def lenGs : Tgs → Nat
  | .nil => 0
  | .cons _ ts => lenGs ts + 1
end
mutual
def evE (c : Calls') : Ex → DE
  | .var i => varD i
  | .cst d => cstD d
  | .glo _ d => cstD d
  | .bty t => cstD (.ty t.t)
  | .bin o a b => bin2 o.g (evE c a) (evE c b)
  | .cmp o a b => bin2 o.g (evE c a) (evE c b)
  | .chn o1 o2 a b d => chain2 o1.g o2.g (evE c a) (evE c b) (evE c d)
  | .notq a => notE (evE c a)
  | .boo k es => evB c k es
  | .ite t a b => iteE (evT c t) (evE c a) (evE c b)
  | .neg a => negE (evE c a)
  | .tup es => tupE (evA c es)
  | .lst es => lstE (evA c es)
  | .dic0 => dic0E
  | .idx a b => bin2 idxD (evE c a) (evE c b)
  | .slc a lo hi => slcE (evE c a) (evO c lo) (evO c hi)
  | .rev a b => revE (evE c a) (evE c b)
  | .bfn f es => calE f.g (evA c es)
  | .own i sh es ks => kcalE sh.n sh.ks.length (fun ds zs S => c i (sh.src.map (asmD ds zs)) S) (evA c es) (evA c ks)
  | .mth m o es => mthE m.T m.g (evE c o) (evA c es)
  | .lcp vs g tg ts e => compE vs (evI c g) (evG tg) (evC c ts) (evE c e)
  | .scp vs g tg e => skE vs (evI c g) (evG tg) (evE c e)
  | .fld f o => fun env S => (evE c o env S).bind fun d S1 => lf (fldD f d S1)
  | .mto m tab o es ks => momE m tab c (evE c o) (evA c es) (evA c ks)
  | .mk cl i sh es ks => makE cl i sh c (evA c es) (evA c ks)
  | .isx _ cd tab e => calE (isxG tab cd) (consA (evE c e) (consA (cstD cd) nilA))
def evO (c : Calls') : Op → DO
  | .no => noO
  | .so e => someO (evE c e)
def evA (c : Calls') : Exs → DA
  | .nil => nilA
  | .cons e es => consA (evE c e) (evA c es)
def evB (c : Calls') (k : Bool) : Exs → DE
  | .nil => fun _ _ => .bad
  | .cons e es => match es with
    | .nil => evE c e
    | .cons _ _ => if k then andE (evE c e) (evB c k es) else orE (evE c e) (evB c k es)
def evT (c : Calls') : Te → DT
  | .pl e => tstD (evE c e)
  | .no t => notT (evT c t)
  | .bo k ts => evTs c k ts
def evTs (c : Calls') (k : Bool) : Tes → DT
  | .nil => fun _ _ => .bad
  | .cons t ts => match ts with
    | .nil => evT c t
    | .cons _ _ => if k then andT (evT c t) (evTs c k ts) else orT (evT c t) (evTs c k ts)
def evC (c : Calls') : Cd → DT
  | .yes => yesT
  | .one t => evT c t
def evI (c : Calls') : It → DI
  | .seq e => seqI (evE c e)
  | .rng1 e => rng1I (consA (evE c e) nilA)
  | .rng2 a b => rng2I (consA (evE c a) (consA (evE c b) nilA))
  | .enm e => enmI (consA (evE c e) nilA)
  | .zip a b => zipI (consA (evE c a) (consA (evE c b) nilA))
end
mutual
def evS (c : Calls') : St → DS
  | .pass => nxS
  | .brk => fun env S => .bk env S
  | .cnt => fun env S => .ct env S
  | .expr e => exprS (evE c e)
  | .ret e => retS (evE c e)
  | .retN => retNS
  | .asg t e => asgS (evG t) (evE c e)
  | .asgX ts n e => asgXS (starG (evGs ts) n) (evE c e)
  | .put o i e => subS (evE c o) (evE c i) (evE c e)
  | .ifs t a b => ifS (evT c t) (evSs c a) (evSs c b)
  | .whl n t b => whileL (evT c t) (evSs c b) n
  | .forq t g b => forS (evI c g) (evG t) (evSs c b)
  | .stf cl f o e => stfS cl f (evE c o) (evE c e)
  | .augf cl f op o e => augfS cl f op.ig (evE c o) (evE c e)
  | .aug i op e => augS i op.ig (evE c e)
  | .rse cl => raiseS cl
  | .tryx _ cat i j b => tryS (fun k => cat.lookup k) i j (evSs c b)
  | .dead => fun _ _ => .bad
  | .rsx cl f e => raiseXS cl f (evE c e)
  | .trym _ cat i j b => tryS (fun k => cat.lookup k) i j (evSs c b)
def evSs (c : Calls') : Ss → DS
  | .nil => nxS
  | .cons s ss => seqS (evS c s) (evSs c ss)
end
def callF (G : Glo) : Nat → Calls'
  | 0, _, _, _ => .bad
  | n + 1, i, ds, S => match G.fns[i]? with
    | some f => fnRun (evSs (callF G n) f.body (startG f.N.length ds) S)
    | none => .bad

/-! the check -/
mutual
def eqDs : D → D → Bool
  | .non, e => match e with | .non => true | _ => false
  | .bl b, e => match e with | .bl c => b == c | _ => false
  | .int b, e => match e with | .int c => decide (b = c) | _ => false
  | .str b, e => match e with | .str c => decide (b = c) | _ => false
  | .tup b, e => match e with | .tup c => eqDss b c | _ => false
  | _, _ => false
def eqDss : List D → List D → Bool
  | [], e => match e with | [] => true | _ => false
  | x :: r, e => match e with | y :: t => eqDs x y && eqDss r t | _ => false
end
mutual
theorem eqDs_ok : ∀ {a b : D}, eqDs a b = true → a = b
  | .non, e, h => by unfold eqDs at h; split at h <;> first | rfl | cases h
  | .bl b, e, h => by
    unfold eqDs at h; split at h
    · rw [eq_of_beq h]
    · cases h
  | .int b, e, h => by
    unfold eqDs at h; split at h
    · rw [of_decide_eq_true h]
    · cases h
  | .str b, e, h => by
    unfold eqDs at h; split at h
    · rw [of_decide_eq_true h]
    · cases h
  | .tup b, e, h => by
    unfold eqDs at h; split at h
    · rw [eqDss_ok h]
    · cases h
  | .ros _, _, h => by unfold eqDs at h; cases h
  | .loc _, _, h => by unfold eqDs at h; cases h
  | .ty _, _, h => by unfold eqDs at h; cases h
  | .gl _, _, h => by unfold eqDs at h; cases h
theorem eqDss_ok : ∀ {a b : List D}, eqDss a b = true → a = b
  | [], e, h => by unfold eqDss at h; split at h <;> first | rfl | cases h
  | x :: r, e, h => by
    unfold eqDss at h; split at h
    · rw [Bool.and_eq_true] at h
      rw [eqDs_ok h.1, eqDss_ok h.2]
    · cases h
end
def eqSr : Sr → Sr → Bool
  | .ps i, .ps j => i == j
  | .kw i, .kw j => i == j
  | .df d, .df e => eqDs d e
  | _, _ => false
theorem eqSr_ok {a b : Sr} (h : eqSr a b = true) : a = b := by
  cases a <;> cases b <;> first | (cases h; done) | (rw [eq_of_beq (show (_ == _) = true from h)]; done) | rw [eqDs_ok h]
def eqSrs : List Sr → List Sr → Bool
  | [], [] => true
  | a :: r, b :: t => eqSr a b && eqSrs r t
  | _, _ => false
theorem eqSrs_ok : ∀ {a b : List Sr}, eqSrs a b = true → a = b
  | [], [], _ => rfl
  | a :: r, b :: t, h => by
    unfold eqSrs at h
    rw [Bool.and_eq_true] at h
    rw [eqSr_ok h.1, eqSrs_ok h.2]
  | [], _ :: _, h => by cases h
  | _ :: _, [], h => by cases h
def eqShp (a b : Shp) : Bool := a.n == b.n && decide (a.ks = b.ks) && eqSrs a.src b.src
theorem eqShp_ok {a b : Shp} (h : eqShp a b = true) : a = b := by
  unfold eqShp at h
  rw [Bool.and_eq_true, Bool.and_eq_true] at h
  cases a; cases b
  cases eq_of_beq h.1.1
  cases of_decide_eq_true h.1.2
  cases eqSrs_ok h.2
  rfl

structure Ck where
  G : Glo
  N : List Str
  sc : Scope
  fnc : Bool
def isVis (sc : Scope) (x : Str) : Bool := match sc.names.lookup x with
  | some .local => true | some .cell => true | some .free => true | _ => false
def isLoc (sc : Scope) (x : Str) (fnc : Bool) : Bool := match sc.names.lookup x with
  | some .local => true | some .cell => fnc | _ => false
def isGl (sc : Scope) (x : Str) : Bool := match sc.names.lookup x with
  | some .globalImplicit => true | _ => false
def cstB (d : D) (k : Const) : Bool := match d, k with
  | .non, .none => true
  | .bl a, .bool b => a == b
  | .int a, .int b => decide (a = b)
  | .str a, .str b => decide (a = b)
  | _, _ => false
def eqBO (k : Bool) : BoolOp → Bool
  | .And => k
  | .Or => !k
def consH : Exs → Bool
  | .nil => false
  | _ => true
def consT : Tes → Bool
  | .nil => false
  | _ => true
def inVs : Option (List Nat) → Nat → Bool
  | none, _ => true
  | some l, i => decide (i ∈ l)
mutual
def chkG (c : Ck) (vs : Option (List Nat)) : Tg → Expr → Bool
  | .nm i => fun e => match e with
    | .Name x _ => decide (c.N[i]? = some x) && isLoc c.sc x c.fnc && inVs vs i
    | _ => false
  | .tp ts => fun e => match e with
    | .Tuple es _ _ => chkGs c vs ts es
    | _ => false
def chkGs (c : Ck) (vs : Option (List Nat)) : Tgs → List Expr → Bool
  | .nil => fun es => match es with | [] => true | _ => false
  | .cons t ts => fun es => match es with | e :: r => chkG c vs t e && chkGs c vs ts r | _ => false
end
def isCmp : Ex → Bool
  | .cmp _ _ _ => true
  | .chn _ _ _ _ _ => true
  | _ => false
/-- the inner check's parameters -/
def Ck.inn (c : Ck) (sc : Scope) : Ck := ⟨c.G, c.N, relS sc c.sc, false⟩
def fnAt (c : Ck) (cl : Option Str) (i : Nat) (x : Str) (sh : Shp) : Bool := match c.G.fns[i]? with
  | some f => decide (f.cls = cl) && decide (f.nm = x) && f.shps.any (eqShp sh)
  | none => false
def eqTab (a b : List (Str × Bool)) : Bool := decide (a = b)
def isxAt (c : Ck) (x : Str) (cd : D) (tab : List (Str × Bool)) : Bool := c.G.isxs.any fun q => decide (q.1 = x) && clsB cd q.2.1 && eqTab tab q.2.2
def conAt (c : Ck) (x : Str) (d : D) : Bool := c.G.cons.any fun q => decide (q.1 = x) && eqDs q.2 d
def tupX : Expr → Bool
  | .Tuple _ _ _ => true
  | _ => false
mutual
def chkE (c : Ck) : Ex → Expr → Bool
  | .var i => fun e => match e with
    | .Name x _ => decide (c.N[i]? = some x) && isVis c.sc x && okNm x
    | _ => false
  | .cst d => fun e => match e with
    | .Constant k _ _ => cstB d k
    | _ => false
  | .glo x d => fun e => match e with
    | .Name y _ => decide (x = y) && conAt c x d && isGl c.sc x && okNm x
    | _ => false
  | .bty t => fun e => match e with
    | .Name y _ => decide (t.nm = y) && isGl c.sc t.nm
    | _ => false
  | .bin o a b => fun e => match e with
    | .BinOp x op y _ => decide (o.op = op) && chkE c a x && chkE c b y
    | _ => false
  | .cmp o a b => fun e => match e with
    | .Compare x [op] [y] _ => decide (o.op = op) && chkE c a x && chkE c b y
    | _ => false
  | .chn o1 o2 a b d => fun e => match e with
    | .Compare x [op, op'] [y, z] _ => decide (o1.op = op) && decide (o2.op = op') && chkE c a x && chkE c b y && chkE c d z
    | _ => false
  | .notq a => fun e => match e with
    | .UnaryOp .Not x _ => chkE c a x
    | _ => false
  | .boo k es => fun e => match e with
    | .BoolOp op vs _ => eqBO k op && consH es && chkEs c es vs
    | _ => false
  | .ite t a b => fun e => match e with
    | .IfExp x y z _ => chkT c t x && chkE c a y && chkE c b z
    | _ => false
  | .neg a => fun e => match e with
    | .UnaryOp .USub x _ => chkE c a x
    | _ => false
  | .tup es => fun e => match e with
    | .Tuple vs _ _ => chkEs c es vs
    | _ => false
  | .lst es => fun e => match e with
    | .List vs _ => chkEs c es vs
    | _ => false
  | .dic0 => fun e => match e with
    | .Dict [] [] _ => true
    | _ => false
  | .idx a b => fun e => match e with
    | .Subscript x y _ => chkE c a x && chkE c b y
    | _ => false
  | .slc a lo hi => fun e => match e with
    | .Subscript x (.Slice l h none _) _ => chkE c a x && chkO c lo l && chkO c hi h
    | _ => false
  | .rev a b => fun e => match e with
    | .Subscript x (.Slice none none (some y) _) _ => chkE c a x && chkE c b y
    | _ => false
  | .bfn f es => fun e => match e with
    | .Call (.Name x _) (v :: vs) [] _ => decide (f.nm = x) && isGl c.sc f.nm && chkEs c es (v :: vs)
    | _ => false
  | .own i sh es ks => fun e => match e with
    | .Call (.Name x _) vs kws _ => fnAt c none i x sh && isGl c.sc x && okNm x && chkEs c es vs && chkKs c ks kws && decide (kws.map (·.arg) = sh.ks.map some)
    | _ => false
  | .mth m o es => fun e => match e with
    | .Call (.Attribute x a ap) (v :: vs) [] cp => decide (m.nm = a) && chkE c o x && chkEs c es (v :: vs) && noSuper x && decide ((v :: vs).length < 30) && (ap.endLine == cp.line)
    | _ => false
  | .lcp vs g tg ts el => fun e => match e with
    | .ListComp x [⟨tx, ix, fx, 0⟩] sc _ => chkI c g tx ix && blkC c.N c.sc sc (vs.filterMap fun v => (c.N[v]?).map fun n => (n, v)) && decide ((vs.filterMap fun v => (c.N[v]?).map fun n => (n, v)).map (·.2) = vs) && chkG (c.inn sc) (some vs) tg tx && chkC (c.inn sc) ts fx && chkE (c.inn sc) el x
    | _ => false
  | .scp vs g tg el => fun e => match e with
    | .SetComp x [⟨tx, ix, [], 0⟩] sc _ => chkI c g tx ix && blkC c.N c.sc sc (vs.filterMap fun v => (c.N[v]?).map fun n => (n, v)) && decide ((vs.filterMap fun v => (c.N[v]?).map fun n => (n, v)).map (·.2) = vs) && chkG (c.inn sc) (some vs) tg tx && chkE (c.inn sc) el x
    | _ => false
  | .fld f o => fun e => match e with
    | .Attribute x g _ => decide (f = g) && chkE c o x && noSuper x
    | _ => false
  | .mto m tab o es ks => fun e => match e with
    | .Call (.Attribute x a ap) vs kws cp => decide (m = a) && chkE c o x && chkEs c es vs && chkKs c ks kws && noSuper x && decide (vs.length + kws.length < 20) && (ap.endLine == cp.line) && (tab.all fun q => fnAt c (some q.1) q.2.1 m q.2.2 && decide (kws.map (·.arg) = q.2.2.ks.map some)) && !tab.isEmpty
    | _ => false
  | .mk cl i sh es ks => fun e => match e with
    | .Call (.Name x _) vs kws _ => decide (cl = x) && decide (cl ∈ c.G.mks) && fnAt c (some cl) i "__init__" sh && isGl c.sc cl && okNm cl && chkEs c es vs && chkKs c ks kws && decide (kws.map (·.arg) = sh.ks.map some)
    | _ => false
  | .isx x cd tab a => fun e => match e with
    | .Call (.Name n _) [v, .Name y _] [] _ => decide (n = ("isinstance" : Str)) && isGl c.sc "isinstance" && decide (x = y) && isGl c.sc x && okNm x && isxAt c x cd tab && chkE c a v
    | _ => false
def chkO (c : Ck) : Op → Option Expr → Bool
  | .no => fun e => match e with | none => true | _ => false
  | .so a => fun e => match e with | some x => chkE c a x | _ => false
def chkEs (c : Ck) : Exs → List Expr → Bool
  | .nil => fun es => match es with | [] => true | _ => false
  | .cons a r => fun es => match es with | x :: t => chkE c a x && chkEs c r t | _ => false
def chkKs (c : Ck) : Exs → List Keyword → Bool
  | .nil => fun es => match es with | [] => true | _ => false
  | .cons a r => fun es => match es with | ⟨_, x, _⟩ :: t => chkE c a x && chkKs c r t | _ => false
def chkT (c : Ck) : Te → Expr → Bool
  | .pl a => fun e => chkE c a e && (match e with | .UnaryOp .Not _ _ => false | .BoolOp _ _ _ => false | .IfExp _ _ _ _ => false | .Compare _ _ _ _ => isCmp a | _ => true)
  | .no t => fun e => match e with
    | .UnaryOp .Not x _ => chkT c t x
    | _ => false
  | .bo k ts => fun e => match e with
    | .BoolOp op vs _ => eqBO k op && consT ts && chkTs c ts vs
    | _ => false
def chkTs (c : Ck) : Tes → List Expr → Bool
  | .nil => fun es => match es with | [] => true | _ => false
  | .cons t r => fun es => match es with | x :: s => chkT c t x && chkTs c r s | _ => false
def chkC (c : Ck) : Cd → List Expr → Bool
  | .yes => fun es => match es with | [] => true | _ => false
  | .one t => fun es => match es with | [x] => chkT c t x | _ => false
def chkI (c : Ck) : It → Expr → Expr → Bool
  | .seq a => fun _ e => chkE c a e
  | .rng1 a => fun _ e => match e with
    | .Call (.Name x _) [v] [] _ => decide (x = ("range" : Str)) && isGl c.sc "range" && chkE c a v
    | _ => false
  | .rng2 a b => fun _ e => match e with
    | .Call (.Name x _) [v, u] [] _ => decide (x = ("range" : Str)) && isGl c.sc "range" && chkE c a v && chkE c b u
    | _ => false
  | .enm a => fun t e => match e with
    | .Call (.Name x _) [v] [] _ => decide (x = ("enumerate" : Str)) && isGl c.sc "enumerate" && chkE c a v && tupX t
    | _ => false
  | .zip a b => fun t e => match e with
    | .Call (.Name x _) [v, u] [] _ => decide (x = ("zip" : Str)) && isGl c.sc "zip" && chkE c a v && chkE c b u && tupX t
    | _ => false
end
end Mn

namespace Mn
open PySem PySem.Spec PyProof.Rows L2

/-! the check is right: expressions -/
def bltNames : List Str := ["len", "tuple", "list", "all", "any", "max", "min", "abs", "isinstance", "repr", "int", "bool", "str", "dict", "range", "enumerate", "zip"]
/-- where a def of the text stands -/
def FnPl (K : PySem.W.Frag) (mg : Str → Option Value) (f : Fn) (a : Addr) : Prop := match f.cls with
  | none => mg f.nm = some (.ref a)
  | some c => ∃ C, mg c = some (.ref C) ∧ Meth K C f.nm a ∧ Cls K C ∧ (f.nm = "__init__" → PySem.W.findIn K (.ref C) "__init__" = some (some (.ref a)))
/-- a class whose exceptions are made with a text -/
structure RseF (K : PySem.W.Frag) (mg : Str → Option Value) (x : Str) (C : Addr) : Prop where
  mg_ : mg x = some (.ref C)
  q : PySem.W.excIn K C [.type "ValueError", .type "Exception", .type "BaseException", .type "object"] "ValueError.__new__" = true
  kp : PySem.W.keepIn K (.ref C) = true
  ef : ExcF K C
  ty : PySem.W.typeIn K (.ref C) = some (.type "type")
/-- what the head says of the text's own things -/
structure GlF (G : Glo) (K : PySem.W.Frag) (mg : Str → Option Value) : Prop where
  mks : ∀ x ∈ G.mks, ∃ C f, mg x = some (.ref C) ∧ Cls K C ∧ Mk K C f
  flds : ∀ q ∈ G.flds, ∀ C, mg q.1 = some (.ref C) → NoAttr K C q.2
  rses : ∀ x ∈ G.rses, ∃ C, RseF K mg x C
  isxs : ∀ q ∈ G.isxs, (∀ k b C u, q.2.2.lookup k = some b → mg k = some (.ref C) → ClsV mg q.2.1 u → PySem.W.kitOne K (.ref C) u = some b) ∧ match q.2.1 with
    | .gl x => q.1 = x ∧ ∃ C, mg x = some (.ref C)
    | .ty n => mg q.1 = none ∧ bootBuiltins q.1 = some (.type n)
    | _ => False
  catm : ∀ q ∈ G.catm, ∃ cvs : List Value, cvs.length = q.1.length ∧ (∀ (i : Nat) (x : Str) (cv : Value), q.1[i]? = some x → cvs[i]? = some cv → mg x = some cv ∨ (mg x = none ∧ bootBuiltins x = some cv)) ∧ ∀ k b C, q.2.lookup k = some b → mg k = some (.ref C) → PySem.W.exmAny K (.ref C) cvs = some b
  cats : ∀ q ∈ G.cats, ∃ cv, (mg q.1 = some cv ∨ (mg q.1 = none ∧ bootBuiltins q.1 = some cv)) ∧ ∀ k b C, q.2.lookup k = some b → mg k = some (.ref C) → PySem.W.exmOne K (.ref C) cv = some b
def BX.tB : BX → String
  | .V => "ValueError" | .R => "RuntimeError" | .L => "LookupError" | .O => "OverflowError" | .K => "KeyError"
def BX.tO : BX → String
  | .V => "ValueError" | .R => "RuntimeError" | .L => "LookupError" | .O => "OverflowError" | .K => "LookupError"
def BX.tN : BX → String
  | .V => "ValueError.__new__" | .R => "RuntimeError.__new__" | .L => "LookupError.__new__" | .O => "OverflowError.__new__" | .K => "LookupError.__new__"
def BX.tI : BX → String
  | .V => "ValueError.__init__" | .R => "RuntimeError.__init__" | .L => "LookupError.__init__" | .O => "OverflowError.__init__" | .K => "KeyError.__init__"
def BX.bm : BX → List Value
  | .V => [.type "ValueError", .type "Exception", .type "BaseException", .type "object"] | .R => [.type "RuntimeError", .type "Exception", .type "BaseException", .type "object"]
  | .L => [.type "LookupError", .type "Exception", .type "BaseException", .type "object"] | .O => [.type "OverflowError", .type "ArithmeticError", .type "Exception", .type "BaseException", .type "object"]
  | .K => [.type "KeyError", .type "LookupError", .type "Exception", .type "BaseException", .type "object"]
theorem BX.ok : ∀ b : BX, ExB b.tB b.tO b.tN b.tI b.bm
  | .V => exB_V | .R => exB_R | .L => exB_L | .O => exB_O | .K => exB_K
/-- an own exception with a field: class, field, bottom, whose __init__ it calls -/
def RsxF (P : Program) (w : World) (K : PySem.W.Frag) (mg : Str → Option Value) (base : Heap) (q : RX) : Prop := ∃ C fI fd sf yf, mg q.cl = some (.ref C) ∧ ExI K C fI q.b.bm q.b.tN q.f ∧ ExcF K C ∧ NoAttr K C q.f ∧ ShpOk K fd [sf, yf] ⟨2, [], [.ps 0, .ps 1]⟩ ∧
  FnOk P w K mg base (L2.CX P w) 1 fI fd [sf, yf] (spI C q.f)
structure Wf (c : Ck) (p : Pm) (k : Nat) (call : Calls') (X : Cx) (W : WX) : Prop where
  hK : p.K = X.K
  hM : p.mg = X.mg
  hP : p.P = X.prog ∧ p.w = X.w
  sc : X.env.scope = c.sc
  N : X.N = c.N
  nd : c.N.Nodup
  calm : X.calm = true
  gd : X.A.guards = some []
  room : Room (2 * k + 3) X.A
  fn : c.fnc = true → ∀ x, X.fn x = true
  tk : Takes X W
  fns : ∀ i f, c.G.fns[i]? = some f → ∃ a fd, FnPl X.K X.mg f a ∧ PySem.W.keepIn X.K (.ref a) = true ∧ (∀ sh ∈ f.shps, ShpOk X.K fd f.ps sh) ∧ FnG X.prog X.w X.K X.mg X.base (L2.CX X.prog X.w) (2 * k + 2) a fd f.ps (spG p f.ps.length (call i))
  cons : ∀ q ∈ c.G.cons, ∃ u v, X.mg q.1 = some u ∧ RelV v u ∧ ∀ ρ H, VR p ρ H q.2 v
  glf : GlF c.G X.K X.mg
  rsx : ∀ q ∈ c.G.rsxs, RsxF X.prog X.w X.K X.mg X.base q
  blt : ∀ x ∈ bltNames, X.mg x = none
section
variable {c : Ck} {p : Pm} {k : Nat} {call : Calls'} {X : Cx} {W : WX}
theorem Wf.un (h : Wf c p k call X W) : X.A.units + 200 < cLine := by have := h.room.un; omega
theorem Wf.vis (h : Wf c p k call X W) {x : Str} (e : isVis c.sc x = true) : Vis X.env.scope x := by
  rw [h.sc]
  unfold isVis at e
  split at e
  · exact .inl (by assumption)
  · exact .inr (.inl (by assumption))
  · exact .inr (.inr (by assumption))
  · cases e
theorem Wf.loc (h : Wf c p k call X W) {x : Str} (e : isLoc c.sc x c.fnc = true) : Loc X.env.scope x ∧ (X.fn x = true ∨ X.env.scope.names.lookup x = some .local) := by
  rw [h.sc]
  unfold isLoc at e
  split at e
  · exact ⟨.inl (by assumption), .inr (by assumption)⟩
  · exact ⟨.inr (by assumption), .inl (h.fn e x)⟩
  · cases e
theorem Wf.gl (h : Wf c p k call X W) {x : Str} (e : isGl c.sc x = true) : Gl X x := by
  show X.env.scope.names.lookup x = some .globalImplicit
  rw [h.sc]
  unfold isGl at e
  split at e
  · assumption
  · cases e
theorem Wf.at (h : Wf c p k call X W) {i : Nat} {x : Str} (e : decide (c.N[i]? = some x) = true) : X.N[i]? = some x := by
  rw [h.N]; exact of_decide_eq_true e
theorem chk_starred {c : Ck} {x : Expr} {q : Pos} (a : Ex) : chkE c a (.Starred x q) = false := by cases a <;> rw [chkE]
theorem chk_set {c : Ck} {x y : _} {q : Pos} (a : Ex) : chkE c a (.Set x y q) = false := by cases a <;> rw [chkE]
theorem chk_slice {c : Ck} {x y z : Option Expr} {q : Pos} (a : Ex) : chkE c a (.Slice x y z q) = false := by cases a <;> rw [chkE]
theorem plain_of : ∀ {a : Ex} {e : Expr}, chkE c a e = true → plainX e = true
  | a, e, h => by
    cases e <;> first | rfl | (rw [chk_starred] at h; cases h) | (rw [chk_set] at h; cases h) | (rw [chk_slice] at h; cases h)
theorem plains_of : ∀ {as : Exs} {es : List Expr}, chkEs c as es = true → es.all plainX = true
  | .nil, [], _ => rfl
  | .nil, _ :: _, h => by unfold chkEs at h; cases h
  | .cons a r, [], h => by unfold chkEs at h; cases h
  | .cons a r, x :: t, h => by
    unfold chkEs at h
    rw [Bool.and_eq_true] at h
    rw [List.all_cons, plain_of h.1, plains_of h.2]
    rfl
theorem bo_ok (o : BO) (h : Wf c p k call X W) : OpD X p (binaryOp o.op) o.g := by
  match o with
  | .add => exact opd_add h.hK
  | .sub => exact opd_sub
  | .mul => exact opd_mul
  | .fdiv => exact opd_fdiv
  | .mod => exact opd_mod
  | .pow => exact opd_pow
  | .shl => exact opd_shl
  | .shr => exact opd_shr
  | .band => exact opd_and
theorem ig_ok (o : BO) : OpD X p (inplaceOp o.op) o.ig := by
  match o with
  | .add =>
    intro pins s σ H x y v u Q ρ S d e d' S' I hc hx hy rx ry hg k
    cases d <;> cases e <;> first | cases hg; done | skip
    cases hg
    cases hx
    cases hy
    obtain ⟨t, rfl⟩ := rx
    obtain ⟨t2, rfl⟩ := ry
    exact iadd_int ⟨.int _, H, I.tok _, ⟨_, rfl⟩, k.here hc rfl⟩
  | .sub | .mul | .fdiv | .mod | .pow | .shl | .shr | .band => exact fun _ _ _ _ _ _ _ _ _ _ _ _ _ _ _ _ _ _ _ _ _ hg _ => nomatch hg
theorem co_ok (o : CO) (h : Wf c p k call X W) : OpD X p (compareOp o.op) o.g := by
  have hu := h.un
  match o with
  | .eq => exact opd_eq h.hK (by omega)
  | .ne => exact opd_ne h.hK (by omega)
  | .lt => exact opd_lt
  | .le => exact opd_le
  | .gt => exact opd_gt
  | .ge => exact opd_ge
  | .is => exact opd_is
  | .isn => exact opd_isnot
  | .inn => exact opd_in h.hK (by omega)
  | .nin => exact opd_notin h.hK (by omega)
theorem bf_ok (f : BF) (h : Wf c p k call X W) : CallD X p f.v f.g := by
  have hu := h.un
  cases f
  · exact cd_len h.hK
  · exact cd_tuple h.hK
  · exact cd_list h.hK
  · exact cd_all h.hK h.calm
  · exact cd_any h.hK h.calm
  · exact cd_max h.calm
  · exact cd_min h.calm
  · exact cd_abs
  · exact cd_isi h.hK
  · exact cd_repr h.hK h.gd (by omega)
theorem bf_boot (f : BF) : bootBuiltins f.nm = some f.v := by cases f <;> kernel_rfl
theorem bf_nm (f : BF) : f.nm ∈ bltNames ∧ okNm f.nm = true := by cases f <;> exact ⟨by decide +kernel, by decide +kernel⟩
theorem bt_boot (t : BT) : bootBuiltins t.nm = some (.type t.t) := by cases t <;> kernel_rfl
theorem bt_nm (t : BT) : t.nm ∈ bltNames ∧ okNm t.nm = true := by cases t <;> exact ⟨by decide +kernel, by decide +kernel⟩
theorem ge_bf {f : BF} {pp pos : Pos} {e : Expr} {es : List Expr} {r : DA} (h : Wf c p k call X W) (hg : isGl c.sc f.nm = true) (ha : PA X (e :: es) (GA p W r)) (hs : (e :: es).all plainX = true) : PE X (.Call (.Name f.nm pp) (e :: es) [] pos) (GE p W (calE f.g r)) := by
  have hb := bf_boot f
  have hn := bf_nm f
  obtain ⟨d1, d2, d3⟩ := okNm_ok hn.2
  have hm := h.blt _ hn.1
  have hc := bf_ok f h
  cases f <;> first | exact ge_callB hc (h.gl hg) hm hb d3 d1 ha hs | exact ge_callTy hc (h.gl hg) hm hb d3 d1 ha hs
theorem ge_bt {t : BT} {pp : Pos} (h : Wf c p k call X W) (hg : isGl c.sc t.nm = true) : PE X (.Name t.nm pp) (GE p W (cstD (.ty t.t))) := by
  have hn := bt_nm t
  obtain ⟨d1, d2, d3⟩ := okNm_ok hn.2
  refine ⟨fun pins s σ H Q I ⟨ρ, S, env, he, hc, hq⟩ => ld_blt I (h.gl hg) (h.blt _ hn.1) (bt_boot t) ⟨.ty t.t, H, I, rfl, hq ρ H (.refl ..) hc _ rfl⟩ d3 d1⟩
theorem mt_ok (m : MT) (h : Wf c p k call X W) : MtD X p m.id m.T m.g := by
  cases m
  · exact md_append
  · exact md_index h.hK
  · exact md_count h.hK
theorem mt_facts (m : MT) : PlainAttrs m.T ∧ Slot m.T m.nm m.id ∧ typeOf (.builtin m.id) = pure (.type "method_descriptor") := by
  cases m
  · exact ⟨PySem.F.plainAttrs_list, PySem.F.slot_list_append, PySem.F.type_list_append⟩
  · exact ⟨PySem.F.plainAttrs_list, PySem.F.slot_list_index, PySem.F.type_list_index⟩
  · exact ⟨PySem.F.plainAttrs_list, PySem.F.slot_list_count, PySem.F.type_list_count⟩
end
end Mn

namespace Mn
open PySem PySem.Spec PyProof.Rows L2

section
variable {p : Pm} {k : Nat} {call : Calls'}
theorem Wf.inner {c : Ck} {X : Cx} {W : WX} (h : Wf c p k call X W) (scope : Scope) (s : Shared) (H : Hp) (C : Addr) (cl : List (Str × Addr)) (fp : List Addr) : Wf (c.inn scope) p k call (X.blk s H scope (compEnvC scope cl C X.env) fp) W0 where
  hK := h.hK
  hM := h.hM
  hP := h.hP
  sc := by show relS scope X.env.scope = relS scope c.sc; rw [h.sc]
  N := h.N
  nd := h.nd
  calm := h.calm
  gd := h.gd
  room := h.room
  fn := fun e => by cases e
  tk := takes0
  fns := h.fns
  cons := h.cons
  glf := h.glf
  rsx := h.rsx
  blt := h.blt
theorem eqBO_ok {b : Bool} {op : BoolOp} (h : eqBO b op = true) : op = if b then .And else .Or := by
  cases op <;> cases b <;> first | rfl | cases h
mutual
theorem sndG {c : Ck} {X : Cx} {W : WX} {R : SR} (hR : SRok R) (vs : Option (List Nat)) (hv : ∀ i, inVs vs i = true → ∀ σ v, R σ (σ.set i (some v))) (h : Wf c p k call X W) :
    ∀ (t : Tg) (e : Expr), chkG c vs t e = true → PG X e (GG p R (evG t)) ∧ plainX e = true
  | .nm i, e, q => by
    unfold chkG at q
    split at q
    · rw [Bool.and_eq_true, Bool.and_eq_true] at q
      obtain ⟨l1, l2⟩ := h.loc q.1.2
      exact ⟨gg_name (h.N ▸ h.nd) (h.at q.1.1) l1 l2 (hv i q.2), rfl⟩
    · cases q
  | .tp ts, e, q => by
    unfold chkG at q
    split at q
    · obtain ⟨g, pl, hl⟩ := sndGs hR vs hv h ts _ q
      unfold evG
      rw [← hl]
      exact ⟨gg_tup h.hK h.calm g pl, rfl⟩
    · cases q
theorem sndGs {c : Ck} {X : Cx} {W : WX} {R : SR} (hR : SRok R) (vs : Option (List Nat)) (hv : ∀ i, inVs vs i = true → ∀ σ v, R σ (σ.set i (some v))) (h : Wf c p k call X W) :
    ∀ (ts : Tgs) (es : List Expr), chkGs c vs ts es = true → PGs X es (GGs p R (evGs ts)) ∧ es.all plainX = true ∧ es.length = lenGs ts
  | .nil, es, q => by
    unfold chkGs at q
    split at q
    · exact ⟨ggs_nil hR, rfl, rfl⟩
    · cases q
  | .cons t ts, es, q => by
    unfold chkGs at q
    split at q
    · rw [Bool.and_eq_true] at q
      obtain ⟨g1, p1⟩ := sndG hR vs hv h t _ q.1
      obtain ⟨g2, p2, l2⟩ := sndGs hR vs hv h ts _ q.2
      exact ⟨ggs_cons hR g1 g2 p1, by rw [List.all_cons, p1, p2]; rfl, by rw [List.length_cons, l2]; rfl⟩
    · cases q
end
theorem fnAt_ok {c : Ck} {cl : Option Str} {i : Nat} {x : Str} {sh : Shp} (h : fnAt c cl i x sh = true) : ∃ f, c.G.fns[i]? = some f ∧ f.cls = cl ∧ f.nm = x ∧ sh ∈ f.shps := by
  unfold fnAt at h
  split at h
  · rename_i f hf
    rw [Bool.and_eq_true, Bool.and_eq_true, List.any_eq_true] at h
    obtain ⟨⟨h0, h1⟩, s, hs, h2⟩ := h
    exact ⟨f, hf, of_decide_eq_true h0, of_decide_eq_true h1, eqShp_ok h2 ▸ hs⟩
  · cases h
theorem isxAt_ok {c : Ck} {x : Str} {cd : D} {tab : List (Str × Bool)} (h : isxAt c x cd tab = true) : ∃ cd', clsB cd cd' = true ∧ (x, cd', tab) ∈ c.G.isxs := by
  unfold isxAt at h
  rw [List.any_eq_true] at h
  obtain ⟨⟨y, e, tb⟩, hq, h1⟩ := h
  rw [Bool.and_eq_true, Bool.and_eq_true] at h1
  cases of_decide_eq_true h1.1.1
  cases of_decide_eq_true h1.2
  exact ⟨e, h1.1.2, hq⟩
theorem clsB_eq {a b : D} (h : clsB a b = true) : a = b := by
  unfold clsB at h
  split at h
  · rw [of_decide_eq_true h]
  · rw [of_decide_eq_true h]
  · cases h
/-- a class's name as an argument -/
theorem ge_cls {c : Ck} {X : Cx} {W : WX} {x : Str} {cd : D} {tab : List (Str × Bool)} {pos : Pos} (h : Wf c p k call X W) (hq : (x, cd, tab) ∈ c.G.isxs) (hg : isGl c.sc x = true) (hn : okNm x = true) : PE X (.Name x pos) (GE p W (cstD cd)) := by
  have f := (h.glf.isxs _ hq).2
  have n := okNm_ok hn
  cases cd with
  | gl y =>
    obtain ⟨e, C, m⟩ := f
    obtain rfl : x = y := e
    exact ⟨fun pins s σ H Q I ⟨ρ, S, env, he, hc, hq⟩ => ld_glob I (h.gl hg) m ⟨.ref C, H, I, rfl, hq ρ H (.refl ..) hc _ ⟨C, rfl, by rw [h.hM]; exact m⟩⟩ n.1⟩
  | ty T =>
    obtain ⟨m, b⟩ := f
    exact ⟨fun pins s σ H Q I ⟨ρ, S, env, he, hc, hq⟩ => ld_blt I (h.gl hg) m b ⟨.ty T, H, I, rfl, hq ρ H (.refl ..) hc _ rfl⟩ n.2.2 n.1⟩
  | _ => exact f.elim
theorem conAt_ok {c : Ck} {x : Str} {d : D} (h : conAt c x d = true) : (x, d) ∈ c.G.cons := by
  unfold conAt at h
  rw [List.any_eq_true] at h
  obtain ⟨⟨y, e⟩, hq, h1⟩ := h
  rw [Bool.and_eq_true] at h1
  cases of_decide_eq_true h1.1
  cases eqDs_ok h1.2
  exact hq
theorem ge_glo {c : Ck} {X : Cx} {W : WX} {x : Str} {d : D} {pos : Pos} (h : Wf c p k call X W) (hq : (x, d) ∈ c.G.cons) (hg : isGl c.sc x = true) (hn : okNm x = true) : PE X (.Name x pos) (GE p W (cstD d)) := by
  obtain ⟨u, v, e1, e2, e3⟩ := h.cons _ hq
  exact ⟨fun pins s σ H Q I ⟨ρ, S, env, he, hc, hq⟩ => ld_glob I (h.gl hg) e1 ⟨v, H, I, e2, hq ρ H (.refl ..) hc _ (e3 ρ H)⟩ (okNm_ok hn).1⟩
theorem ge_cst {X : Cx} {W : WX} {d : D} {kk : Const} {j : Nat} {pos : Pos} (h : cstB d kk = true) : PE X (.Constant kk j pos) (GE p W (cstD d)) := by
  unfold cstB at h
  split at h
  · exact ge_of_c pe_non fun _ _ => rfl
  · rw [eq_of_beq h]; exact ge_of_c pe_bl fun _ _ => rfl
  · rw [of_decide_eq_true h]; exact ge_of_c pe_int fun _ _ => rfl
  · rw [of_decide_eq_true h]; exact ge_of_c pe_str fun _ _ => rfl
  · cases h
theorem own_map {c : Ck} {vs : List Nat} : ∀ q ∈ (vs.filterMap fun v => (c.N[v]?).map fun n => (n, v)), q.2 ∈ vs := by
  intro q hq
  rw [List.mem_filterMap] at hq
  obtain ⟨v, hv, e⟩ := hq
  cases z : c.N[v]? with
  | none => rw [z] at e; cases e
  | some n => rw [z] at e; cases e; exact hv
theorem mem_lookup {α : Type} {x : Str} {v : α} : ∀ {l : List (Str × α)}, l.lookup x = some v → (x, v) ∈ l
  | [], h => by cases h
  | (y, w) :: r, h => by
    by_cases q : x = y
    · subst q
      simp [List.lookup] at h
      rw [h]
      exact List.mem_cons_self
    · have e : (x == y) = false := by simpa using q
      have e1 : ((y, w) :: r).lookup x = r.lookup x := by simp [List.lookup, e]
      rw [e1] at h
      exact List.mem_cons_of_mem _ (mem_lookup h)
theorem mto_ks {c : Ck} {m : Str} {kws : List Keyword} {tab : MTab} (h : (tab.all fun q => fnAt c (some q.1) q.2.1 m q.2.2 && decide (kws.map (·.arg) = q.2.2.ks.map some)) = true) (n : (!tab.isEmpty) = true) : ∃ ks' : List Str, kws.map (·.arg) = ks'.map some := by
  cases tab with
  | nil => cases n
  | cons z zs =>
    have e1 := List.all_eq_true.mp h z List.mem_cons_self
    rw [Bool.and_eq_true] at e1
    exact ⟨z.2.2.ks, of_decide_eq_true e1.2⟩
mutual
theorem sndE {c : Ck} {X : Cx} {W : WX} (h : Wf c p k call X W) : ∀ (a : Ex) (e : Expr), chkE c a e = true → PE X e (GE p W (evE call a))
  | .var i, e, q => by
    unfold chkE at q
    split at q
    · rw [Bool.and_eq_true, Bool.and_eq_true] at q
      have n := okNm_ok q.2
      exact ge_var (h.at q.1.1) (h.vis q.1.2) n.1 n.2.1
    · cases q
  | .cst d, e, q => by
    unfold chkE at q
    split at q
    · exact ge_cst q
    · cases q
  | .glo x d, e, q => by
    unfold chkE at q
    split at q
    · rw [Bool.and_eq_true, Bool.and_eq_true, Bool.and_eq_true] at q
      cases of_decide_eq_true q.1.1.1
      exact ge_glo h (conAt_ok q.1.1.2) q.1.2 q.2
    · cases q
  | .bty t, e, q => by
    unfold chkE at q
    split at q
    · rw [Bool.and_eq_true] at q
      cases of_decide_eq_true q.1
      exact ge_bt h q.2
    · cases q
  | .bin o a b, e, q => by
    unfold chkE at q
    split at q
    · rw [Bool.and_eq_true, Bool.and_eq_true] at q
      cases of_decide_eq_true q.1.1
      exact ge_bin (bo_ok o h) (sndE h a _ q.1.2) (sndE h b _ q.2)
    · cases q
  | .cmp o a b, e, q => by
    unfold chkE at q
    split at q
    · rw [Bool.and_eq_true, Bool.and_eq_true] at q
      cases of_decide_eq_true q.1.1
      exact ge_cmp (co_ok o h) (sndE h a _ q.1.2) (sndE h b _ q.2) (marks_plain (plain_of q.2) _)
    · cases q
  | .chn o1 o2 a b d, e, q => by
    unfold chkE at q
    split at q
    · rw [Bool.and_eq_true, Bool.and_eq_true, Bool.and_eq_true, Bool.and_eq_true] at q
      cases of_decide_eq_true q.1.1.1.1
      cases of_decide_eq_true q.1.1.1.2
      exact ge_chain (co_ok o1 h) (co_ok o2 h) (sndE h a _ q.1.1.2) (sndE h b _ q.1.2) (sndE h d _ q.2) (lmarks_plain (plain_of q.2) _ _)
    · cases q
  | .notq a, e, q => by
    unfold chkE at q
    split at q
    · exact ge_not h.hK (sndE h a _ q)
    · cases q
  | .boo b es, e, q => by
    unfold chkE at q
    split at q
    · rw [Bool.and_eq_true, Bool.and_eq_true] at q
      cases eqBO_ok q.1.1
      exact sndB h b es _ q.2 q.1.2
    · cases q
  | .ite t a b, e, q => by
    unfold chkE at q
    split at q
    · rw [Bool.and_eq_true, Bool.and_eq_true] at q
      exact ge_ite (sndT h t _ q.1.1) (sndE h a _ q.1.2) (sndE h b _ q.2)
    · cases q
  | .neg a, e, q => by
    unfold chkE at q
    split at q
    · exact ge_neg (sndE h a _ q)
    · cases q
  | .tup es, e, q => by
    unfold chkE at q
    split at q
    · exact ge_tup (sndA h es _ q)
    · cases q
  | .lst es, e, q => by
    unfold chkE at q
    split at q
    · exact ge_lst (sndA h es _ q)
    · cases q
  | .dic0, e, q => by
    unfold chkE at q
    split at q
    · exact ge_dic0
    · cases q
  | .idx a b, e, q => by
    have hu := h.un
    unfold chkE at q
    split at q
    · rw [Bool.and_eq_true] at q
      exact ge_idx (ixd h.hK (by omega)) (sndE h a _ q.1) (sndE h b _ q.2) (plain_of q.2)
    · cases q
  | .slc a lo hi, e, q => by
    unfold chkE at q
    split at q
    · rw [Bool.and_eq_true, Bool.and_eq_true] at q
      exact ge_slice h.hK (sndE h a _ q.1.1) (sndO h lo _ q.1.2) (sndO h hi _ q.2)
    · cases q
  | .rev a b, e, q => by
    unfold chkE at q
    split at q
    · rw [Bool.and_eq_true] at q
      exact ge_rev h.hK (sndE h a _ q.1) (sndE h b _ q.2)
    · cases q
  | .bfn f es, e, q => by
    unfold chkE at q
    split at q
    · rw [Bool.and_eq_true, Bool.and_eq_true] at q
      cases of_decide_eq_true q.1.1
      exact ge_bf h q.1.2 (sndA h es _ q.2) (plains_of q.2)
    · cases q
  | .own i sh es ks, e, q => by
    unfold chkE at q
    split at q
    · rw [Bool.and_eq_true, Bool.and_eq_true, Bool.and_eq_true, Bool.and_eq_true, Bool.and_eq_true] at q
      obtain ⟨⟨⟨⟨⟨q1, q2⟩, q3⟩, q4⟩, q5⟩, q6⟩ := q
      obtain ⟨f, hf, hcl, rfl, hsh⟩ := fnAt_ok q1
      obtain ⟨a, fd, m1, m2, m3, m4⟩ := h.fns i f hf
      unfold FnPl at m1
      rw [hcl] at m1
      refine ge_call h.hK m4 (h.room.mono (by omega)) h.gd h.tk (h.gl q2) m1 m2 (okNm_ok q3).1 (m3 sh hsh) (sndA h es _ q4) (sndK h ks _ q5) (plains_of q4) (fun e => ?_) (of_decide_eq_true q6)
      subst e
      cases es with
      | nil => rfl
      | cons _ _ => unfold chkEs at q4; cases q4
    · cases q
  | .mth m o es, e, q => by
    unfold chkE at q
    split at q
    · rw [Bool.and_eq_true, Bool.and_eq_true, Bool.and_eq_true, Bool.and_eq_true, Bool.and_eq_true] at q
      obtain ⟨⟨⟨⟨⟨q1, q2⟩, q3⟩, q4⟩, q5⟩, q6⟩ := q
      cases of_decide_eq_true q1
      obtain ⟨f1, f2, f3⟩ := mt_facts m
      exact ge_mth h.hK f1 f2 f3 (mt_ok m h) (sndE h o _ q2) (sndA h es _ q3) q4 (plains_of q3) (of_decide_eq_true q5) q6
    · cases q
  | .lcp vs g tg ts el, e, q => by
    unfold chkE at q
    split at q
    · rename_i sc _
      rw [Bool.and_eq_true, Bool.and_eq_true, Bool.and_eq_true, Bool.and_eq_true, Bool.and_eq_true] at q
      obtain ⟨⟨⟨⟨⟨q1, q2⟩, q3⟩, q4⟩, q5⟩, q6⟩ := q
      obtain ⟨i1, i2⟩ := sndI h g _ _ q1
      rw [← h.N, ← h.sc] at q2
      have e3 := of_decide_eq_true q3
      rw [← h.N] at e3
      refine ge_comp h.calm (h.N ▸ h.nd) i1 (blkOk_by q2) e3 (fun s H C cl fp => ?_) (fun s H C cl fp => ?_) (fun s H C cl fp => ?_) i2
      · exact (sndG (wipeR_ok vs) (some vs) (fun i hi σ v => wipe_set σ i _ vs (of_decide_eq_true hi)) (h.inner sc s H C cl fp) tg _ q4).1
      · exact sndC (h.inner sc s H C cl fp) ts _ q5
      · exact sndE (h.inner sc s H C cl fp) el _ q6
    · cases q
  | .scp vs g tg el, e, q => by
    unfold chkE at q
    split at q
    · rename_i sc _
      rw [Bool.and_eq_true, Bool.and_eq_true, Bool.and_eq_true, Bool.and_eq_true] at q
      obtain ⟨⟨⟨⟨q1, q2⟩, q3⟩, q4⟩, q6⟩ := q
      obtain ⟨i1, i2⟩ := sndI h g _ _ q1
      rw [← h.N, ← h.sc] at q2
      have e3 := of_decide_eq_true q3
      rw [← h.N] at e3
      refine ge_sk h.hP h.calm (h.N ▸ h.nd) i1 (blkOk_by q2) e3 (fun s H C cl fp => ?_) (fun s H C cl fp => ?_) i2
      · exact (sndG (wipeR_ok vs) (some vs) (fun i hi σ v => wipe_set σ i _ vs (of_decide_eq_true hi)) (h.inner sc s H C cl fp) tg _ q4).1
      · exact sndE (h.inner sc s H C cl fp) el _ q6
    · cases q
  | .fld f o, e, q => by
    unfold chkE at q
    split at q
    · rw [Bool.and_eq_true, Bool.and_eq_true] at q
      cases of_decide_eq_true q.1.1
      exact ge_fld h.hK (sndE h o _ q.1.2) q.2
    · cases q
  | .mto m tab o es ks, e, q => by
    unfold chkE at q
    split at q
    · rw [Bool.and_eq_true, Bool.and_eq_true, Bool.and_eq_true, Bool.and_eq_true, Bool.and_eq_true, Bool.and_eq_true, Bool.and_eq_true, Bool.and_eq_true] at q
      obtain ⟨⟨⟨⟨⟨⟨⟨⟨q1, q2⟩, q3⟩, q4⟩, q5⟩, q6⟩, q7⟩, q8⟩, q9⟩ := q
      cases of_decide_eq_true q1
      have each := List.all_eq_true.mp q8
      obtain ⟨ks', hks⟩ := mto_ks q8 q9
      refine ge_mown (k := 2 * k + 2) (ks := ks') h.hK h.hM (h.room.mono (by omega)) h.gd h.tk (fun cl i sh hl => ?_) (sndE h o _ q2) (sndA h es _ q3) (sndK h ks _ q4) (plains_of q3) (fun e => ?_) hks q5 (of_decide_eq_true q6) q7
      · have e1 := each (cl, i, sh) (mem_lookup hl)
        rw [Bool.and_eq_true] at e1
        obtain ⟨f, hf, hcl, hnm, hsh⟩ := fnAt_ok e1.1
        obtain ⟨a, fd, m1, m2, m3, m4⟩ := h.fns i f hf
        unfold FnPl at m1
        rw [hcl] at m1
        obtain ⟨C, c1, c2, c3, c4⟩ := m1
        subst hnm
        have e2 := hks.symm.trans (of_decide_eq_true e1.2)
        exact ⟨(List.map_inj_right (fun _ _ z => Option.some.inj z)).mp e2.symm, C, a, fd, f.ps, c1, c2, m3 sh hsh, m4⟩
      · subst e
        cases es with
        | nil => rfl
        | cons _ _ => unfold chkEs at q3; cases q3
    · cases q
  | .mk cl i sh es ks, e, q => by
    unfold chkE at q
    split at q
    · rw [Bool.and_eq_true, Bool.and_eq_true, Bool.and_eq_true, Bool.and_eq_true, Bool.and_eq_true, Bool.and_eq_true, Bool.and_eq_true] at q
      obtain ⟨⟨⟨⟨⟨⟨⟨q1, q2⟩, q3⟩, q4⟩, q5⟩, q6⟩, q7⟩, q8⟩ := q
      cases of_decide_eq_true q1
      obtain ⟨f, hf, hcl, hnm, hsh⟩ := fnAt_ok q3
      obtain ⟨a, fd, m1, m2, m3, m4⟩ := h.fns i f hf
      unfold FnPl at m1
      rw [hcl] at m1
      obtain ⟨C, c1, c2, c3, c4⟩ := m1
      obtain ⟨C', g, n1, n2, n3⟩ := h.glf.mks _ (of_decide_eq_true q2)
      rw [c1] at n1
      cases n1
      have e1 := c4 hnm
      rw [n3.init] at e1
      cases e1
      refine ge_make h.hK h.hM n3 n2 m4 h.room h.gd h.tk (h.gl q4) c1 (okNm_ok q5).1 (m3 sh hsh) (sndA h es _ q6) (sndK h ks _ q7) (plains_of q6) (fun e => ?_) (of_decide_eq_true q8)
      subst e
      cases es with
      | nil => rfl
      | cons _ _ => unfold chkEs at q6; cases q6
    · cases q
  | .isx x cd tab a, e, q => by
    unfold chkE at q
    split at q
    · rw [Bool.and_eq_true, Bool.and_eq_true, Bool.and_eq_true, Bool.and_eq_true, Bool.and_eq_true, Bool.and_eq_true] at q
      obtain ⟨⟨⟨⟨⟨⟨q1, q2⟩, q3⟩, q4⟩, q5⟩, q6⟩, q7⟩ := q
      cases of_decide_eq_true q1
      cases of_decide_eq_true q3
      obtain ⟨cd', e1, hm⟩ := isxAt_ok q6
      cases clsB_eq e1
      refine ge_callB (cd_isx h.hK fun kk b C u e1 e2 e3 => (h.glf.isxs _ hm).1 kk b C u e1 (by rw [← h.hM]; exact e2) (by rw [← h.hM]; exact e3)) (h.gl q2) (h.blt _ (by decide +kernel)) (by kernel_rfl) (by decide +kernel) (by decide +kernel) (ga_cons (sndE h a _ q7) (ga_cons (ge_cls h hm q4 q5) ga_nil rfl) (plain_of q7)) ?_
      rw [List.all_cons, plain_of q7]
      rfl
    · cases q
theorem sndO {c : Ck} {X : Cx} {W : WX} (h : Wf c p k call X W) : ∀ (a : Op) (e : Option Expr), chkO c a e = true → PO X e (GO p W (evO call a))
  | .no, e, q => by
    unfold chkO at q
    split at q
    · exact go_none
    · cases q
  | .so a, e, q => by
    unfold chkO at q
    split at q
    · exact go_some (sndE h a _ q)
    · cases q
theorem sndA {c : Ck} {X : Cx} {W : WX} (h : Wf c p k call X W) : ∀ (a : Exs) (es : List Expr), chkEs c a es = true → PA X es (GA p W (evA call a))
  | .nil, es, q => by
    unfold chkEs at q
    split at q
    · exact ga_nil
    · cases q
  | .cons a r, es, q => by
    unfold chkEs at q
    split at q
    · rw [Bool.and_eq_true] at q
      exact ga_cons (sndE h a _ q.1) (sndA h r _ q.2) (plain_of q.1)
    · cases q
theorem sndK {c : Ck} {X : Cx} {W : WX} (h : Wf c p k call X W) : ∀ (a : Exs) (es : List Keyword), chkKs c a es = true → PKG X p W es (evA call a)
  | .nil, es, q => by
    unfold chkKs at q
    split at q
    · exact gk_nil
    · cases q
  | .cons a r, es, q => by
    unfold chkKs at q
    split at q
    · rw [Bool.and_eq_true] at q
      exact gk_cons (sndE h a _ q.1) (sndK h r _ q.2)
    · cases q
theorem sndB {c : Ck} {X : Cx} {W : WX} (h : Wf c p k call X W) (b : Bool) {pos : Pos} : ∀ (a : Exs) (es : List Expr), chkEs c a es = true → consH a = true → PE X (.BoolOp (if b then .And else .Or) es pos) (GE p W (evB call b a))
  | .nil, es, q, n => by cases n
  | .cons a .nil, es, q, _ => by
    unfold chkEs at q
    split at q
    · rename_i x t
      rw [Bool.and_eq_true] at q
      have q2 := q.2
      unfold chkEs at q2
      split at q2
      · exact ge_one (sndE h a _ q.1)
      · cases q2
    · cases q
  | .cons a (.cons a2 r), es, q, _ => by
    unfold chkEs at q
    split at q
    · rename_i x t
      rw [Bool.and_eq_true] at q
      have q2 := q.2
      have ih := sndB h b (pos := pos) (.cons a2 r) _ q2 rfl
      unfold chkEs at q2
      split at q2
      · cases b with
        | true => exact ge_and h.hK (sndE h a _ q.1) ih
        | false => exact ge_or h.hK (sndE h a _ q.1) ih
      · cases q2
    · cases q
theorem sndT {c : Ck} {X : Cx} {W : WX} (h : Wf c p k call X W) : ∀ (a : Te) (e : Expr), chkT c a e = true → PT X e (GT p W (evT call a))
  | .pl a, e, q => by
    have s := sndE h a e (by unfold chkT at q; rw [Bool.and_eq_true] at q; exact q.1)
    cases e with
    | Compare l ops cs pos =>
      cases a with
      | cmp o a b =>
        unfold chkT at q
        rw [Bool.and_eq_true] at q
        have q1 := q.1
        unfold chkE at q1
        split at q1
        · rename_i e1
          cases e1
          rw [Bool.and_eq_true, Bool.and_eq_true] at q1
          cases of_decide_eq_true q1.1.1
          exact gt_cmp h.hK (co_ok o h) (sndE h a _ q1.1.2) (sndE h b _ q1.2) (marks_plain (plain_of q1.2) _)
        · cases q1
      | chn o1 o2 a b d =>
        unfold chkT at q
        rw [Bool.and_eq_true] at q
        have q1 := q.1
        unfold chkE at q1
        split at q1
        · rename_i e1
          cases e1
          rw [Bool.and_eq_true, Bool.and_eq_true, Bool.and_eq_true, Bool.and_eq_true] at q1
          cases of_decide_eq_true q1.1.1.1.1
          cases of_decide_eq_true q1.1.1.1.2
          exact gt_chain h.hK (co_ok o1 h) (co_ok o2 h) (sndE h a _ q1.1.1.2) (sndE h b _ q1.1.2) (sndE h d _ q1.2) (lmarks_plain (plain_of q1.2) _ _)
        · cases q1
      | _ => unfold chkT at q; rw [Bool.and_eq_true] at q; cases q.2
    | UnaryOp op x pos =>
      cases op with
      | Not => unfold chkT at q; rw [Bool.and_eq_true] at q; cases q.2
      | _ => exact gt_plain h.hK s fun _ => rfl
    | BoolOp op vs pos => unfold chkT at q; rw [Bool.and_eq_true] at q; cases q.2
    | IfExp x y z pos => unfold chkT at q; rw [Bool.and_eq_true] at q; cases q.2
    | _ => exact gt_plain h.hK s fun _ => rfl
  | .no t, e, q => by
    unfold chkT at q
    split at q
    · exact gt_not (sndT h t _ q)
    · cases q
  | .bo b ts, e, q => by
    unfold chkT at q
    split at q
    · rw [Bool.and_eq_true, Bool.and_eq_true] at q
      cases eqBO_ok q.1.1
      exact (sndTs h b ts _ q.2 q.1.2).pt
    · cases q
theorem sndTs {c : Ck} {X : Cx} {W : WX} (h : Wf c p k call X W) (b : Bool) {pos : Pos} : ∀ (a : Tes) (es : List Expr), chkTs c a es = true → consT a = true → PW X (.BoolOp (if b then .And else .Or) es pos) (GT p W (evTs call b a))
  | .nil, es, q, n => by cases n
  | .cons a .nil, es, q, _ => by
    unfold chkTs at q
    split at q
    · rename_i x t
      rw [Bool.and_eq_true] at q
      have q2 := q.2
      unfold chkTs at q2
      split at q2
      · cases b with
        | true => exact gw_and1 (sndT h a _ q.1)
        | false => exact gw_or1 (sndT h a _ q.1)
      · cases q2
    · cases q
  | .cons a (.cons a2 r), es, q, _ => by
    unfold chkTs at q
    split at q
    · rename_i x t
      rw [Bool.and_eq_true] at q
      have q2 := q.2
      have ih := sndTs h b (pos := pos) (.cons a2 r) _ q2 rfl
      unfold chkTs at q2
      split at q2
      · cases b with
        | true => exact gw_and (sndT h a _ q.1) ih
        | false => exact gw_or (sndT h a _ q.1) ih
      · cases q2
    · cases q
theorem sndC {c : Ck} {X : Cx} {W : WX} (h : Wf c p k call X W) : ∀ (a : Cd) (e : List Expr), chkC c a e = true → PTs X e (GT p W (evC call a))
  | .yes, e, q => by
    unfold chkC at q
    split at q
    · exact gts_nil
    · cases q
  | .one t, e, q => by
    unfold chkC at q
    split at q
    · exact gts_one (sndT h t _ q)
    · cases q
theorem sndI {c : Ck} {X : Cx} {W : WX} (h : Wf c p k call X W) : ∀ (a : It) (tg e : Expr), chkI c a tg e = true → PI X tg e (GI p W (evI call a)) ∧ plainX e = true
  | .seq a, tg, e, q => by
    unfold chkI at q
    exact ⟨gi_seq h.hK (sndE h a _ q), plain_of q⟩
  | .rng1 a, tg, e, q => by
    unfold chkI at q
    split at q
    · rw [Bool.and_eq_true, Bool.and_eq_true] at q
      cases of_decide_eq_true q.1.1
      exact ⟨gi_rng1 (h.gl q.1.2) (h.blt _ (by decide +kernel)) (ga_cons (sndE h a _ q.2) ga_nil (plain_of q.2)) (plain_of q.2), rfl⟩
    · cases q
  | .rng2 a b, tg, e, q => by
    unfold chkI at q
    split at q
    · rw [Bool.and_eq_true, Bool.and_eq_true, Bool.and_eq_true] at q
      cases of_decide_eq_true q.1.1.1
      exact ⟨gi_rng2 (h.gl q.1.1.2) (h.blt _ (by decide +kernel)) (ga_cons (sndE h a _ q.1.2) (ga_cons (sndE h b _ q.2) ga_nil (plain_of q.2)) (plain_of q.1.2)) (plain_of q.1.2) (plain_of q.2), rfl⟩
    · cases q
  | .enm a, tg, e, q => by
    unfold chkI at q
    split at q
    · rw [Bool.and_eq_true, Bool.and_eq_true, Bool.and_eq_true] at q
      cases of_decide_eq_true q.1.1.1
      cases tg <;> first
        | (cases q.2; done)
        | exact ⟨gi_enm h.hK (h.gl q.1.1.2) (h.blt _ (by decide +kernel)) (ga_cons (sndE h a _ q.1.2) ga_nil (plain_of q.1.2)) (plain_of q.1.2), rfl⟩
    · cases q
  | .zip a b, tg, e, q => by
    unfold chkI at q
    split at q
    · rw [Bool.and_eq_true, Bool.and_eq_true, Bool.and_eq_true, Bool.and_eq_true] at q
      cases of_decide_eq_true q.1.1.1.1
      cases tg <;> first
        | (cases q.2; done)
        | exact ⟨gi_zip h.hK (h.gl q.1.1.1.2) (h.blt _ (by decide +kernel)) (ga_cons (sndE h a _ q.1.1.2) (ga_cons (sndE h b _ q.1.2) ga_nil (plain_of q.1.2)) (plain_of q.1.1.2)) (plain_of q.1.1.2) (plain_of q.1.2), rfl⟩
    · cases q
end
end
end Mn

namespace Mn
open PySem PySem.Spec PyProof.Rows L2

/-! statements: the check, and that it is right -/
def isFun (sc : Scope) : Bool := match sc.kind with | .function => true | _ => false
def isLcl (sc : Scope) (x : Str) : Bool := match sc.names.lookup x with | some .local => true | _ => false
/-- what the layer asks of target = [..] -/
def swapB (sc : Scope) (cs : Scope) (t : Str) (p q : Pos) : Bool := isLcl sc t && (p.line == q.line) && !(cs.names.any fun (n, k) => n == t && (k == .local || k == .cell))
def nmsB (sc : Scope) : List Str → List Expr → Bool
  | [], [] => true
  | x :: r, .Name y _ :: es => decide (x = y) && isGl sc x && okNm x && nmsB sc r es
  | _, _ => false
mutual
def chkS (c : Ck) : St → Stmt → Bool
  | .pass => fun s => match s with
    | .Pass _ => true
    | .Expr (.Constant (.str _) _ _) _ => true
    | _ => false
  | .brk => fun s => match s with | .Break _ => true | _ => false
  | .cnt => fun s => match s with | .Continue _ => true | _ => false
  | .expr a => fun s => match s with
    | .Expr e _ => chkE c a e && noComp e
    | _ => false
  | .ret a => fun s => match s with
    | .Return (some e) _ => chkE c a e
    | _ => false
  | .retN => fun s => match s with | .Return none _ => true | _ => false
  | .asg (.nm i) (.lcp vs g tg ts el) => fun s => match s with
    | .Assign [.Name y py] e _ => (match e with
      | .ListComp _ _ sc ps => swapB c.sc sc y py ps
      | _ => false) && c.fnc && chkE c (.lcp vs g tg ts el) e && chkG c none (.nm i) (.Name y py)
    | _ => false
  | .asg t a => fun s => match s with
    | .Assign [tg] e _ => chkE c a e && chkG c none t tg && noComp e && (!isTupE tg || !isTupE e)
    | _ => false
  | .asgX ts n a => fun s => match s with
    | .Assign [.Tuple es _ _] e _ => (match es.getLast? with
      | some (.Starred x _) => chkE c a e && chkGs c none ts (es.dropLast ++ [x]) && noComp e && !isTupE e && decide (es.length = n + 1) && plainX x
      | _ => false)
    | _ => false
  | .put o i a => fun s => match s with
    | .Assign [.Subscript x y _] e _ => chkE c o x && chkE c i y && chkE c a e && noComp e
    | _ => false
  | .ifs t a b => fun s => match s with
    | .If e x y _ => chkT c t e && chkSs c a x && chkSs c b y
    | _ => false
  | .whl _ t b => fun s => match s with
    | .While e x [] _ => chkT c t e && chkSs c b x
    | _ => false
  | .forq t g b => fun s => match s with
    | .For tg it x [] _ => chkI c g tg it && chkG c none t tg && chkSs c b x
    | _ => false
  | .stf cl f o a => fun s => match s with
    | .Assign [.Attribute x g _] e _ => decide (f = g) && decide ((cl, f) ∈ c.G.flds) && chkE c o x && chkE c a e
    | _ => false
  | .augf cl f op o a => fun s => match s with
    | .AugAssign (.Attribute x g _) opp e _ => decide (f = g) && decide (op.op = opp) && decide ((cl, f) ∈ c.G.flds) && chkE c o x && chkE c a e
    | _ => false
  | .aug i op a => fun s => match s with
    | .AugAssign (.Name x _) opp e _ => decide (op.op = opp) && decide (c.N[i]? = some x) && isLoc c.sc x c.fnc && chkE c a e
    | _ => false
  | .rse cl => fun s => match s with
    | .Raise (some (.Call (.Name x _) [.Constant (.str _) _ _] [] _)) none _ => decide (cl = x) && decide (cl ∈ c.G.rses) && isGl c.sc cl && okNm cl
    | _ => false
  | .tryx x cat i j b => fun s => match s with
    | .Try body [.ExceptHandler (some (.Name z _)) (some n) [.Assign [.Name y _] (.Name n2 _) _] _] [] [] _ => decide (x = z) && decide ((x, cat) ∈ c.G.cats) && isGl c.sc x && okNm x && decide (n = n2) && decide (c.N[i]? = some n) && decide (c.N[j]? = some y) && isLcl c.sc n && isLcl c.sc y && okNm n && chkSs c b body
    | _ => false
  | .dead => fun _ => true
  | .rsx cl f a => fun s => match s with
    | .Raise (some (.Call (.Name x _) [e] [] _)) none _ => decide (cl = x) && (c.G.rsxs.any fun q => decide (q.cl = cl) && decide (q.f = f)) && isGl c.sc cl && okNm cl && chkE c a e
    | _ => false
  | .trym xs cat i j b => fun s => match s with
    | .Try body [.ExceptHandler (some (.Tuple es _ _)) (some n) [.Assign [.Name y _] (.Name n2 _) _] _] [] [] _ => decide ((xs, cat) ∈ c.G.catm) && nmsB c.sc xs es && decide (xs.length < 1000) && decide (n = n2) && decide (c.N[i]? = some n) && decide (c.N[j]? = some y) && isLcl c.sc n && isLcl c.sc y && okNm n && chkSs c b body
    | _ => false
def chkSs (c : Ck) : Ss → List Stmt → Bool
  | .nil => fun es => match es with | [] => true | _ => false
  | .cons s r => fun es => match es with | x :: t => chkS c s x && chkSs c r t | _ => false
end
section
variable {p : Pm} {k : Nat} {call : Calls'} {X : Cx} {W : WX}
theorem plain_G {c : Ck} (h : Wf c p k call X W) {t : Tg} {e : Expr} (q : chkG c none t e = true) : PG X e (GG p anyR (evG t)) ∧ plainX e = true :=
  sndG anyR_ok none (fun _ _ _ _ => True.intro) h t e q
theorem swap_ok {c : Ck} (h : Wf c p k call X W) {elt : Expr} {gens : List Comprehension} {sc : Scope} {ps py : Pos} {y : Str} {l : Nat} (hf : isFun c.sc = true) (q : swapB c.sc sc y py ps = true) : swapsWith (.ListComp elt gens sc ps) (some (.Name y py)) l X.env = pure true := by
  unfold swapB at q
  rw [Bool.and_eq_true, Bool.and_eq_true] at q
  obtain ⟨⟨q1, q2⟩, q3⟩ := q
  have e1 : (X.env.blockKind == .function) = true := by
    unfold Env.blockKind
    rw [h.sc]
    unfold isFun at hf
    split at hf
    · rename_i e
      rw [e]
      rfl
    · cases hf
  have e2 : (X.env.kindOf y == some .local) = true := by
    show (X.env.scope.names.lookup y == some .local) = true
    rw [h.sc]
    unfold isLcl at q1
    split at q1
    · rename_i e
      rw [e]
      rfl
    · cases q1
  show (pure (X.env.blockKind == .function && X.env.kindOf y == some .local && py.line == ps.line && !(sc.names.any fun (n, k) => n == y && (k == .local || k == .cell))) : Sem Bool) = pure true
  rw [e1, e2, q2, q3]
  rfl
theorem last_ok {α : Type} {l : List α} {x : α} (h : l.getLast? = some x) : l = l.dropLast ++ [x] := by
  rw [List.getLast?_eq_some_iff] at h
  obtain ⟨r, rfl⟩ := h
  rw [List.dropLast_concat]
/-- a frame of its own -/
structure Frm (X : Cx) : Prop where
  stk : X.stack = X.env :: X.outer
  fr : X.env.frame = some X.env.locals
  ex : X.ex = []
theorem lcl_ok {c : Ck} (h : Wf c p k call X W) {x : Str} (e : isLcl c.sc x = true) : X.env.kindOf x = some .local := by
  show X.env.scope.names.lookup x = some .local
  rw [h.sc]
  unfold isLcl at e
  split at e
  · assumption
  · cases e
theorem attr_swaps {e o : Expr} {f : Str} {q : Pos} {l : Nat} : swapsWith e (some (.Attribute o f q)) l X.env = pure false := by cases e <;> rfl
theorem Wf.try {c : Ck} (h : Wf c p k call X W) (W' : WX) (pn : List (Addr × Obj)) (xe : Value → Shared → Prop) (tk : Takes (X.tr pn xe) W') : Wf c p k call (X.tr pn xe) W' :=
  ⟨h.hK, h.hM, h.hP, h.sc, h.N, h.nd, h.calm, h.gd, h.room, h.fn, tk, h.fns, h.cons, h.glf, h.rsx, h.blt⟩
theorem names_all {c : Ck} (h : Wf c p k call X W) : ∀ {xs : List Str} {es : List Expr} {cvs : List Value}, nmsB c.sc xs es = true → cvs.length = xs.length → (∀ (i : Nat) (x : Str) (cv : Value), xs[i]? = some x → cvs[i]? = some cv → X.mg x = some cv ∨ (X.mg x = none ∧ bootBuiltins x = some cv)) → NamesAll X es cvs
  | [], [], cvs, _, hl, _ => by
    obtain rfl : cvs = [] := List.length_eq_zero_iff.mp hl
    exact .nil
  | x :: r, e :: es, cvs, q, hl, hm => by
    cases cvs with
    | nil => cases hl
    | cons cv cvs =>
      cases e with
      | Name y pp =>
        unfold nmsB at q
        rw [Bool.and_eq_true, Bool.and_eq_true, Bool.and_eq_true] at q
        obtain ⟨⟨⟨q1, q2⟩, q3⟩, q4⟩ := q
        cases of_decide_eq_true q1
        have n := okNm_ok q3
        exact .cons ⟨h.gl q2, n.1, (hm 0 x cv rfl rfl).imp id fun z => ⟨z.1, z.2, n.2.2⟩⟩ (names_all h q4 (by simpa using hl) fun i x' cv' e1 e2 => hm (i + 1) x' cv' (by simpa using e1) (by simpa using e2))
      | _ => unfold nmsB at q; cases q
  | [], _ :: _, _, q, _, _ => by unfold nmsB at q; cases q
  | _ :: _, [], _, q, _, _ => by unfold nmsB at q; cases q
theorem gs_dead {st : Stmt} : PS X st (GS p W fun _ _ => .bad) := ⟨fun _ _ _ _ _ _ ⟨_, _, _, _, _, hq⟩ => hq.elim⟩
mutual
theorem sndS {c : Ck} {X : Cx} {W : WX} (h : Wf c p k call X W) (hF : Frm X) (hf : isFun c.sc = true) (ho : PassesOwn (model X.prog X.w) X.A X.env X.xe) : ∀ (a : St) (s : Stmt), chkS c a s = true → PS X s (GS p W (evS call a))
  | .pass, s, q => by
    unfold chkS at q
    split at q
    · exact gs_pass
    · exact gs_doc
    · cases q
  | .brk, s, q => by
    unfold chkS at q
    split at q
    · exact gs_break
    · cases q
  | .cnt, s, q => by
    unfold chkS at q
    split at q
    · exact gs_cont
    · cases q
  | .expr a, s, q => by
    unfold chkS at q
    split at q
    · rw [Bool.and_eq_true] at q
      exact gs_expr (sndE h a _ q.1) q.2
    · cases q
  | .ret a, s, q => by
    unfold chkS at q
    split at q
    · exact gs_ret (sndE h a _ q)
    · cases q
  | .retN, s, q => by
    unfold chkS at q
    split at q
    · exact gs_retN
    · cases q
  | .asg t a, s, q => by
    have gen : ∀ {tg e : Expr} {pos : Pos}, (chkE c a e && chkG c none t tg && noComp e && (!isTupE tg || !isTupE e)) = true → PS X (.Assign [tg] e pos) (GS p W (evS call (.asg t a))) := by
      intro tg e pos q
      rw [Bool.and_eq_true, Bool.and_eq_true, Bool.and_eq_true] at q
      obtain ⟨⟨⟨q1, q2⟩, q3⟩, q4⟩ := q
      obtain ⟨g1, g2⟩ := plain_G h q2
      have g3 : isTupE tg = false ∨ isTupE e = false := by
        cases z : isTupE tg with
        | false => exact .inl rfl
        | true => rw [z] at q4; exact .inr (by simpa using q4)
      exact gs_asg (sndE h a _ q1) g1 q3 g2 g3
    cases t with
    | tp ts =>
      unfold chkS at q
      split at q
      · exact gen q
      · cases q
    | nm i =>
      cases a with
      | lcp vs g tg ts el =>
        unfold chkS at q
        split at q
        · rename_i y py e pos
          rw [Bool.and_eq_true, Bool.and_eq_true, Bool.and_eq_true] at q
          obtain ⟨⟨⟨q1, q2⟩, q3⟩, q4⟩ := q
          split at q1
          · rename_i x gens sc ps
            have q5 := q1
            unfold swapB at q5
            rw [Bool.and_eq_true, Bool.and_eq_true] at q5
            have hl : X.env.scope.names.lookup y = some .local := by
              rw [h.sc]
              have := q5.1.1
              unfold isLcl at this
              split at this
              · assumption
              · cases this
            unfold chkG at q4
            rw [Bool.and_eq_true, Bool.and_eq_true] at q4
            unfold chkE at q3
            split at q3
            · rename_i x2 tx ix fx sc2 ps2 e2
              cases e2
              rw [Bool.and_eq_true, Bool.and_eq_true, Bool.and_eq_true, Bool.and_eq_true, Bool.and_eq_true] at q3
              obtain ⟨⟨⟨⟨⟨r1, r2⟩, r3⟩, r4⟩, r5⟩, r6⟩ := q3
              obtain ⟨i1, i2⟩ := sndI h g _ _ r1
              rw [← h.N, ← h.sc] at r2
              have e3 := of_decide_eq_true r3
              rw [← h.N] at e3
              refine gs_setLc h.calm (h.N ▸ h.nd) (h.at q4.1.1) hl (swap_ok h hf q1) i1 (blkOk_by r2) e3 (fun s H C cl fp => ?_) (fun s H C cl fp => ?_) (fun s H C cl fp => ?_) i2
              · exact (sndG (wipeR_ok vs) (some vs) (fun i hi σ v => wipe_set σ i _ vs (of_decide_eq_true hi)) (h.inner sc s H C cl fp) tg _ r4).1
              · exact sndC (h.inner sc s H C cl fp) ts _ r5
              · exact sndE (h.inner sc s H C cl fp) el _ r6
            · cases q3
          · cases q1
        · cases q
      | _ =>
        unfold chkS at q
        split at q
        · exact gen q
        · cases q
  | .asgX ts n a, s, q => by
    unfold chkS at q
    split at q
    · rename_i es kk tp e pos
      split at q
      · rename_i x sp hl
        rw [Bool.and_eq_true, Bool.and_eq_true, Bool.and_eq_true, Bool.and_eq_true, Bool.and_eq_true] at q
        obtain ⟨⟨⟨⟨⟨q1, q2⟩, q3⟩, q4⟩, q5⟩, q6⟩ := q
        obtain ⟨g1, g2, g3⟩ := sndGs anyR_ok none (fun _ _ _ _ => True.intro) h ts _ q2
        rw [List.all_append, Bool.and_eq_true] at g2
        have e1 := last_ok hl
        have e2 : es.dropLast.length = n := by
          rw [List.length_dropLast, of_decide_eq_true q5]; rfl
        rw [e1]
        have gx := gx_star (sp := sp) (pos' := tp) (k := kk) h.hK h.calm g1 g2.1 q6
        rw [e2] at gx
        exact gs_asgX (sndE h a _ q1) gx q3 rfl (by simpa using q4)
      · cases q
    · cases q
  | .put o i a, s, q => by
    have hu := h.un
    unfold chkS at q
    split at q
    · rw [Bool.and_eq_true, Bool.and_eq_true, Bool.and_eq_true] at q
      exact gs_sub (by omega) (sndE h o _ q.1.1.1) (sndE h i _ q.1.1.2) (sndE h a _ q.1.2) q.2
    · cases q
  | .ifs t a b, s, q => by
    unfold chkS at q
    split at q
    · rw [Bool.and_eq_true, Bool.and_eq_true] at q
      exact gs_if (sndT h t _ q.1.1) (sndSs h hF hf ho a _ q.1.2) (sndSs h hF hf ho b _ q.2)
    · cases q
  | .whl n t b, s, q => by
    unfold chkS at q
    split at q
    · rw [Bool.and_eq_true] at q
      exact gs_while n ho (sndT h t _ q.1) (sndSs h hF hf ho b _ q.2)
    · cases q
  | .forq t g b, s, q => by
    unfold chkS at q
    split at q
    · rw [Bool.and_eq_true, Bool.and_eq_true] at q
      obtain ⟨i1, i2⟩ := sndI h g _ _ q.1.1
      exact gs_for ho h.calm i1 (plain_G h q.1.2).1 (sndSs h hF hf ho b _ q.2) i2
    · cases q
  | .stf cl f o a, s, q => by
    unfold chkS at q
    split at q
    · rw [Bool.and_eq_true, Bool.and_eq_true, Bool.and_eq_true] at q
      cases of_decide_eq_true q.1.1.1
      have m := of_decide_eq_true q.1.1.2
      exact gs_stf h.hK (fun C e => h.glf.flds _ m C (by rw [← h.hM]; exact e)) (sndE h o _ q.1.2) (sndE h a _ q.2) attr_swaps
    · cases q
  | .augf cl f op o a, s, q => by
    unfold chkS at q
    split at q
    · rw [Bool.and_eq_true, Bool.and_eq_true, Bool.and_eq_true, Bool.and_eq_true] at q
      cases of_decide_eq_true q.1.1.1.1
      cases of_decide_eq_true q.1.1.1.2
      have m := of_decide_eq_true q.1.1.2
      exact gs_augf h.hK (fun C e => h.glf.flds _ m C (by rw [← h.hM]; exact e)) (ig_ok op) (sndE h o _ q.1.2) (sndE h a _ q.2)
    · cases q
  | .aug i op a, s, q => by
    unfold chkS at q
    split at q
    · rw [Bool.and_eq_true, Bool.and_eq_true, Bool.and_eq_true] at q
      cases of_decide_eq_true q.1.1.1
      obtain ⟨l1, l2⟩ := h.loc q.1.2
      exact gs_aug (ig_ok op) (h.N ▸ h.nd) (h.at q.1.1.2) l1 l2 (sndE h a _ q.2)
    · cases q
  | .rse cl, s, q => by
    unfold chkS at q
    split at q
    · rw [Bool.and_eq_true, Bool.and_eq_true, Bool.and_eq_true] at q
      cases of_decide_eq_true q.1.1.1
      obtain ⟨C, r1, r2, r3, r4, r5⟩ := h.glf.rses _ (of_decide_eq_true q.1.1.2)
      exact gs_raise h.hK h.hM h.calm h.tk r2 r1 r3 r4 r5 (h.gl q.1.2) (okNm_ok q.2).1
    · cases q
  | .tryx x cat i j b, s, q => by
    unfold chkS at q
    split at q
    · rw [Bool.and_eq_true, Bool.and_eq_true, Bool.and_eq_true, Bool.and_eq_true, Bool.and_eq_true, Bool.and_eq_true, Bool.and_eq_true, Bool.and_eq_true, Bool.and_eq_true, Bool.and_eq_true] at q
      obtain ⟨⟨⟨⟨⟨⟨⟨⟨⟨⟨q1, q2⟩, q3⟩, q4⟩, q5⟩, q6⟩, q7⟩, q8⟩, q9⟩, q10⟩, q11⟩ := q
      cases of_decide_eq_true q1
      cases of_decide_eq_true q5
      obtain ⟨cv, c1, c2⟩ := h.glf.cats _ (of_decide_eq_true q2)
      have n := okNm_ok q4
      have nm : Names X x cv := ⟨h.gl q3, n.1, c1.imp id fun z => ⟨z.1, z.2, n.2.2⟩⟩
      exact gs_try hF.stk hF.fr hF.ex (h.N ▸ h.nd) (h.at q6) (lcl_ok h q8) q10 (h.at q7) (lcl_ok h q9) (test_one nm) h.tk (fun kk C b e1 e2 => c2 kk b C e1 (by rw [← h.hM]; exact e2))
        fun W' pn xe tk po => sndSs (h.try W' pn xe tk) ⟨hF.stk, hF.fr, hF.ex⟩ hf po b _ q11
    · cases q
  | .dead, s, q => gs_dead
  | .rsx cl f a, s, q => by
    unfold chkS at q
    split at q
    · rw [Bool.and_eq_true, Bool.and_eq_true, Bool.and_eq_true, Bool.and_eq_true] at q
      obtain ⟨⟨⟨⟨q1, q2⟩, q3⟩, q4⟩, q5⟩ := q
      cases of_decide_eq_true q1
      obtain ⟨r, hr, q6⟩ := List.any_eq_true.mp q2
      rw [Bool.and_eq_true, decide_eq_true_eq, decide_eq_true_eq] at q6
      obtain ⟨rfl, rfl⟩ := q6
      obtain ⟨C, fI, fd, sf, yf, m1, m2, m3, m4, m5, m6⟩ := h.rsx r hr
      exact gs_raiseX h.hK h.hM h.calm (BX.ok r.b) m2 m3 m4 m6 (h.room.mono (by omega)) m5 h.tk (h.gl q3) m1 (okNm_ok q4).1 (sndE h a _ q5) (plain_of q5)
    · cases q
  | .trym xs cat i j b, s, q => by
    unfold chkS at q
    split at q
    · simp only [Bool.and_eq_true] at q
      obtain ⟨⟨⟨⟨⟨⟨⟨⟨⟨q2, q3⟩, q4⟩, q5⟩, q6⟩, q7⟩, q8⟩, q9⟩, q10⟩, q11⟩ := q
      cases of_decide_eq_true q5
      obtain ⟨cvs, c0, c1, c2⟩ := h.glf.catm _ (of_decide_eq_true q2)
      have q4 := of_decide_eq_true q4
      exact gs_try hF.stk hF.fr hF.ex (h.N ▸ h.nd) (h.at q6) (lcl_ok h q8) q10 (h.at q7) (lcl_ok h q9) (test_many (names_all h q3 c0 c1) (by rw [c0, sizeLine_eq]; dsimp only at q4 ⊢; omega)) h.tk (fun kk C b e1 e2 => c2 kk b C e1 (by rw [← h.hM]; exact e2))
        fun W' pn xe tk po => sndSs (h.try W' pn xe tk) ⟨hF.stk, hF.fr, hF.ex⟩ hf po b _ q11
    · cases q
theorem sndSs {c : Ck} {X : Cx} {W : WX} (h : Wf c p k call X W) (hF : Frm X) (hf : isFun c.sc = true) (ho : PassesOwn (model X.prog X.w) X.A X.env X.xe) : ∀ (a : Ss) (s : List Stmt), chkSs c a s = true → PSs X s (GS p W (evSs call a))
  | .nil, s, q => by
    unfold chkSs at q
    split at q
    · exact gss_nil
    · cases q
  | .cons a r, s, q => by
    unfold chkSs at q
    split at q
    · rw [Bool.and_eq_true] at q
      exact gss_cons (sndS h hF hf ho a _ q.1) (sndSs h hF hf ho r _ q.2)
    · cases q
end
end

/-! functions -/
structure FnLk (P : Program) (K : PySem.W.Frag) (mg : Str → Option Value) (G : Glo) (f : Fn) : Prop where
  ex : ∃ (a : Addr) (fd : FuncData) (qual : Str) (params : Arguments) (body : List Stmt) (scope : Scope) (dvs : List V) (kws : List (Str × V)), FnPl K mg f a ∧ FunD K f.nm qual params body scope dvs kws a fd ∧
    FnScope f.N f.ps scope ∧ (∀ sh ∈ f.shps, ShpOk K fd f.ps sh) ∧ chkSs ⟨G, f.N, scope, true⟩ f.body body = true
structure GloOk (P : Program) (p : Pm) (G : Glo) : Prop where
  fn : ∀ f ∈ G.fns, FnLk P p.K p.mg G f
  cons : ∀ q ∈ G.cons, ∃ u v, p.mg q.1 = some u ∧ RelV v u ∧ ∀ ρ H, VR p ρ H q.2 v
  glf : GlF G p.K p.mg
  rsx : ∀ q ∈ G.rsxs, ∀ w base, RsxF P w p.K p.mg base q
  blt : ∀ x ∈ bltNames, p.mg x = none
theorem callF_ok {P : Program} {w : World} {p : Pm} {base : Heap} {G : Glo} (hP : p.P = P ∧ p.w = w) (g : GloOk P p G) : ∀ (n i : Nat) (f : Fn), G.fns[i]? = some f →
    ∃ a fd, FnPl p.K p.mg f a ∧ PySem.W.keepIn p.K (.ref a) = true ∧ (∀ sh ∈ f.shps, ShpOk p.K fd f.ps sh) ∧ FnG P w p.K p.mg base (L2.CX P w) (2 * n + 2) a fd f.ps (spG p f.ps.length (callF G n i)) := by
  intro n
  induction n with
  | zero =>
    intro i f hf
    obtain ⟨a, fd, qual, params, body, scope, dvs, kws, h1, h2, h3, h4, h5⟩ := (g.fn f (List.mem_of_getElem? hf)).ex
    refine ⟨a, fd, h1, h2.kp, h4, ⟨fun vs H Q E ⟨ρ, S, ds, hl, hv, _⟩ => hv.length.symm.trans hl, fun A out s H args us vs Q E _ _ _ _ _ ⟨ρ, S, ds, _, _, _, hp⟩ => hp.elim⟩⟩
  | succ n ih =>
    intro i f hf
    obtain ⟨a, fd, qual, params, body, scope, dvs, kws, h1, h2, h3, h4, h5⟩ := (g.fn f (List.mem_of_getElem? hf)).ex
    refine ⟨a, fd, h1, h2.kp, h4, ?_⟩
    have e : callF G (n + 1) i = fun ds S => fnRun (evSs (callF G n) f.body (startG f.N.length ds) S) := by
      funext ds S
      show (match G.fns[i]? with
        | some f => fnRun (evSs (callF G n) f.body (startG f.N.length ds) S)
        | none => .bad) = _
      rw [hf]
    rw [e]
    show FnG P w p.K p.mg base (L2.CX P w) (2 * n + 3 + 1) a fd f.ps _
    refine fnG_of h2 h3 fun cdv A out s H E hr hg => ?_
    refine sndSs (c := ⟨G, f.N, scope, true⟩) (k := n) (call := callF G n) ⟨rfl, rfl, hP, rfl, rfl, h3.nd, rfl, hg, hr, fun _ _ => rfl, takesG, fun j f' hj => ih j f' hj, g.cons, g.glf, fun q hq => g.rsx q hq w base, g.blt⟩ ⟨rfl, rfl, rfl⟩ ?_ ownsG f.body body h5
    show isFun scope = true
    unfold isFun
    rw [h3.kind]
end Mn

namespace Mn
open PySem PySem.Spec PyProof.Rows L2

/-! call shapes -/
/-- a parameter's value: the i-th written one, the i-th keyword's, the i-th of the defaults at hand -/
inductive S3 where
  | p (i : Nat) | k (i : Nat) | d (i : Nat)
def S3.to {α : Type} (z : α) (us ws dv : List α) : S3 → α
  | .p i => us.getD i z
  | .k i => ws.getD i z
  | .d i => dv.getD i z
def S3.sr (dd : List D) : S3 → Sr
  | .p i => .ps i
  | .k i => .kw i
  | .d i => .df (dd.getD i .non)
def asmU (is : List S3) (us ws dv : List Value) : List Value := is.map (S3.to .none us ws dv)
theorem vals_getD {vs : List V} {us : List Value} (h : Vals vs us) (i : Nat) : RelV (vs.getD i .non) (us.getD i .none) := by
  induction h generalizing i with
  | nil => rfl
  | cons r t ih => cases i with
    | zero => exact r
    | succ i => exact ih i
theorem vals_map {is : List S3} {vs zs dz : List V} {us ws dv : List Value} (h1 : Vals vs us) (h2 : Vals zs ws) (h3 : Vals dz dv) : Vals (is.map (S3.to .non vs zs dz)) (asmU is us ws dv) := by
  induction is with
  | nil => exact .nil
  | cons x r ih =>
    refine .cons ?_ ih
    cases x with
    | p i => exact vals_getD h1 i
    | k i => exact vals_getD h2 i
    | d i => exact vals_getD h3 i
theorem asm_sr {is : List S3} {dd : List D} {vs zs : List V} : (is.map (S3.sr dd)).map (asmV vs zs) = is.map (S3.to .non vs zs (dd.map scV)) := by
  rw [List.map_map]
  refine List.map_congr_left fun x _ => ?_
  cases x with
  | p i => rfl
  | k i => rfl
  | d i =>
    show scV (dd.getD i .non) = (dd.map scV).getD i .non
    rw [List.getD_eq_getElem?_getD, List.getD_eq_getElem?_getD, List.getElem?_map]
    cases dd[i]? <;> rfl
section
variable {K : PySem.W.Frag} {x qual : Str} {params : Arguments} {body : List Stmt} {scope : Scope} {dvs : List V} {kws : List (Str × V)} {f : Addr} {fd : FuncData} {ps : List Str} {n : Nat} {ks : List Str} {is : List S3} {dd : List D}
theorem shp_fin {dv : List Value} (hd : Vals (dd.map scV) dv) (hl : is.length = ps.length) (hok : (is.map (S3.sr dd)).all (okSr n ks.length) = true)
    (hb : ∀ (s : Shared) (us ws : List Value), K.In s.heap → us.length = n → ws.length = ks.length → BindsTo s fd ⟨us, ks.zip ws⟩ (ps.zip (asmU is us ws dv))) : ShpOk K fd ps ⟨n, ks, is.map (S3.sr dd)⟩ :=
  ⟨by rw [List.length_map]; exact hl, hok, fun us ws => asmU is us ws dv, fun vs zs => is.map (S3.to .non vs zs (dd.map scV)), ⟨hb, fun r1 r2 => vals_map r1 r2 hd⟩, fun vs zs _ _ => asm_sr.symm⟩
/-- nothing lacks, the def has no defaults by place -/
theorem shp0 (F : FunD K x qual params body scope [] kws f fd) (hl : is.length = ps.length) (hok : (is.map (S3.sr [])).all (okSr n ks.length) = true)
    (h : ∀ (kV doc pm : Value) (an : Option Addr) (cdv ct : Value) (us ws : List Value), us.length = n → ws.length = ks.length → bindArgs (PySem.W.fnOf x qual params body scope .none kV doc pm an cdv ct) ⟨us, ks.zip ws⟩ = pure (ps.zip (asmU is us ws []))) : ShpOk K fd ps ⟨n, ks, is.map (S3.sr [])⟩ := by
  obtain ⟨oc, od, dV, kV, doc, pm, an, cdv, ct, osl, rfl, lk, hcd, hD, hK⟩ := F.ex
  rcases hD with ⟨_, rfl⟩ | ⟨e, _⟩
  · exact shp_fin (dv := []) .nil hl hok fun s us ws _ l1 l2 => .of_eq (h kV doc pm an cdv ct us ws l1 l2)
  · exact absurd rfl e
/-- keyword-only ones lack (ms), no defaults by place -/
theorem shpK (F : FunD K x qual params body scope [] kws f fd) (ms : List (Str × V)) (hms : ∀ q ∈ ms, q ∈ kws) (hk : kws ≠ []) (hdd : dd.map scV = ms.map (·.2)) (hl : is.length = ps.length) (hok : (is.map (S3.sr dd)).all (okSr n ks.length) = true)
    (h : ∀ (E : Addr) (doc pm : Value) (an : Option Addr) (cdv ct : Value) (us ws mv : List Value), us.length = n → ws.length = ks.length → mv.length = ms.length →
      KwChain E ((ms.map (·.1)).zip mv) (bindArgs (PySem.W.fnOf x qual params body scope .none (.ref E) doc pm an cdv ct) ⟨us, ks.zip ws⟩) (ps.zip (asmU is us ws mv))) : ShpOk K fd ps ⟨n, ks, is.map (S3.sr dd)⟩ := by
  obtain ⟨oc, od, dV, kV, doc, pm, an, cdv, ct, osl, rfl, lk, hcd, hD, hK⟩ := F.ex
  rcases hD with ⟨_, rfl⟩ | ⟨e, _⟩
  · rcases hK with e | ⟨E, rfl, hq⟩
    · exact absurd e hk
    · obtain ⟨mv, hm, rk, hks⟩ := kwd_vals (ms := ms) fun q hm => hq q (hms q hm)
      exact shp_fin (dv := mv) (hdd ▸ rk) hl hok fun s us ws X l1 l2 => BindsTo.of_looks fun M => KwChain.looks X hks (h E doc pm an cdv ct us ws mv l1 l2 hm)
  · exact absurd rfl e
/-- defaults by place, nothing of the keyword-only ones lacks -/
theorem shpD (F : FunD K x qual params body scope dvs kws f fd) (hd : dvs ≠ []) (hdd : dd.map scV = dvs) (hl : is.length = ps.length) (hok : (is.map (S3.sr dd)).all (okSr n ks.length) = true)
    (h : ∀ (T : Addr) (kV doc pm : Value) (an : Option Addr) (cdv ct : Value) (us ws its : List Value), us.length = n → ws.length = ks.length → its.length = dvs.length →
      ∃ k, bindArgs (PySem.W.fnOf x qual params body scope (.ref T) kV doc pm an cdv ct) ⟨us, ks.zip ws⟩ = seqItems? (.ref T) >>= k ∧ k (some its.toArray) = pure (ps.zip (asmU is us ws its))) : ShpOk K fd ps ⟨n, ks, is.map (S3.sr dd)⟩ := by
  obtain ⟨oc, od, dV, kV, doc, pm, an, cdv, ct, osl, rfl, lk, hcd, hD, hK⟩ := F.ex
  rcases hD with ⟨e, _⟩ | ⟨_, T, o, its, m, rfl, lT, oT, rT⟩
  · exact absurd e hd
  · refine shp_fin (dv := its) (hdd ▸ rT) hl hok fun s us ws X l1 l2 => ?_
    obtain ⟨k, e1, e2⟩ := h T kV doc pm an cdv ct us ws its l1 l2 rT.length.symm
    refine BindsTo.of_looks fun M => ?_
    rw [e1]
    exact looks_items X lT oT (.of_pure e2)
end

/-! the head's facts -/
def scpB (f : Fn) (sc : Scope) : Bool := isFun sc && (!sc.isCoroutine && (!sc.isGenerator && (decide f.N.Nodup && (decide (f.N.take f.ps.length = f.ps) && (f.ps.all (fun x => match sc.names.lookup x with
  | some .local => true
  | some .cell => true
  | _ => false) && sc.names.all fun y => match y.2 with
  | .free => false
  | _ => true)))))
theorem scpB_ok {f : Fn} {sc : Scope} (h : scpB f sc = true) : FnScope f.N f.ps sc := by
  unfold scpB at h
  simp only [Bool.and_eq_true] at h
  obtain ⟨h1, h2, h3, h4, h5, h6, h7⟩ := h
  refine ⟨?_, by simpa using h2, by simpa using h3, of_decide_eq_true h4, of_decide_eq_true h5, fun x hx => ?_, fun y hy e => ?_⟩
  · unfold isFun at h1
    split at h1
    · assumption
    · cases h1
  · have q := List.all_eq_true.mp h6 x hx
    split at q
    · exact .inl (by assumption)
    · exact .inr (by assumption)
    · cases q
  · have q := List.all_eq_true.mp h7 y hy
    rw [e] at q
    cases q
/-- a def's place in the head, its own syntax -/
def defB (G : Glo) (f : Fn) (d : He.DefD) : Bool := scpB f d.scope && chkSs ⟨G, f.N, d.scope, true⟩ f.body d.body
/-- what a class of exceptions says, by a look -/
def exFB (K : PySem.W.Frag) (C : Addr) : Bool := (PySem.W.clsIn K C).isSome && (decide (PySem.W.findIn K (.ref C) "__getattribute__" = some (some (.builtin "BaseException.__getattribute__"))) && (decide (PySem.W.findIn K (.ref C) "__getattr__" = some none) && (decide (PySem.W.subIn K (.ref C) (.type "BaseException") = some true) &&
  (decide (PySem.W.findIn K (.ref C) "__class__" = some (some (.builtin "object.__class__"))) && (decide (PySem.W.specialIn K (.builtin "object.__class__") "__get__" = some (some (.builtin "getset_descriptor.__get__"))) && (decide (PySem.W.takesIn K (.builtin "object.__class__") = some true) &&
  (decide (PySem.W.mroIn K C (.type "object") = some true) && PySem.W.hasDictIn K C)))))))
theorem exFB_ok {K : PySem.W.Frag} {C : Addr} (h : exFB K C = true) : ExcF K C := by
  unfold exFB at h
  simp only [Bool.and_eq_true, decide_eq_true_eq] at h
  obtain ⟨h1, h2, h3, h4, h5, h6, h7, h8, h9⟩ := h
  exact ⟨h1, h2, h3, h4, h5, h6, h7, h8, h9⟩
/-- the value of a class's name -/
def cvK (K : PySem.W.Frag) : D → Value
  | .gl x => .ref (He.ga K x)
  | .ty n => .type n
  | _ => .none
def isxB (K : PySem.W.Frag) (q : Str × D × List (Str × Bool)) : Bool := q.2.2.all fun t => decide (PySem.W.kitOne K (.ref (He.ga K t.1)) (cvK K q.2.1) = some t.2)
def catB (K : PySem.W.Frag) (q : Str × List (Str × Bool)) : Bool := q.2.all fun t => decide (PySem.W.exmOne K (.ref (He.ga K t.1)) (.ref (He.ga K q.1)) = some t.2)
def catmB (K : PySem.W.Frag) (q : List Str × List (Str × Bool)) : Bool := q.2.all fun t => decide (PySem.W.exmAny K (.ref (He.ga K t.1)) (q.1.map fun x => .ref (He.ga K x)) = some t.2)
/-- is it a built-in's __init__ by its own name -/
def RX.isB (q : RX) : Bool := decide (q.P = (q.b.tB : Str))
def cfB (c : Option PySem.W.CFound) (I : String) : Bool := match c with
  | some (.val v) => decide (v = .builtin I)
  | _ => false
def iniP (K : PySem.W.Frag) (q : RX) : Bool := if q.isB = true then cfB (PySem.W.findCls K (.type q.b.tB) (.type "type") "__init__") q.b.tI else
  decide (PySem.W.specialIn K (.ref (He.ga K q.P)) "__getattribute__" = some (some (.builtin "type.__getattribute__"))) && (PySem.W.readsIn K (He.ga K q.P) (.type "type") && cfB (PySem.W.findCls K (.ref (He.ga K q.P)) (.type "type") "__init__") q.b.tI)
/-- what a class of exceptions with a field says, by a look -/
def exiB (K : PySem.W.Frag) (q : RX) : Bool := PySem.W.excInitIn K (He.ga K q.cl) q.b.bm q.b.tN && (PySem.W.excOver K (He.ga K q.cl) q.b.bm && (decide (PySem.W.findIn K (.ref (He.ga K q.cl)) "__setattr__" = some (some (.builtin "object.__setattr__"))) &&
  (decide (PySem.W.findIn K (.ref (He.ga K q.cl)) q.f = some none) && (PySem.W.hasDictIn K (He.ga K q.cl) && (decide (PySem.W.findIn K (.ref (He.ga K q.cl)) "__init__" = some (some (.ref (He.ma K (He.ga K q.cl) "__init__")))) &&
  (decide (PySem.W.typeIn K (.ref (He.ma K (He.ga K q.cl) "__init__")) = some (.type "function")) && (PySem.W.keepIn K (.ref (He.ga K q.cl)) && (decide (PySem.W.subIn K (.ref (He.ga K q.cl)) (.type "BaseException") = some true) && (decide (PySem.W.typeIn K (.ref (He.ga K q.cl)) = some (.type "type")) &&
  (exFB K (He.ga K q.cl) && iniP K q))))))))))
/-- all that the head is to say beside the usual facts -/
def exG (G : Glo) (K : PySem.W.Frag) : Bool := G.rses.all (fun x => exFB K (He.ga K x)) && (G.isxs.all (isxB K) && (G.cats.all (catB K) && (G.catm.all (catmB K) && G.rsxs.all (exiB K))))
section
variable {P : Program} {K : PySem.W.Frag} {h : Heap} {mg : Str → Option Value} {fa : List He.Fa} {ds : List He.DefD} {G : Glo}
theorem fact_mem (c : He.SaysD fa ds K) {f : He.Fa} (hf : f ∈ fa) : f.ok K = true := by
  obtain ⟨i, hi⟩ := List.getElem?_of_mem hf
  exact c.fact i hi
theorem lk_of (c : He.SaysD fa ds K) (X : K.In h) (Gn : h.Ns mainGlobals mg) (i : Nat) (f : Fn) (q : Str) (pr : Arguments) (bd : List Stmt) (sc : Scope) (dfl : List He.Dv) (kwd : List (Str × He.Dv)) (hcl : f.cls = none) (hd : ds[i]? = some ⟨(f.nm, none), f.nm, q, pr, bd, sc, dfl, kwd⟩) (hg : He.Fa.glo f.nm ∈ fa)
    (hck : defB G f ⟨(f.nm, none), f.nm, q, pr, bd, sc, dfl, kwd⟩ = true)
    (hsh : ∀ (a : Addr) (fd : FuncData), FunD K f.nm q pr bd sc (dfl.map (He.Dv.v K)) (kwd.map fun q => (q.1, q.2.v K)) a fd → ∀ sh ∈ f.shps, ShpOk K fd f.ps sh) : FnLk P K mg G f := by
  obtain ⟨fd, F⟩ := c.def_ i hd
  unfold defB at hck
  rw [Bool.and_eq_true] at hck
  refine ⟨⟨_, fd, q, pr, bd, sc, _, _, ?_, F, scpB_ok hck.1, hsh _ fd F, hck.2⟩⟩
  unfold FnPl
  rw [hcl]
  exact He.glo_ok X Gn (fact_mem c hg)
/-- a method's place -/
theorem lk_ofM (c : He.SaysD fa ds K) (X : K.In h) (Gn : h.Ns mainGlobals mg) (i : Nat) (f : Fn) (cl : Str) (q : Str) (pr : Arguments) (bd : List Stmt) (sc : Scope) (dfl : List He.Dv) (kwd : List (Str × He.Dv)) (hcl : f.cls = some cl) (hd : ds[i]? = some ⟨(cl, some f.nm), f.nm, q, pr, bd, sc, dfl, kwd⟩)
    (hg : He.Fa.glo cl ∈ fa) (hg2 : He.Fa.cls cl ∈ fa) (hg3 : He.Fa.meth cl f.nm ∈ fa) (hck : defB G f ⟨(cl, some f.nm), f.nm, q, pr, bd, sc, dfl, kwd⟩ = true)
    (hsh : ∀ (a : Addr) (fd : FuncData), FunD K f.nm q pr bd sc (dfl.map (He.Dv.v K)) (kwd.map fun q => (q.1, q.2.v K)) a fd → ∀ sh ∈ f.shps, ShpOk K fd f.ps sh) : FnLk P K mg G f := by
  obtain ⟨fd, F⟩ := c.def_ i hd
  unfold defB at hck
  rw [Bool.and_eq_true] at hck
  refine ⟨⟨_, fd, q, pr, bd, sc, _, _, ?_, F, scpB_ok hck.1, hsh _ fd F, hck.2⟩⟩
  have m := He.meth_ok (fact_mem c hg3)
  unfold FnPl
  rw [hcl]
  exact ⟨_, He.glo_ok X Gn (fact_mem c hg), m, He.cls_ok (fact_mem c hg2), fun e => by rw [← e]; exact m.at_⟩
theorem ga_of (c : He.SaysD fa ds K) (X : K.In h) (Gn : h.Ns mainGlobals mg) {x : Str} {C : Addr} (hg : He.Fa.glo x ∈ fa) (e : mg x = some (.ref C)) : C = He.ga K x := by
  have z := e.symm.trans (He.glo_ok X Gn (fact_mem c hg))
  injection z with z
  injection z
/-- what GlF asks of the list of facts -/
def glfL (G : Glo) (fa : List He.Fa) : Bool :=
  let g (x : Str) : Bool := fa.any fun f => match f with | .glo y => decide (x = y) | _ => false
  let r (x : Str) : Bool := fa.any fun f => match f with | .free y => decide (x = y) | _ => false
  (G.mks.all fun x => g x && ((fa.any fun f => match f with | .cls y => decide (x = y) | _ => false) && (fa.any fun f => match f with | .mkr y => decide (x = y) | _ => false))) &&
  ((G.flds.all fun q => g q.1 && (fa.any fun f => match f with | .noat y z => decide (q.1 = y) && decide (q.2 = z) | _ => false)) &&
  ((G.rses.all fun x => g x && (fa.any fun f => match f with | .exc y => decide (x = y) | _ => false)) &&
  ((G.isxs.all fun q => (q.2.2.all fun t => g t.1) && (match q.2.1 with | .gl x => decide (q.1 = x) && g x | .ty n => r q.1 && decide (bootBuiltins q.1 = some (.type n)) | _ => false)) &&
  ((G.cats.all fun q => g q.1 && q.2.all fun t => g t.1) &&
  (G.catm.all fun q => q.1.all g && q.2.all fun t => g t.1)))))
theorem glf_of (c : He.SaysD fa ds K) (X : K.In h) (Gn : h.Ns mainGlobals mg) (hx : exG G K = true) (hl : glfL G fa = true) : GlF G K mg := by
  unfold exG at hx
  rw [Bool.and_eq_true, Bool.and_eq_true, Bool.and_eq_true, Bool.and_eq_true] at hx
  obtain ⟨x1, x2, x3, x4, _⟩ := hx
  unfold glfL at hl
  simp only [Bool.and_eq_true] at hl
  obtain ⟨l1, l2, l3, l4, l5, l6⟩ := hl
  have g1 : ∀ {x : Str}, (fa.any fun f => match f with | .glo y => decide (x = y) | _ => false) = true → He.Fa.glo x ∈ fa := fun {x} z => by
    rw [List.any_eq_true] at z
    obtain ⟨f, hf, e⟩ := z
    split at e
    · cases of_decide_eq_true e; exact hf
    · cases e
  refine ⟨fun x hx => ?_, fun q hq C e => ?_, fun x hx => ?_, fun q hq => ?_, fun q hq => ?_, fun q hq => ?_⟩
  · have z := List.all_eq_true.mp l1 x hx
    obtain ⟨z1, z4⟩ := Bool.and_eq_true_iff.mp z
    obtain ⟨z5, z6⟩ := Bool.and_eq_true_iff.mp z4
    obtain ⟨f2, hf2, z2⟩ := List.any_eq_true.mp z5
    obtain ⟨f3, hf3, z3⟩ := List.any_eq_true.mp z6
    split at z2
    · cases of_decide_eq_true z2
      split at z3
      · cases of_decide_eq_true z3
        exact ⟨_, _, He.glo_ok X Gn (fact_mem c (g1 z1)), He.cls_ok (fact_mem c hf2), He.mkr_ok (fact_mem c hf3)⟩
      · cases z3
    · cases z2
  · have z := List.all_eq_true.mp l2 q hq
    obtain ⟨z1, z5⟩ := Bool.and_eq_true_iff.mp z
    obtain ⟨f2, hf2, z2⟩ := List.any_eq_true.mp z5
    rw [ga_of c X Gn (g1 z1) e]
    split at z2
    · rw [Bool.and_eq_true] at z2
      rename_i y u
      obtain ⟨e1, e2⟩ := z2
      have e1 := of_decide_eq_true e1
      have e2 := of_decide_eq_true e2
      subst e1 e2
      exact He.noat_ok (fact_mem c hf2)
    · cases z2
  · have z := List.all_eq_true.mp l3 x hx
    obtain ⟨z1, z5⟩ := Bool.and_eq_true_iff.mp z
    obtain ⟨f2, hf2, z2⟩ := List.any_eq_true.mp z5
    split at z2
    · cases of_decide_eq_true z2
      obtain ⟨a1, a2, a3, a4⟩ := He.exc_ok (fact_mem c hf2)
      exact ⟨_, He.glo_ok X Gn (fact_mem c (g1 z1)), a1, a2, exFB_ok (List.all_eq_true.mp x1 x hx), a4⟩
    · cases z2
  · have z := List.all_eq_true.mp l4 q hq
    rw [Bool.and_eq_true] at z
    obtain ⟨z1, z2⟩ := z
    refine ⟨fun k b C u e1 e2 e3 => ?_, ?_⟩
    · have m := mem_lookup e1
      have z3 := List.all_eq_true.mp z1 _ m
      have z4 := List.all_eq_true.mp (List.all_eq_true.mp x2 q hq) _ m
      have z5 := of_decide_eq_true z4
      rw [ga_of c X Gn (g1 z3) e2]
      have e4 : cvK K q.2.1 = u := by
        cases hd : q.2.1 with
        | gl x =>
          rw [hd] at e3 z2
          simp only [Bool.and_eq_true] at z2
          exact Option.some.inj ((He.glo_ok X Gn (fact_mem c (g1 z2.2))).symm.trans e3)
        | ty n => rw [hd] at e3; exact e3.symm
        | _ => rw [hd] at e3; exact e3.elim
      rw [← e4]
      exact z5
    · cases hd : q.2.1 with
      | gl x =>
        rw [hd] at z2
        simp only [Bool.and_eq_true] at z2
        exact ⟨of_decide_eq_true z2.1, _, He.glo_ok X Gn (fact_mem c (g1 z2.2))⟩
      | ty n =>
        rw [hd] at z2
        simp only [Bool.and_eq_true] at z2
        obtain ⟨z3, z4⟩ := z2
        rw [List.any_eq_true] at z3
        obtain ⟨f, hf, e⟩ := z3
        refine ⟨?_, of_decide_eq_true z4⟩
        split at e
        · cases of_decide_eq_true e; exact He.free_ok X Gn (fact_mem c hf)
        · cases e
      | _ => rw [hd] at z2; cases z2
  · have z := List.all_eq_true.mp l6 q hq
    rw [Bool.and_eq_true] at z
    obtain ⟨z1, z2⟩ := z
    refine ⟨q.1.map fun x => .ref (He.ga K x), by rw [List.length_map], fun i x cv e1 e2 => ?_, fun k b C e1 e2 => ?_⟩
    · rw [List.getElem?_map, e1] at e2
      cases e2
      exact .inl (He.glo_ok X Gn (fact_mem c (g1 (List.all_eq_true.mp z1 x (List.mem_of_getElem? e1)))))
    · have m := mem_lookup e1
      rw [ga_of c X Gn (g1 (List.all_eq_true.mp z2 _ m)) e2]
      exact of_decide_eq_true (List.all_eq_true.mp (List.all_eq_true.mp x4 q hq) _ m)
  · have z := List.all_eq_true.mp l5 q hq
    rw [Bool.and_eq_true] at z
    obtain ⟨z1, z2⟩ := z
    refine ⟨_, .inl (He.glo_ok X Gn (fact_mem c (g1 z1))), fun k b C e1 e2 => ?_⟩
    have m := mem_lookup e1
    rw [ga_of c X Gn (g1 (List.all_eq_true.mp z2 _ m)) e2]
    exact of_decide_eq_true (List.all_eq_true.mp (List.all_eq_true.mp x3 q hq) _ m)
/-- a name is known to be a global of the text, or free -/
def hasG (fa : List He.Fa) (x : Str) : Bool := fa.any fun f => match f with | .glo y => decide (x = y) | _ => false
def hasF (fa : List He.Fa) (x : Str) : Bool := fa.any fun f => match f with | .free y => decide (x = y) | _ => false
theorem hasG_ok {x : Str} (h : hasG fa x = true) : He.Fa.glo x ∈ fa := by
  obtain ⟨f, hf, e⟩ := List.any_eq_true.mp h
  split at e
  · cases of_decide_eq_true e; exact hf
  · cases e
theorem hasF_ok {x : Str} (h : hasF fa x = true) : He.Fa.free x ∈ fa := by
  obtain ⟨f, hf, e⟩ := List.any_eq_true.mp h
  split at e
  · cases of_decide_eq_true e; exact hf
  · cases e
theorem bx_facts (b : BX) : bootBuiltins (b.tB : Str) = some (.type b.tB) ∧ typeOf (.type b.tB) = pure (.type "type") ∧ Manifest.isStub b.tB = false ∧ PySem.W.handedIn (.builtin b.tI) = true := by
  cases b <;> exact ⟨by kernel_rfl, by kernel_rfl, by decide +kernel, by decide +kernel⟩
theorem cfB_ok {o : Option PySem.W.CFound} {I : String} (h : cfB o I = true) : o = some (.val (.builtin I)) := by
  unfold cfB at h
  split at h
  · rw [of_decide_eq_true h]
  · cases h
/-- an own exception with a field, by the head -/
theorem rsx_of (c : He.SaysD fa ds K) (X : K.In h) (Gn : h.Ns mainGlobals mg) (hx : exG G K = true) (q : RX) (hq : q ∈ G.rsxs) (i : Nat) (sf yf qn : Str) (pr : Arguments) (bd : List Stmt) (sc : Scope) (hd : ds[i]? = some ⟨(q.cl, some "__init__"), "__init__", qn, pr, bd, sc, [], []⟩)
    (hg : (hasG fa q.cl && (if q.isB = true then hasF fa q.P else hasG fa q.P)) = true) (hb : (iniB q.P sf yf q.f sc bd && scpB { nm := "__init__", ps := [sf, yf], N := [sf, yf], shps := [], body := .nil } sc) = true)
    (hsh : ∀ (a : Addr) (fd : FuncData), FunD K "__init__" qn pr bd sc [] [] a fd → ShpOk K fd [sf, yf] ⟨2, [], [.ps 0, .ps 1]⟩) : ∀ w base, RsxF P w K mg base q := by
  intro w base
  obtain ⟨fd, F⟩ := c.def_ i hd
  unfold exG at hx
  rw [Bool.and_eq_true, Bool.and_eq_true, Bool.and_eq_true, Bool.and_eq_true] at hx
  have z := List.all_eq_true.mp hx.2.2.2.2 q hq
  unfold exiB at z
  simp only [Bool.and_eq_true, decide_eq_true_eq] at z
  obtain ⟨z1, z2, z3, z4, z5, z6, z7, z8, z9, z10, z11, z12⟩ := z
  rw [Bool.and_eq_true] at hg hb
  obtain ⟨g1, g2⟩ := hg
  obtain ⟨b1, b2, b3, b4⟩ := bx_facts q.b
  have T : ExI K (He.ga K q.cl) (He.ma K (He.ga K q.cl) "__init__") q.b.bm q.b.tN q.f := ⟨z1, z2, z3, z4, z5, z6, z7, z8, z9, z10⟩
  have IA : InitAt K mg q.P q.b.tI := by
    unfold iniP at z12
    split at z12
    · rename_i e
      rw [if_pos e] at g2
      have e2 := of_decide_eq_true (show decide (q.P = (q.b.tB : Str)) = true from e)
      exact .inr ⟨q.b.tB, He.free_ok X Gn (fact_mem c (hasF_ok g2)), by rw [e2]; exact b1, b2, b3, cfB_ok z12⟩
    · rename_i e
      rw [if_neg e] at g2
      rw [Bool.and_eq_true, Bool.and_eq_true, decide_eq_true_eq] at z12
      exact .inl ⟨_, He.glo_ok X Gn (fact_mem c (hasG_ok g2)), z12.1, z12.2.1, cfB_ok z12.2.2⟩
  exact ⟨_, _, fd, sf, yf, He.glo_ok X Gn (fact_mem c (hasG_ok g1)), T, exFB_ok z11, z4, hsh _ _ F, fn_init (k := 0) F (scpB_ok hb.2) hb.1 (BX.ok q.b) T IA b4⟩
theorem con_int {w : World} (c : He.SaysD fa ds K) (X : K.In h) (Gn : h.Ns mainGlobals mg) {x : Str} {i : Int} (hf : He.Fa.int x i ∈ fa) : ∃ u v, mg x = some u ∧ RelV v u ∧ ∀ ρ H, VR ⟨K, mg, P, w⟩ ρ H (.int i) v := by
  obtain ⟨t, e⟩ := He.int_ok X Gn (fact_mem c hf)
  exact ⟨_, .int i, e, ⟨t, rfl⟩, fun _ _ => rfl⟩
theorem con_str {w : World} (c : He.SaysD fa ds K) (X : K.In h) (Gn : h.Ns mainGlobals mg) {x z : Str} (hf : He.Fa.str x z ∈ fa) : ∃ u v, mg x = some u ∧ RelV v u ∧ ∀ ρ H, VR ⟨K, mg, P, w⟩ ρ H (.str z) v := by
  obtain ⟨t, e⟩ := He.str_ok X Gn (fact_mem c hf)
  exact ⟨_, .str z, e, ⟨t, rfl⟩, fun _ _ => rfl⟩
theorem blt_of (c : He.SaysD fa ds K) (X : K.In h) (Gn : h.Ns mainGlobals mg) (hf : ∀ x ∈ bltNames, He.Fa.free x ∈ fa) : ∀ x ∈ bltNames, mg x = none := fun x hx => He.free_ok X Gn (fact_mem c (hf x hx))
end

/-! the look at the head: the facts, the defs, one more Bool; the interpreter's statics are looked at too -/
def frS (n : Nat) (g : Addr → Option Obj) : PySem.W.Frag := He.frT g (He.asD g n ++ [cStatics])
abbrev AlS : Type := He.AlD × Bool
def obsS (n : Nat) (fa : List He.Fa) (ds : List He.DefD) (ex : PySem.W.Frag → Bool) (g : Addr → Option Obj) : AlS := (He.obsD fa ds (frS n g), ex (frS n g))
def hookS (n : Nat) (fa : List He.Fa) (ds : List He.DefD) (ex : PySem.W.Frag → Bool) : PySem.W.Hook where
  α := AlS
  obs := fun s => obsS n fa ds ex s.heap.get?
  val := fun _ => (He.valD ds, true)
  says := fun _ h => ∃ K : PySem.W.Frag, K.In h ∧ He.SaysD fa ds K ∧ ex K = true
  of := fun _ _ e => ⟨_, He.frT_in, congrArg Prod.fst e, congrArg Prod.snd e⟩
  keeps := fun _ _ _ ⟨K, hK, c⟩ k => ⟨K, PySem.W.Frag.In.keeps hK k, c⟩
theorem obsS_eq {n : Nat} {fa : List He.Fa} {ds : List He.DefD} {ex : PySem.W.Frag → Bool} {g : Addr → Option Obj} {s : Shared} (h : ∀ a, g a = s.heap.get? a) : obsS n fa ds ex g = (hookS n fa ds ex).obs s := by
  rw [show g = s.heap.get? from funext h]
  rfl

/-! the law -/
def scriptD (ns : List Int) : D := .ros (ns.map D.int)
/-- the law's own evaluation says True, at each script -/
def LawSays (G : Glo) (k i n : Nat) : Prop := ∀ ns : List Int, ns.length ≤ n → ∃ S, callF G k i [scriptD ns] [] = .ok (.bl true) S
theorem vrs_ints {p : Pm} {ρ : List Addr} {H : Hp} : ∀ ns : List Int, VRs p ρ H (ns.map D.int) (ns.map V.int)
  | [] => rfl
  | n :: r => ⟨_, _, rfl, rfl, vrs_ints r⟩
theorem room_top {k : Nat} (hk : k ≤ 200) : Room k callerA := by
  have h1 : 1 + claimMargin + 3 * 200 + 5 < recursionLimit := by decide +kernel
  have h2 : 4 + 16 * 200 + 200 < cLine := by decide +kernel
  exact ⟨rfl, by show 1 + claimMargin + 3 * k + 5 < recursionLimit; omega, by show 4 + 16 * k + 200 < cLine; omega⟩
theorem conc_nil {p : Pm} {H : Hp} : Conc p [] [] H := ⟨rfl, .nil, fun n a c e => by cases e⟩
/-- what is tracked when the law is called: its script, unless the written part has it -/
def topH (K : PySem.W.Frag) (a : Addr) (o : Obj) (xs : List V) : Hp := fun b => if b = a ∧ K.lookup a = none then some (.frz o (.lst xs)) else none
section
variable {P : Program} {w : World} {K : PySem.W.Frag} {mg mb : Str → Option Value} {a : Addr} {s1 : Shared} {vs : List Value} {xs : List V}
abbrev scriptO (vs : List Value) : Obj := { cls := .type "list", data := .seq vs.toArray }
theorem topH_cases {o : Obj} (b : Addr) : topH K a o xs b = none ∨ (b = a ∧ K.lookup a = none ∧ topH K a o xs b = some (.frz o (.lst xs))) := by
  unfold topH
  split
  · rename_i h; exact .inr ⟨h.1, h.2, rfl⟩
  · exact .inl rfl
theorem top_rol (KX : K.In s1.heap) (ha : s1.heap.get? a = some (scriptO vs)) (rv : Vals xs vs) (hl : vs.length ≤ sizeLine) : RoL K (topH K a (scriptO vs) xs) a xs := by
  cases h : K.lookup a with
  | none => exact .inl ⟨_, by unfold topH; rw [if_pos ⟨rfl, h⟩]⟩
  | some o =>
    have e := KX a o h
    rw [ha] at e
    cases e
    exact .inr ⟨_, vs.toArray, _, h, rfl, rfl, rfl, by rw [List.size_toArray]; exact hl, by simpa using rv⟩
theorem top_hok (ha : s1.heap.get? a = some (scriptO vs)) (rv : Vals xs vs) (hl : vs.length ≤ sizeLine) : HOk P w (topH K a (scriptO vs) xs) s1.heap := fun b u e => by
  rcases topH_cases (K := K) (a := a) (o := scriptO vs) (xs := xs) b with z | ⟨rfl, _, z⟩
  · rw [z] at e; cases e
  · rw [z] at e
    cases e
    exact ⟨ha, by rw [rv.length]; exact hl, vs, _, rv, ha⟩
/-- what isn't the script stands in the ground -/
theorem top_ground (ha : s1.heap.get? a = some (scriptO vs)) {b : Addr} {o : Obj} (e : s1.heap.get? b = some o) (h : o ≠ scriptO vs ∨ K.lookup b ≠ none) : (hidT s1.heap (topH K a (scriptO vs) xs)).get? b = some o :=
  hidT_get e (by
    rcases topH_cases (K := K) (a := a) (o := scriptO vs) (xs := xs) b with z | ⟨rfl, z, _⟩
    · exact z
    · rw [ha] at e
      cases e
      rcases h with h | h
      · exact absurd rfl h
      · exact absurd z h)
theorem top_ns (ha : s1.heap.get? a = some (scriptO vs)) {b : Addr} {m : Str → Option Value} : s1.heap.Ns b m → (hidT s1.heap (topH K a (scriptO vs) xs)).Ns b m := fun ⟨o, es, ep, e, d, r⟩ =>
  ⟨o, es, ep, top_ground ha e (.inl fun z => by rw [z] at d; cases (show Data.seq vs.toArray _ = Data.dict es ep from d)), d, r⟩
theorem top_env (KX : K.In s1.heap) (hns : s1.heap.Ns mainGlobals mg) (hb : s1.heap.Ns builtinsNs mb) (hbb : ∀ x : Str, x ≠ "__name__" → mb x = bootBuiltins x) (hlim : s1.heap.NoLimit) (hg : s1.gens = #[]) (ha : s1.heap.get? a = some (scriptO vs)) (rv : Vals xs vs) (hl : vs.length ≤ sizeLine) :
    Env0 P w K mg (hidT s1.heap (topH K a (scriptO vs) xs)) callerA [] s1 (topH K a (scriptO vs) xs) where
  frames := rfl
  mod := ⟨fun b o e => top_ground ha (KX b o e) (.inr (by rw [e]; simp)), top_ns ha hns, ⟨mb, top_ns ha hb, hbb⟩, by obtain ⟨mc, h1, h2⟩ := hlim; exact ⟨mc, top_ns ha h1, h2⟩⟩
  bs := fun b o e => of_hidT e
  bsz := Nat.le_of_eq (hidT_size _ _)
  funs := trivial
  frf := fun b hb => by cases hb
  hok := top_hok ha rv hl
  bare := .of_eq hg
theorem top_end {s' : Shared} {u : Value} (ha : s1.heap.get? a = some (scriptO vs)) (h : CE [] P w (topH K a (scriptO vs) xs) s1 (fun v _ => v = .bl true) u s') : u = .bool true ∧ OldK s1.heap s'.heap ∧ s'.os = s1.os ∧ AllBare s'.gens := by
  obtain ⟨v, H', os, bare, un, hok', r', q⟩ := h
  subst q
  refine ⟨r', OldK.of_keep fun b o e => ?_, os, bare⟩
  rcases topH_cases (K := K) (a := a) (o := scriptO vs) (xs := xs) b with z | ⟨rfl, _, z⟩
  · exact un.keep b o e z (List.not_mem_nil) (List.not_mem_nil)
  · rw [ha] at e
    cases e
    exact (hok' b _ (un.frzs b _ _ z)).1
end
theorem law_callG {P : Program} {w : World} {K : PySem.W.Frag} {mg mb : Str → Option Value} {G : Glo} {k i n : Nat} {f : Fn} {fa a : Addr} {s1 : Shared} {vs : List Value} {ns : List Int}
    (KX : K.In s1.heap) (hns : s1.heap.Ns mainGlobals mg) (hb : s1.heap.Ns builtinsNs mb) (hbb : ∀ x : Str, x ≠ "__name__" → mb x = bootBuiltins x) (hlim : s1.heap.NoLimit) (hg : s1.gens = #[])
    (ha : s1.heap.get? a = some { cls := .type "list", data := .seq vs.toArray }) (hi : IntsAre vs ns) (hl : ns.length ≤ sizeLine) (hn : ns.length ≤ n) (hr : Room (2 * k + 2) callerA)
    (GO : GloOk P ⟨K, mg, P, w⟩ G) (hf : G.fns[i]? = some f) (hcl : f.cls = none) (hfa : mg f.nm = some (.ref fa)) (hp1 : f.ps.length = 1) (hsh : ⟨1, [], [.ps 0]⟩ ∈ f.shps) (says : LawSays G k i n) :
    codeAny (model P w) callerA (.call (.ref fa) ⟨[.ref a], []⟩) (fun r s' => r = .ok (.ret (.bool true)) ∧ OldK s1.heap s'.heap ∧ s'.os = s1.os ∧ AllBare s'.gens) s1 := by
  have rv := vals_ints hi
  have lv : vs.length ≤ sizeLine := by rw [hi.length]; exact hl
  obtain ⟨f1, fd, m1, m2, m3, F⟩ := callF_ok (P := P) (w := w) (p := ⟨K, mg, P, w⟩) (base := hidT s1.heap (topH K a (scriptO vs) (ns.map V.int))) ⟨rfl, rfl⟩ GO k i f hf
  obtain rfl : f1 = fa := by
    unfold FnPl at m1
    rw [hcl] at m1
    have z := m1.symm.trans hfa
    injection z with z
    injection z
  obtain ⟨_, _, gg, gV, bind, e1⟩ := m3 _ hsh
  obtain ⟨S, e2⟩ := says ns hn
  have one : Vals [V.ref a] [Value.ref a] := .cons rfl .nil
  have wish : spG ⟨K, mg, P, w⟩ f.ps.length (callF G k i) (gV [V.ref a] []) (topH K a (scriptO vs) (ns.map V.int)) (fun v _ => v = .bl true) (fun _ _ _ => False) := by
    rw [e1 [V.ref a] [] rfl rfl]
    refine ⟨[], [], [scriptD ns], hp1.symm, ⟨_, _, rfl, ⟨a, _, rfl, top_rol KX ha rv lv, vrs_ints ns⟩, rfl⟩, conc_nil, ?_⟩
    rw [e2]
    exact fun _ _ _ _ _ hv => hv
  refine codeAny_mono (F.run callerA [] s1 _ ⟨[.ref a], []⟩ _ _ _ _ hr rfl (top_env KX hns hb hbb hlim hg ha rv lv) (bind.to s1 [.ref a] [] KX rfl rfl) (bind.rel one .nil) wish) fun r t h => ?_
  rcases r with e | (_ | _ | _ | u)
  · obtain ⟨_, _, _, _, _, _, _, _, _, _, _, _, z⟩ := h
    exact z.elim
  · exact False.elim h
  · exact False.elim h
  · exact False.elim h
  · obtain ⟨z1, z2⟩ := top_end ha h
    rw [z1]
    exact ⟨rfl, z2⟩
/-- a law over the head's facts -/
theorem walk_ofG {l : PySem.W.OpenLaw} {n k i : Nat} {q : Program} {loose : List Str} {XP : (Str → Option Value) → Heap → Prop} {YP : World → Heap → Prop} {d : DefRec} {G : Glo} {f : Fn}
    (hn : l.most = some n) (hn2 : n ≤ sizeLine) (hdf : d.params.defaults = []) (hk : k ≤ 99) (hf : G.fns[i]? = some f) (hcl : f.cls = none) (hnm : d.name = f.nm) (hp1 : f.ps.length = 1) (hsh : ⟨1, [], [.ps 0]⟩ ∈ f.shps)
    (F : ∀ (w : World) (mg : Str → Option Value) (h : Heap), YP w h → h.Ns mainGlobals mg → ∃ K : PySem.W.Frag, K.In h ∧ GloOk l.prog ⟨K, mg, l.prog, w⟩ G) (says : LawSays G k i n) :
    PySem.W.WalkO q loose XP YP l.row.toRowW d [] (fun f vs => PySem.call f vs) := by
  refine Att.attach_call hn hdf fun w s0 s1 mg mb fa o pm cd doc a vs ns Gr Y ho hd hcd hmg hobj hints hlen hg => ?_
  obtain ⟨K, KX, GO⟩ := F w mg _ Y Gr.T.g
  exact law_callG KX Gr.T.g Gr.T.b Gr.T.builtins Gr.T.nolimit hg hobj hints (Nat.le_trans hlen hn2) hlen (room_top (by omega)) GO hf hcl (hnm ▸ hmg) hp1 hsh says
end Mn

namespace Mn
open PySem PySem.Spec PyProof.Rows L2

/-! plain reasoning: what holds behind an evaluation -/
abbrev XP := Str → List (Str × D) → Store → Prop
def wp {α : Type} (r : Rs α) (Q : α → Store → Prop) (E : XP) : Prop := match r with
  | .ok a S => Q a S
  | .exc c fl S => E c fl S
  | .bad => False
structure PQ where
  nx : Env → Store → Prop
  rt : D → Store → Prop
  bk : Env → Store → Prop
  ct : Env → Store → Prop
  ex : Env → XP
def wpS (r : RS) (Q : PQ) : Prop := match r with
  | .nx env S => Q.nx env S
  | .rt d S => Q.rt d S
  | .bk env S => Q.bk env S
  | .ct env S => Q.ct env S
  | .exc c fl env S => Q.ex env c fl S
  | .bad => False
def wpO {α : Type} (o : Option (α × Store)) (Q : α → Store → Prop) : Prop := match o with
  | some (a, S) => Q a S
  | none => False
def NoX : XP := fun _ _ _ => False
section
variable {α β : Type} {Q Q' : α → Store → Prop} {E : XP} {r : Rs α}
theorem wp_mono (h : wp r Q E) (k : ∀ a S, Q a S → Q' a S) : wp r Q' E := by
  cases r with
  | ok a S => exact k a S h
  | exc c fl S => exact h
  | bad => exact h
theorem wp_noX (h : wp r Q NoX) : wp r Q E := by
  cases r with
  | ok a S => exact h
  | exc c fl S => exact h.elim
  | bad => exact h.elim
theorem wp_use (h : wp r Q NoX) (k : ∀ a S, Q a S → Q' a S) : wp r Q' E := wp_mono (wp_noX h) k
theorem wp_ok {a : α} {S : Store} : wp (.ok a S) Q E = Q a S := rfl
theorem wp_bind {f : α → Store → Rs β} {R : β → Store → Prop} : wp (r.bind f) R E = wp r (fun a S => wp (f a S) R E) E := by cases r <;> rfl
theorem wp_lf {o : Option (α × Store)} : wp (lf o) Q E = wpO o Q := by
  cases o with
  | none => rfl
  | some p => rfl
theorem wp_toS {f : α → Store → RS} {env : Env} {P : PQ} : wpS (r.toS env f) P = wp r (fun a S => wpS (f a S) P) (P.ex env) := by cases r <;> rfl
theorem wpO_some {a : α} {S : Store} : wpO (some (a, S)) Q = Q a S := rfl
theorem wpO_ite {c : Prop} [Decidable c] {a b : Option (α × Store)} : wpO (if c then a else b) Q = if c then wpO a Q else wpO b Q := by split <;> rfl
theorem ok_of_wp {d : α} {r : Rs α} (h : wp r (fun a _ => a = d) NoX) : ∃ S, r = .ok d S := by
  cases r with
  | ok a S => exact ⟨S, by rw [show a = d from h]⟩
  | exc c fl S => exact h.elim
  | bad => exact h.elim
end
/-! statements -/
section
variable {c : Calls'} {env : Env} {S : Store} {P : PQ}
theorem ws_nil : wpS (evSs c .nil env S) P = P.nx env S := rfl
theorem ws_cons {s : St} {ss : Ss} : wpS (evSs c (.cons s ss) env S) P = wpS (evS c s env S) ⟨fun e S' => wpS (evSs c ss e S') P, P.rt, P.bk, P.ct, P.ex⟩ := by
  show wpS (seqS (evS c s) (evSs c ss) env S) P = _
  unfold seqS
  cases evS c s env S <;> rfl
theorem ws_pass : wpS (evS c .pass env S) P = P.nx env S := rfl
theorem ws_brk : wpS (evS c .brk env S) P = P.bk env S := rfl
theorem ws_cnt : wpS (evS c .cnt env S) P = P.ct env S := rfl
theorem ws_retN : wpS (evS c .retN env S) P = P.rt .non S := rfl
theorem ws_ret {e : Ex} : wpS (evS c (.ret e) env S) P = wp (evE c e env S) P.rt (P.ex env) := by
  show wpS (retS (evE c e) env S) P = _
  unfold retS
  rw [wp_toS]
  rfl
theorem ws_expr {e : Ex} : wpS (evS c (.expr e) env S) P = wp (evE c e env S) (fun _ S' => P.nx env S') (P.ex env) := by
  show wpS (exprS (evE c e) env S) P = _
  unfold exprS
  rw [wp_toS]
  rfl
def setP (o : Option Env) (f : Env → Prop) : Prop := match o with
  | some e => f e
  | none => False
theorem setP_some {e : Env} {f : Env → Prop} : setP (some e) f = f e := rfl
theorem ws_asg {t : Tg} {e : Ex} : wpS (evS c (.asg t e) env S) P = wp (evE c e env S) (fun d S' => setP (evG t d env S') fun e' => P.nx e' S') (P.ex env) := by
  show wpS (asgS (evG t) (evE c e) env S) P = _
  unfold asgS
  rw [wp_toS]
  congr 1
  funext d S'
  cases evG t d env S' <;> rfl
def setX (o : Option (Env × Store)) (f : Env → Store → Prop) : Prop := match o with
  | some (e, S) => f e S
  | none => False
theorem setX_some {e : Env} {S : Store} {f : Env → Store → Prop} : setX (some (e, S)) f = f e S := rfl
theorem ws_asgX {ts : Tgs} {n : Nat} {e : Ex} : wpS (evS c (.asgX ts n e) env S) P = wp (evE c e env S) (fun d S' => setX (starG (evGs ts) n d env S') P.nx) (P.ex env) := by
  show wpS (asgXS (starG (evGs ts) n) (evE c e) env S) P = _
  unfold asgXS
  rw [wp_toS]
  congr 1
  funext d S'
  cases starG (evGs ts) n d env S' with
  | none => rfl
  | some q => obtain ⟨a, b⟩ := q; rfl
def putP (o : Option Store) (f : Store → Prop) : Prop := match o with
  | some e => f e
  | none => False
theorem putP_some {e : Store} {f : Store → Prop} : putP (some e) f = f e := rfl
theorem ws_put {o i e : Ex} : wpS (evS c (.put o i e) env S) P = wp (evE c e env S) (fun v S1 => wp (evE c o env S1) (fun d S2 => wp (evE c i env S2) (fun k S3 => putP (setD d k v S3) fun S4 => P.nx env S4) (P.ex env)) (P.ex env)) (P.ex env) := by
  show wpS (subS (evE c o) (evE c i) (evE c e) env S) P = _
  unfold subS
  rw [wp_toS]
  congr 1
  funext v S1
  rw [wp_toS]
  congr 1
  funext d S2
  rw [wp_toS]
  congr 1
  funext k S3
  cases setD d k v S3 <;> rfl
theorem ws_ifs {t : Te} {a b : Ss} : wpS (evS c (.ifs t a b) env S) P = wp (evT c t env S) (fun k S' => if k = true then wpS (evSs c a env S') P else wpS (evSs c b env S') P) (P.ex env) := by
  show wpS (ifS (evT c t) (evSs c a) (evSs c b) env S) P = _
  unfold ifS
  rw [wp_toS]
  congr 1
  funext k S'
  split <;> rfl
theorem ws_for {t : Tg} {g : It} {b : Ss} : wpS (evS c (.forq t g b) env S) P = wp (evI c g env S) (fun src S' => wpS (forL src (evG t) (evSs c b) (srcLen src S') 0 env S') P) (P.ex env) := by
  show wpS (forS (evI c g) (evG t) (evSs c b) env S) P = _
  unfold forS
  rw [wp_toS]
theorem ws_whl {n : Nat} {t : Te} {b : Ss} : wpS (evS c (.whl n t b) env S) P = wpS (whileL (evT c t) (evSs c b) n env S) P := rfl
theorem wp_fnRun {r : RS} {Q : D → Store → Prop} {E : XP} : wp (fnRun r) Q E = wpS r ⟨fun _ S => Q .non S, Q, fun _ _ => False, fun _ _ => False, fun _ => E⟩ := by cases r <;> rfl
/-- a loop's rule: J i holds ahead of turn i; n turns -/
theorem for_rule {src : Src} {tgt : DG} {b : DS} {n : Nat} (J : Nat → Env → Store → Prop) (hi : ∀ i e T, J i e T → i ≤ n → ∃ o, itemAt src i T = some o ∧ (o = none ↔ i = n)) (step : ∀ i e T d, i < n → J i e T → itemAt src i T = some (some d) →
      setP (tgt d e T) fun e' => wpS (b e' T) ⟨J (i + 1), P.rt, P.nx, J (i + 1), P.ex⟩) (fin : ∀ e T, J n e T → P.nx e T) : ∀ (k i : Nat) (e : Env) (T : Store), i + k = n → J i e T → wpS (forL src tgt b k i e T) P := by
  intro k
  induction k with
  | zero =>
    intro i e T hk hj
    obtain ⟨o, h1, h2⟩ := hi i e T hj (by omega)
    have h3 := h2.mpr (by omega)
    subst h3
    show wpS (match itemAt src i T with
      | some none => .nx e T
      | _ => .bad) P
    rw [h1]
    have : i = n := by omega
    subst this
    exact fin e T hj
  | succ k ih =>
    intro i e T hk hj
    obtain ⟨o, h1, h2⟩ := hi i e T hj (by omega)
    show wpS (match itemAt src i T with
      | none => .bad
      | some none => .nx e T
      | some (some x) => match tgt x e T with
        | none => .bad
        | some env1 => match b env1 T with
          | .nx env' S' => forL src tgt b k (i + 1) env' S'
          | .ct env' S' => forL src tgt b k (i + 1) env' S'
          | .bk env' S' => .nx env' S'
          | r => r) P
    rw [h1]
    cases o with
    | none =>
      have := h2.mp rfl
      omega
    | some d =>
      have s := step i e T d (by omega) hj h1
      cases q : tgt d e T with
      | none => rw [q] at s; exact s.elim
      | some e1 =>
        show wpS (match tgt d e T with
          | none => .bad
          | some env1 => match b env1 T with
            | .nx env' S' => forL src tgt b k (i + 1) env' S'
            | .ct env' S' => forL src tgt b k (i + 1) env' S'
            | .bk env' S' => .nx env' S'
            | r => r) P
        rw [q] at s ⊢
        have s : wpS (b e1 T) ⟨J (i + 1), P.rt, P.nx, J (i + 1), P.ex⟩ := s
        show wpS (match b e1 T with
          | .nx env' S' => forL src tgt b k (i + 1) env' S'
          | .ct env' S' => forL src tgt b k (i + 1) env' S'
          | .bk env' S' => .nx env' S'
          | r => r) P
        cases q2 : b e1 T with
        | nx e2 T2 => rw [q2] at s; exact ih (i + 1) e2 T2 (by omega) s
        | ct e2 T2 => rw [q2] at s; exact ih (i + 1) e2 T2 (by omega) s
        | bk e2 T2 => rw [q2] at s; exact s
        | rt d2 T2 => rw [q2] at s; exact s
        | exc c2 fl e2 T2 => rw [q2] at s; exact s
        | bad => rw [q2] at s; exact s
/-- while: a measure falls -/
theorem while_rule {t : DT} {b : DS} (J : Nat → Env → Store → Prop) (step : ∀ m e T, J m e T → wp (t e T) (fun k T1 => if k = true then 0 < m ∧ wpS (b e T1) ⟨J (m - 1), P.rt, P.nx, J (m - 1), P.ex⟩ else P.nx e T1) (P.ex e)) :
    ∀ (n m : Nat) (e : Env) (T : Store), m < n → J m e T → wpS (whileL t b n e T) P := by
  intro n
  induction n with
  | zero => intro m e T h; omega
  | succ n ih =>
    intro m e T hm hj
    show wpS ((t e T).toS e fun k S1 => if k = true then (match b e S1 with
      | .nx env' S' => whileL t b n env' S'
      | .ct env' S' => whileL t b n env' S'
      | .bk env' S' => .nx env' S'
      | r => r) else .nx e S1) P
    rw [wp_toS]
    refine wp_mono (step m e T hj) fun k T1 h => ?_
    by_cases hk : k = true
    · rw [if_pos hk] at h ⊢
      obtain ⟨h0, h⟩ := h
      cases q2 : b e T1 with
      | nx e2 T2 => rw [q2] at h; exact ih (m - 1) e2 T2 (by omega) h
      | ct e2 T2 => rw [q2] at h; exact ih (m - 1) e2 T2 (by omega) h
      | bk e2 T2 => rw [q2] at h; exact h
      | rt d2 T2 => rw [q2] at h; exact h
      | exc c2 fl e2 T2 => rw [q2] at h; exact h
      | bad => rw [q2] at h; exact h
    · rw [if_neg hk] at h ⊢
      exact h
end
def varP (o : Option (Option D)) (f : D → Prop) : Prop := match o with
  | some (some d) => f d
  | _ => False
theorem varP_some {d : D} {f : D → Prop} : varP (some (some d)) f = f d := rfl
section
variable {c : Calls'} {env : Env} {S : Store} {P : PQ}
def catP (o : Option Bool) (a b : Prop) : Prop := match o with
  | some true => a
  | some false => b
  | none => False
theorem catP_t {a b : Prop} : catP (some true) a b = a := rfl
theorem catP_f {a b : Prop} : catP (some false) a b = b := rfl
theorem ws_stf {cl f : Str} {o e : Ex} : wpS (evS c (.stf cl f o e) env S) P = wp (evE c e env S) (fun v S1 => wp (evE c o env S1) (fun d S2 => putP (stfD cl f d v S2) fun S3 => P.nx env S3) (P.ex env)) (P.ex env) := by
  show wpS (stfS cl f (evE c o) (evE c e) env S) P = _
  unfold stfS
  rw [wp_toS]
  congr 1
  funext v S1
  rw [wp_toS]
  congr 1
  funext d S2
  cases stfD cl f d v S2 <;> rfl
theorem ws_aug {i : Nat} {op : BO} {e : Ex} : wpS (evS c (.aug i op e) env S) P = varP env[i]? fun x => wp (evE c e env S) (fun y S1 => wpO (op.ig x y S1) fun z S2 => P.nx (env.set i (some z)) S2) (P.ex env) := by
  show wpS (augS i op.ig (evE c e) env S) P = _
  unfold augS
  cases h : env[i]? with
  | none => rfl
  | some o =>
    cases o with
    | none => rfl
    | some x =>
      show wpS ((evE c e env S).toS env _) P = wp (evE c e env S) _ (P.ex env)
      rw [wp_toS]
      congr 1
      funext y S1
      cases op.ig x y S1 with
      | none => rfl
      | some q => obtain ⟨z, S2⟩ := q; rfl
theorem ws_rse {cl : Str} : wpS (evS c (.rse cl) env S) P = P.ex env cl [] S := rfl
theorem ws_try {x : Str} {cat : List (Str × Bool)} {i j : Nat} {b : Ss} : wpS (evS c (.tryx x cat i j b) env S) P = wpS (evSs c b env S) ⟨P.nx, P.rt, P.bk, P.ct, fun e' k fl S' => catP (cat.lookup k) (P.nx ((e'.set j (some (.exo k (fl.map (·.1)) (fl.map (·.2))))).set i none) S') (P.ex e' k fl S')⟩ := by
  show wpS (tryS (fun k => cat.lookup k) i j (evSs c b) env S) P = _
  unfold tryS
  cases evSs c b env S with
  | exc k fl env' S' =>
    dsimp only
    cases h : cat.lookup k with
    | none => simp only [h, wpS, catP]
    | some o => cases o <;> simp only [h, wpS, catP]
  | _ => rfl
theorem ws_rsx {cl f : Str} {e : Ex} : wpS (evS c (.rsx cl f e) env S) P = wp (evE c e env S) (fun d S1 => P.ex env cl [(f, d)] S1) (P.ex env) := by
  show wpS (raiseXS cl f (evE c e) env S) P = _
  unfold raiseXS
  rw [wp_toS]
  rfl
theorem ws_trym {xs : List Str} {cat : List (Str × Bool)} {i j : Nat} {b : Ss} : wpS (evS c (.trym xs cat i j b) env S) P = wpS (evSs c b env S) ⟨P.nx, P.rt, P.bk, P.ct, fun e' k fl S' => catP (cat.lookup k) (P.nx ((e'.set j (some (.exo k (fl.map (·.1)) (fl.map (·.2))))).set i none) S') (P.ex e' k fl S')⟩ := ws_try (x := default)
def insP (o : Option (Str × List (Str × D))) (f : Str → List (Str × D) → Prop) : Prop := match o with
  | some (cl, fs) => f cl fs
  | none => False
theorem insP_some {cl : Str} {fs : List (Str × D)} {f : Str → List (Str × D) → Prop} : insP (some (cl, fs)) f = f cl fs := rfl
def tabP (o : Option (Nat × Shp)) (f : Nat → Shp → Prop) : Prop := match o with
  | some (i, sh) => f i sh
  | none => False
theorem tabP_some {i : Nat} {sh : Shp} {f : Nat → Shp → Prop} : tabP (some (i, sh)) f = f i sh := rfl
def optP {α : Type} (o : Option α) (f : α → Prop) : Prop := match o with
  | some x => f x
  | none => False
theorem optP_some {α : Type} {x : α} {f : α → Prop} : optP (some x) f = f x := rfl
theorem ws_augf {cl f : Str} {op : BO} {o e : Ex} : wpS (evS c (.augf cl f op o e) env S) P = wp (evE c o env S) (fun d S1 => insP (insOf S1 d) fun _ fs => optP (fs.lookup f) fun x => wp (evE c e env S1) (fun y S2 => wpO (op.ig x y S2) fun z S3 => putP (stfD cl f d z S3) fun S4 => P.nx env S4) (P.ex env)) (P.ex env) := by
  show wpS (augfS cl f op.ig (evE c o) (evE c e) env S) P = _
  unfold augfS
  rw [wp_toS]
  congr 1
  funext d S1
  cases insOf S1 d with
  | none => rfl
  | some q =>
    obtain ⟨cl', fs⟩ := q
    show wpS (match fs.lookup f with
      | some x => (evE c e env S1).toS env fun y S2 => match op.ig x y S2 with
        | some (z, S3) => match stfD cl f d z S3 with
          | some S4 => .nx env S4
          | none => .bad
        | none => .bad
      | none => .bad) P = _
    rw [insP_some]
    cases fs.lookup f with
    | none => rfl
    | some x =>
      show wpS ((evE c e env S1).toS env _) P = _
      rw [wp_toS, optP_some]
      congr 1
      funext y S2
      cases op.ig x y S2 with
      | none => rfl
      | some q =>
        obtain ⟨z, S3⟩ := q
        show wpS (match stfD cl f d z S3 with
          | some S4 => .nx env S4
          | none => .bad) P = putP (stfD cl f d z S3) _
        cases stfD cl f d z S3 <;> rfl
variable {Q : D → Store → Prop} {E : XP}
theorem we_fld {f : Str} {o : Ex} : wp (evE c (.fld f o) env S) Q E = wp (evE c o env S) (fun d S1 => wpO (fldD f d S1) Q) E := by
  show wp ((evE c o env S).bind fun d S1 => lf (fldD f d S1)) Q E = _
  rw [wp_bind]
  congr 1
  funext d S1
  rw [wp_lf]
theorem wp_shG {sh : Shp} {g : List D → Store → Rs D} {ds zs : List D} : wp (shG sh g ds zs S) Q E = ((ds.length = sh.n ∧ zs.length = sh.ks.length) ∧ wp (g (sh.src.map (asmD ds zs)) S) Q E) := by
  unfold shG
  by_cases h : ds.length = sh.n ∧ zs.length = sh.ks.length
  · rw [if_pos h]; exact propext ⟨fun q => ⟨h, q⟩, fun q => q.2⟩
  · rw [if_neg h]; exact propext ⟨fun q => q.elim, fun q => absurd q.1 h⟩
theorem we_mto {m : Str} {tab : MTab} {o : Ex} {es ks : Exs} : wp (evE c (.mto m tab o es ks) env S) Q E = wp (evE c o env S) (fun d S1 => insP (insOf S1 d) fun cl fs => fs.lookup m = none ∧ tabP (tab.lookup cl) fun i sh => wp (evA c es env S1) (fun ds S2 => wp (evA c ks env S2) (fun zs S3 => (ds.length + 1 = sh.n ∧ zs.length = sh.ks.length) ∧ wp (c i (sh.src.map (asmD (d :: ds) zs)) S3) Q E) E) E) E := by
  show wp (momE m tab c (evE c o) (evA c es) (evA c ks) env S) Q E = _
  unfold momE
  rw [wp_bind]
  congr 1
  funext d S1
  cases insOf S1 d with
  | none => rfl
  | some q =>
    obtain ⟨cl, fs⟩ := q
    rw [insP_some]
    dsimp only
    cases h1 : fs.lookup m with
    | some z => exact propext ⟨fun q => q.elim, fun q => by cases q.1⟩
    | none =>
      cases h2 : tab.lookup cl with
      | none => exact propext ⟨fun q => q.elim, fun q => q.2.elim⟩
      | some ish =>
        obtain ⟨i, sh⟩ := ish
        rw [tabP_some]
        dsimp only
        have e : wp ((evA c es env S1).bind fun ds S2 => (evA c ks env S2).bind fun zs S3 => shG sh (c i) (d :: ds) zs S3) Q E = wp (evA c es env S1) (fun ds S2 => wp (evA c ks env S2) (fun zs S3 => (ds.length + 1 = sh.n ∧ zs.length = sh.ks.length) ∧ wp (c i (sh.src.map (asmD (d :: ds) zs)) S3) Q E) E) E := by
          rw [wp_bind]
          congr 1
          funext ds S2
          rw [wp_bind]
          congr 1
          funext zs S3
          rw [wp_shG]
          rfl
        rw [e]
        exact propext ⟨fun q => ⟨rfl, q⟩, fun q => q.2⟩
theorem we_mk {cl : Str} {i : Nat} {sh : Shp} {es ks : Exs} : wp (evE c (.mk cl i sh es ks) env S) Q E = wp (evA c es env S) (fun ds S1 => wp (evA c ks env S1) (fun zs S2 => (ds.length + 1 = sh.n ∧ zs.length = sh.ks.length) ∧ wp (c i (sh.src.map (asmD (.loc S2.length :: ds) zs)) (S2 ++ [.ins cl []])) (fun d S3 => d = .non ∧ Q (.loc S2.length) S3) E) E) E := by
  show wp (makE cl i sh c (evA c es) (evA c ks) env S) Q E = _
  unfold makE
  rw [wp_bind]
  congr 1
  funext ds S1
  rw [wp_bind]
  congr 1
  funext zs S2
  rw [wp_bind, wp_shG]
  congr 1
  congr 1
  funext d S3
  cases d <;> first | exact propext ⟨fun q => ⟨rfl, q⟩, fun q => q.2⟩ | exact propext ⟨fun q => q.elim, fun q => by cases q.1⟩
theorem we_isx {x : Str} {cd : D} {tab : List (Str × Bool)} {e : Ex} : wp (evE c (.isx x cd tab e) env S) Q E = wp (evE c e env S) (fun d S1 => wpO (isxG tab cd [d, cd] S1) Q) E := by
  show wp (calE (isxG tab cd) (consA (evE c e) (consA (cstD cd) nilA)) env S) Q E = _
  unfold calE consA
  rw [wp_bind, wp_bind]
  congr 1
  funext d S1
  rw [wp_bind]
  show wp (lf (isxG tab cd [d, cd] S1)) Q E = _
  rw [wp_lf]
theorem o_isx {tab : List (Str × Bool)} {cd : D} {k : Str} {ks : List Str} {vs : List D} (h : clsB cd cd = true) : wpO (isxG tab cd [.exo k ks vs, cd] S) Q = optP (tab.lookup k) fun b => Q (.bl b) S := by
  unfold isxG
  dsimp only
  rw [if_pos h]
  cases tab.lookup k <;> rfl
end
/-! expressions -/
section
variable {c : Calls'} {env : Env} {S : Store} {Q : D → Store → Prop} {E : XP}
theorem we_var {i : Nat} : wp (evE c (.var i) env S) Q E = varP env[i]? fun d => Q d S := by
  show wp (varD i env S) Q E = _
  unfold varD
  cases env[i]? with
  | none => rfl
  | some o => cases o <;> rfl
theorem we_cst {d : D} : wp (evE c (.cst d) env S) Q E = Q d S := rfl
theorem we_glo {x : Str} {d : D} : wp (evE c (.glo x d) env S) Q E = Q d S := rfl
theorem we_bty {t : BT} : wp (evE c (.bty t) env S) Q E = Q (.ty t.t) S := rfl
theorem wp_bin2 {g : D → D → Store → Option (D × Store)} {ra rb : DE} : wp (bin2 g ra rb env S) Q E = wp (ra env S) (fun x S1 => wp (rb env S1) (fun y S2 => wpO (g x y S2) Q) E) E := by
  unfold bin2
  rw [wp_bind]
  congr 1
  funext x S1
  rw [wp_bind]
  congr 1
  funext y S2
  rw [wp_lf]
theorem we_bin {o : BO} {a b : Ex} : wp (evE c (.bin o a b) env S) Q E = wp (evE c a env S) (fun x S1 => wp (evE c b env S1) (fun y S2 => wpO (o.g x y S2) Q) E) E := wp_bin2
theorem we_cmp {o : CO} {a b : Ex} : wp (evE c (.cmp o a b) env S) Q E = wp (evE c a env S) (fun x S1 => wp (evE c b env S1) (fun y S2 => wpO (o.g x y S2) Q) E) E := wp_bin2
theorem we_idx {a b : Ex} : wp (evE c (.idx a b) env S) Q E = wp (evE c a env S) (fun x S1 => wp (evE c b env S1) (fun y S2 => wpO (idxD x y S2) Q) E) E := wp_bin2
def blP (d : D) (f : Bool → Prop) : Prop := match d with
  | .bl b => f b
  | _ => False
theorem blP_bl {b : Bool} {f : Bool → Prop} : blP (.bl b) f = f b := rfl
theorem we_chn {o1 o2 : CO} {a b d : Ex} : wp (evE c (.chn o1 o2 a b d) env S) Q E = wp (evE c a env S) (fun x S1 => wp (evE c b env S1) (fun y S2 => wpO (o1.g x y S2) fun z S3 => blP z fun k => if k = true then wp (evE c d env S3) (fun w S4 => wpO (o2.g y w S4) Q) E else Q (.bl false) S3) E) E := by
  show wp (chain2 o1.g o2.g (evE c a) (evE c b) (evE c d) env S) Q E = _
  unfold chain2
  rw [wp_bind]
  congr 1
  funext x S1
  rw [wp_bind]
  congr 1
  funext y S2
  rw [wp_bind, wp_lf]
  congr 1
  funext z S3
  rw [wp_bind]
  cases z with
  | bl k =>
    show wp (if k = true then (evE c d env S3).bind fun w S5 => lf (o2.g y w S5) else .ok (.bl false) S3) Q E = _
    cases k with
    | true =>
      show wp ((evE c d env S3).bind fun w S5 => lf (o2.g y w S5)) Q E = wp (evE c d env S3) (fun w S4 => wpO (o2.g y w S4) Q) E
      rw [wp_bind]
      congr 1
      funext w S4
      rw [wp_lf]
    | false => rfl
  | _ => rfl
def truP (o : Option Bool) (f : Bool → Prop) : Prop := match o with
  | some b => f b
  | none => False
theorem truP_some {b : Bool} {f : Bool → Prop} : truP (some b) f = f b := rfl
theorem wp_truR {d : D} {R : Bool → Store → Prop} : wp (truR d S) R E = truP (truO d S) fun b => R b S := by
  unfold truR truP
  split <;> simp_all [wp]
theorem we_notq {a : Ex} : wp (evE c (.notq a) env S) Q E = wp (evE c a env S) (fun x S1 => truP (truO x S1) fun k => Q (.bl (!k)) S1) E := by
  show wp (notE (evE c a) env S) Q E = _
  unfold notE
  rw [wp_bind]
  congr 1
  funext x S1
  rw [wp_bind, wp_truR]
  rfl
theorem we_neg {a : Ex} : wp (evE c (.neg a) env S) Q E = wp (evE c a env S) (fun x S1 => match x with
    | .int i => Q (.int (-i)) S1
    | _ => False) E := by
  show wp (negE (evE c a) env S) Q E = _
  unfold negE
  rw [wp_bind]
  congr 1
  funext x S1
  cases x <;> rfl
theorem we_boo1 {k : Bool} {a : Ex} : wp (evE c (.boo k (.cons a .nil)) env S) Q E = wp (evE c a env S) Q E := rfl
theorem we_and {a b : Ex} {r : Exs} : wp (evE c (.boo true (.cons a (.cons b r))) env S) Q E = wp (evE c a env S) (fun x S1 => truP (truO x S1) fun k => if k = true then wp (evE c (.boo true (.cons b r)) env S1) Q E else Q x S1) E := by
  show wp (andE (evE c a) (evB c true (.cons b r)) env S) Q E = _
  unfold andE
  rw [wp_bind]
  congr 1
  funext x S1
  rw [wp_bind, wp_truR]
  congr 1
  funext k
  cases k <;> rfl
theorem we_or {a b : Ex} {r : Exs} : wp (evE c (.boo false (.cons a (.cons b r))) env S) Q E = wp (evE c a env S) (fun x S1 => truP (truO x S1) fun k => if k = true then Q x S1 else wp (evE c (.boo false (.cons b r)) env S1) Q E) E := by
  show wp (orE (evE c a) (evB c false (.cons b r)) env S) Q E = _
  unfold orE
  rw [wp_bind]
  congr 1
  funext x S1
  rw [wp_bind, wp_truR]
  congr 1
  funext k
  cases k <;> rfl
theorem we_ite {t : Te} {a b : Ex} : wp (evE c (.ite t a b) env S) Q E = wp (evT c t env S) (fun k S1 => if k = true then wp (evE c a env S1) Q E else wp (evE c b env S1) Q E) E := by
  show wp (iteE (evT c t) (evE c a) (evE c b) env S) Q E = _
  unfold iteE
  rw [wp_bind]
  congr 1
  funext k S1
  cases k <;> rfl
/-- argument lists -/
theorem wa_nil {R : List D → Store → Prop} : wp (evA c .nil env S) R E = R [] S := rfl
theorem wa_cons {e : Ex} {es : Exs} {R : List D → Store → Prop} : wp (evA c (.cons e es) env S) R E = wp (evE c e env S) (fun d S1 => wp (evA c es env S1) (fun ds S2 => R (d :: ds) S2) E) E := by
  show wp (consA (evE c e) (evA c es) env S) R E = _
  unfold consA
  rw [wp_bind]
  congr 1
  funext d S1
  rw [wp_bind]
  rfl
theorem we_tup {es : Exs} : wp (evE c (.tup es) env S) Q E = wp (evA c es env S) (fun ds S1 => ds.length ≤ sz ∧ Q (.tup ds) S1) E := by
  show wp (tupE (evA c es) env S) Q E = _
  unfold tupE
  rw [wp_bind]
  congr 1
  funext ds S1
  by_cases h : ds.length ≤ sz
  · rw [if_pos h]; exact propext ⟨fun q => ⟨h, q⟩, fun q => q.2⟩
  · rw [if_neg h]; exact propext ⟨fun q => q.elim, fun q => absurd q.1 h⟩
theorem we_lst {es : Exs} : wp (evE c (.lst es) env S) Q E = wp (evA c es env S) (fun ds S1 => ds.length ≤ sz ∧ Q (.loc S1.length) (S1 ++ [.lst ds])) E := by
  show wp (lstE (evA c es) env S) Q E = _
  unfold lstE
  rw [wp_bind]
  congr 1
  funext ds S1
  by_cases h : ds.length ≤ sz
  · rw [if_pos h]; exact propext ⟨fun q => ⟨h, q⟩, fun q => q.2⟩
  · rw [if_neg h]; exact propext ⟨fun q => q.elim, fun q => absurd q.1 h⟩
theorem we_dic0 : wp (evE c .dic0 env S) Q E = Q (.loc S.length) (S ++ [.dct []]) := rfl
theorem wo_no {R : Option Int → Store → Prop} : wp (evO c .no env S) R E = R none S := rfl
def intP (d : D) (f : Int → Prop) : Prop := match d with
  | .int i => f i
  | _ => False
theorem intP_int {i : Int} {f : Int → Prop} : intP (.int i) f = f i := rfl
theorem wo_so {e : Ex} {R : Option Int → Store → Prop} : wp (evO c (.so e) env S) R E = wp (evE c e env S) (fun d S1 => intP d fun i => R (some i) S1) E := by
  show wp (someO (evE c e) env S) R E = _
  unfold someO
  rw [wp_bind]
  congr 1
  funext d S1
  cases d <;> rfl
theorem we_slc {a : Ex} {lo hi : Op} : wp (evE c (.slc a lo hi) env S) Q E = wp (evE c a env S) (fun d S1 => wp (evO c lo env S1) (fun l S2 => wp (evO c hi env S2) (fun h S3 => wpO (slcD d l h S3) Q) E) E) E := by
  show wp (slcE (evE c a) (evO c lo) (evO c hi) env S) Q E = _
  unfold slcE
  rw [wp_bind]
  congr 1
  funext d S1
  rw [wp_bind]
  congr 1
  funext l S2
  rw [wp_bind]
  congr 1
  funext h S3
  rw [wp_lf]
def revP (d k : D) (f : List D → Prop) : Prop := match d, k with
  | .tup ds, .int i => i = -1 ∧ f ds.reverse
  | _, _ => False
theorem revP_tup {ds : List D} {i : Int} {f : List D → Prop} : revP (.tup ds) (.int i) f = (i = -1 ∧ f ds.reverse) := rfl
theorem we_rev {a b : Ex} : wp (evE c (.rev a b) env S) Q E = wp (evE c a env S) (fun d S1 => wp (evE c b env S1) (fun k S2 => revP d k fun ds => Q (.tup ds) S2) E) E := by
  show wp (revE (evE c a) (evE c b) env S) Q E = _
  unfold revE
  rw [wp_bind]
  congr 1
  funext d S1
  rw [wp_bind]
  congr 1
  funext k S2
  cases d with
  | tup ds =>
    cases k with
    | int i =>
      show wp (if i = -1 then .ok (.tup ds.reverse) S2 else .bad) Q E = (i = -1 ∧ Q (.tup ds.reverse) S2)
      by_cases h : i = -1
      · rw [if_pos h]; exact propext ⟨fun q => ⟨h, q⟩, fun q => q.2⟩
      · rw [if_neg h]; exact propext ⟨fun q => q.elim, fun q => absurd q.1 h⟩
    | _ => rfl
  | _ => rfl
theorem we_bfn {f : BF} {es : Exs} : wp (evE c (.bfn f es) env S) Q E = wp (evA c es env S) (fun ds S1 => wpO (f.g ds S1) Q) E := by
  show wp (calE f.g (evA c es) env S) Q E = _
  unfold calE
  rw [wp_bind]
  congr 1
  funext ds S1
  rw [wp_lf]
theorem we_own {i : Nat} {sh : Shp} {es ks : Exs} : wp (evE c (.own i sh es ks) env S) Q E = wp (evA c es env S) (fun ds S1 => wp (evA c ks env S1) (fun zs S2 => (ds.length = sh.n ∧ zs.length = sh.ks.length) ∧ wp (c i (sh.src.map (asmD ds zs)) S2) Q E) E) E := by
  show wp (kcalE sh.n sh.ks.length (fun ds zs S => c i (sh.src.map (asmD ds zs)) S) (evA c es) (evA c ks) env S) Q E = _
  unfold kcalE
  rw [wp_bind]
  congr 1
  funext ds S1
  rw [wp_bind]
  congr 1
  funext zs S2
  by_cases h : ds.length = sh.n ∧ zs.length = sh.ks.length
  · rw [if_pos h]; exact propext ⟨fun q => ⟨h, q⟩, fun q => q.2⟩
  · rw [if_neg h]; exact propext ⟨fun q => q.elim, fun q => absurd q.1 h⟩
theorem we_mth {m : MT} {o : Ex} {es : Exs} : wp (evE c (.mth m o es) env S) Q E = wp (evE c o env S) (fun d S1 => tyB m.T d S1 = true ∧ wp (evA c es env S1) (fun ds S2 => wpO (m.g d ds S2) Q) E) E := by
  show wp (mthE m.T m.g (evE c o) (evA c es) env S) Q E = _
  unfold mthE
  rw [wp_bind]
  congr 1
  funext d S1
  by_cases h : tyB m.T d S1 = true
  · rw [if_pos h, wp_bind]
    have e : wp (evA c es env S1) (fun ds S2 => wp (lf (m.g d ds S2)) Q E) E = wp (evA c es env S1) (fun ds S2 => wpO (m.g d ds S2) Q) E := by
      congr 1
      funext ds S2
      rw [wp_lf]
    rw [e]
    exact propext ⟨fun q => ⟨h, q⟩, fun q => q.2⟩
  · rw [if_neg h]; exact propext ⟨fun q => q.elim, fun q => absurd q.1 h⟩
/-! tests -/
theorem wt_pl {a : Ex} {R : Bool → Store → Prop} : wp (evT c (.pl a) env S) R E = wp (evE c a env S) (fun x S1 => truP (truO x S1) fun k => R k S1) E := by
  show wp (tstD (evE c a) env S) R E = _
  unfold tstD
  rw [wp_bind]
  congr 1
  funext x S1
  rw [wp_truR]
theorem wt_no {t : Te} {R : Bool → Store → Prop} : wp (evT c (.no t) env S) R E = wp (evT c t env S) (fun k S1 => R (!k) S1) E := by
  show wp (notT (evT c t) env S) R E = _
  unfold notT
  rw [wp_bind]
  rfl
theorem wt_bo1 {k : Bool} {t : Te} {R : Bool → Store → Prop} : wp (evT c (.bo k (.cons t .nil)) env S) R E = wp (evT c t env S) R E := rfl
theorem wt_and {t u : Te} {r : Tes} {R : Bool → Store → Prop} : wp (evT c (.bo true (.cons t (.cons u r))) env S) R E = wp (evT c t env S) (fun k S1 => if k = true then wp (evT c (.bo true (.cons u r)) env S1) R E else R false S1) E := by
  show wp (andT (evT c t) (evTs c true (.cons u r)) env S) R E = _
  unfold andT
  rw [wp_bind]
  congr 1
  funext k S1
  cases k <;> rfl
theorem wt_or {t u : Te} {r : Tes} {R : Bool → Store → Prop} : wp (evT c (.bo false (.cons t (.cons u r))) env S) R E = wp (evT c t env S) (fun k S1 => if k = true then R true S1 else wp (evT c (.bo false (.cons u r)) env S1) R E) E := by
  show wp (orT (evT c t) (evTs c false (.cons u r)) env S) R E = _
  unfold orT
  rw [wp_bind]
  congr 1
  funext k S1
  cases k <;> rfl
theorem wc_yes {R : Bool → Store → Prop} : wp (evC c .yes env S) R E = R true S := rfl
theorem wc_one {t : Te} {R : Bool → Store → Prop} : wp (evC c (.one t) env S) R E = wp (evT c t env S) R E := rfl
/-! sources -/
theorem wi_seq {a : Ex} {R : Src → Store → Prop} : wp (evI c (.seq a) env S) R E = wp (evE c a env S) (fun d S1 => wp (srcR d S1) R E) E := by
  show wp (seqI (evE c a) env S) R E = _
  unfold seqI
  rw [wp_bind]
theorem wi_rng1 {a : Ex} {R : Src → Store → Prop} : wp (evI c (.rng1 a) env S) R E = wp (evE c a env S) (fun d S1 => intP d fun j => (-(2 ^ 62) ≤ j ∧ j < 2 ^ 62) ∧ R (.rng 0 j.toNat) S1) E := by
  show wp (rng1I (consA (evE c a) nilA) env S) R E = _
  unfold rng1I consA
  rw [wp_bind, wp_bind]
  congr 1
  funext d S1
  rw [wp_bind]
  show wp (rng1D [d] S1) R E = _
  cases d with
  | int j =>
    show wp (if (decide (-(2 ^ 62) ≤ j) && decide (j < 2 ^ 62)) = true then Rs.ok (Src.rng 0 j.toNat) S1 else .bad) R E = ((-(2 ^ 62) ≤ j ∧ j < 2 ^ 62) ∧ R (.rng 0 j.toNat) S1)
    by_cases h : (-(2 ^ 62) ≤ j ∧ j < 2 ^ 62)
    · rw [if_pos (by simp only [Bool.and_eq_true, decide_eq_true_eq]; exact h)]; exact propext ⟨fun q => ⟨h, q⟩, fun q => q.2⟩
    · rw [if_neg (by simp only [Bool.and_eq_true, decide_eq_true_eq]; exact h)]; exact propext ⟨fun q => q.elim, fun q => absurd q.1 h⟩
  | _ => rfl
end
end Mn

namespace Mn
open PySem PySem.Spec PyProof.Rows L2

/-! what stays of the store -/
def Kp (S S' : Store) : Prop := ∀ (m : Nat) (c : Cell), S[m]? = some c → S'[m]? = some c
theorem Kp.at {S T : Store} (h : Kp S T) {m : Nat} {c : Cell} (e : S[m]? = some c) : T[m]? = some c := h m c e
theorem Kp.refl (S : Store) : Kp S S := fun _ _ h => h
theorem Kp.trans {S T U : Store} (h : Kp S T) (k : Kp T U) : Kp S U := fun m c e => k m c (h m c e)
theorem Kp.push (S : Store) (c : Cell) : Kp S (S ++ [c]) := fun m d e => by
  rw [List.getElem?_append_left (List.getElem?_eq_some_iff.mp e).1]; exact e
theorem Kp.len {S T : Store} (h : Kp S T) : S.length ≤ T.length := by
  by_cases z : S.length = 0
  · omega
  · have hl : S.length - 1 < S.length := by omega
    have := (List.getElem?_eq_some_iff.mp (h _ _ (List.getElem?_eq_getElem hl))).1
    omega
/-- all but the cell n -/
structure Kx (n : Nat) (S S' : Store) : Prop where
  len : S.length ≤ S'.length
  at_ : ∀ (m : Nat) (c : Cell), m ≠ n → S[m]? = some c → S'[m]? = some c
theorem Kp.x {n : Nat} {S T : Store} (h : Kp S T) : Kx n S T := ⟨h.len, fun m c _ e => h m c e⟩
theorem Kx.refl (n : Nat) (S : Store) : Kx n S S := ⟨Nat.le_refl _, fun _ _ _ h => h⟩
theorem Kx.trans {n : Nat} {S T U : Store} (h : Kx n S T) (k : Kx n T U) : Kx n S U := ⟨Nat.le_trans h.len k.len, fun m c q e => k.at_ m c q (h.at_ m c q e)⟩
theorem Kx.set {n : Nat} (S : Store) (c : Cell) : Kx n S (S.set n c) := ⟨by simp, fun m d q e => by rw [List.getElem?_set_ne (Ne.symm q)]; exact e⟩
theorem push_at (S : Store) (c : Cell) : (S ++ [c])[S.length]? = some c := by simp
theorem push_len (S : Store) (c : Cell) : (S ++ [c]).length = S.length + 1 := by simp

/-! values -/
section
variable {S : Store} {Q : D → Store → Prop}
theorem o_add_i {i j : Int} : wpO (BO.g .add (.int i) (.int j) S) Q = Q (.int (i + j)) S := rfl
theorem o_sub_i {i j : Int} : wpO (BO.g .sub (.int i) (.int j) S) Q = Q (.int (i - j)) S := rfl
theorem o_ite {c : Prop} [Decidable c] {a : D} {T : Store} : wpO (if c then some (a, T) else none) Q = (c ∧ Q a T) := by
  by_cases h : c
  · rw [if_pos h]; exact propext ⟨fun q => ⟨h, q⟩, fun q => q.2⟩
  · rw [if_neg h]; exact propext ⟨fun q => q.elim, fun q => absurd q.1 h⟩
theorem o_mul_i {i j : Int} : wpO (BO.g .mul (.int i) (.int j) S) Q = (mulB i j = true ∧ Q (.int (i * j)) S) := o_ite
theorem o_fdiv {i j : Int} : wpO (BO.g .fdiv (.int i) (.int j) S) Q = ((j ≠ 0 ∧ j.natAbs < 1073741824) ∧ Q (.int (i.fdiv j)) S) := by
  show wpO (if (decide (j ≠ 0) && decide (j.natAbs < 1073741824)) = true then some (D.int (i.fdiv j), S) else none) Q = _
  rw [o_ite, Bool.and_eq_true, decide_eq_true_eq, decide_eq_true_eq]
theorem o_mod {i j : Int} : wpO (BO.g .mod (.int i) (.int j) S) Q = (j ≠ 0 ∧ Q (.int (i.fmod j)) S) := by
  show wpO (if decide (j ≠ 0) = true then some (D.int (i.fmod j), S) else none) Q = _
  rw [o_ite, decide_eq_true_eq]
theorem o_pow {i j : Int} : wpO (BO.g .pow (.int i) (.int j) S) Q = (powB i j = true ∧ Q (.int (i ^ j.toNat)) S) := o_ite
theorem o_tupAdd {xs ys : List D} : wpO (BO.g .add (.tup xs) (.tup ys) S) Q = wpO (tupAdd (.tup xs) (.tup ys) S) Q := rfl
theorem o_lstAdd {m n : Nat} : wpO (BO.g .add (.loc m) (.loc n) S) Q = wpO (lstAdd (.loc m) (.loc n) S) Q := rfl
theorem o_str_add {a b : Str} : wpO (BO.g .add (.str a) (.str b) S) Q = (a.length + b.length ≤ sz ∧ Q (.str (a ++ b)) S) := o_ite
theorem o_lt_i {i j : Int} : wpO (CO.g .lt (.int i) (.int j) S) Q = Q (.bl (decide (i < j))) S := rfl
theorem o_gt_i {i j : Int} : wpO (CO.g .gt (.int i) (.int j) S) Q = Q (.bl (decide (j < i))) S := rfl
theorem o_le_i {i j : Int} : wpO (CO.g .le (.int i) (.int j) S) Q = Q (.bl (decide (i ≤ j))) S := by
  show Q (.bl (!decide (j < i))) S = _
  rw [not_lt_le]
theorem o_ge_i {i j : Int} : wpO (CO.g .ge (.int i) (.int j) S) Q = Q (.bl (decide (j ≤ i))) S := by
  show Q (.bl (!decide (i < j))) S = _
  rw [not_lt_le]
theorem o_eq_i {i j : Int} : wpO (CO.g .eq (.int i) (.int j) S) Q = Q (.bl (decide (i = j))) S := by
  have e : eqO (.int i) (.int j) S = some (decide (i = j)) := by
    show (if (SeqAt.shaped (.int i) && SeqAt.shaped (.int j)) = true then some (PyData.eqv (.int i) (.int j)) else none) = _
    rw [if_pos (by rfl)]
    show some (i == j) = _
    rw [Option.some.injEq, Bool.eq_iff_iff]
    simp
  show wpO (bOp eqO false (.int i) (.int j) S) Q = _
  rw [bOp_of e]
  rfl
theorem o_ne_i {i j : Int} : wpO (CO.g .ne (.int i) (.int j) S) Q = Q (.bl (!decide (i = j))) S := by
  have e : eqO (.int i) (.int j) S = some (decide (i = j)) := by
    show (if (SeqAt.shaped (.int i) && SeqAt.shaped (.int j)) = true then some (PyData.eqv (.int i) (.int j)) else none) = _
    rw [if_pos (by rfl)]
    show some (i == j) = _
    rw [Option.some.injEq, Bool.eq_iff_iff]
    simp
  show wpO (bOp eqO true (.int i) (.int j) S) Q = _
  rw [bOp_of e]
  rfl
theorem o_eq_s {a b : Str} : wpO (CO.g .eq (.str a) (.str b) S) Q = Q (.bl (decide (a = b))) S := rfl
theorem o_ne_s {a b : Str} : wpO (CO.g .ne (.str a) (.str b) S) Q = Q (.bl (!decide (a = b))) S := rfl
theorem o_le_s {a b : Str} : wpO (CO.g .le (.str a) (.str b) S) Q = Q (.bl (!strLt b a)) S := rfl
theorem o_is_n {d : D} : wpO (CO.g .is d .non S) Q = Q (.bl (isNon d)) S := by cases d <;> rfl
theorem o_isn_n {d : D} : wpO (CO.g .isn d .non S) Q = Q (.bl (!isNon d)) S := by cases d <;> rfl
theorem o_is_b {a b : Bool} : wpO (CO.g .is (.bl a) (.bl b) S) Q = Q (.bl (decide (a = b))) S := rfl
theorem o_in_f {x y : D} {ds : List D} (hy : itemsOf S y = some ds) (hx : ∀ a b : Str, x = .str a → y ≠ .str b) (h1 : flatD x = true) (h2 : ds.all flatD = true) : wpO (CO.g .inn x y S) Q = Q (.bl (inF x ds)) S := by
  have e0 : inS x y S = none := by
    unfold inS
    split
    · exact absurd rfl (hx _ _ rfl)
    · rfl
  have e1 : inQ x y S = some (inF x ds) := by
    unfold inQ
    rw [hy]
    show (if (flatD x && ds.all flatD) = true then some (inF x ds) else none) = _
    rw [if_pos (by rw [h1, h2]; rfl)]
  have e : inD x y S = some (inF x ds) := by
    unfold inD inQL
    rw [e0, e1]
  show wpO (bOp inD false x y S) Q = _
  rw [bOp_of e]
  rfl
theorem o_in_s {a b : Str} : wpO (CO.g .inn (.str a) (.str b) S) Q = Q (.bl (txtIn a b)) S := rfl
theorem txtIn_one (c : Nat) (x : Str) : txtIn ⟨#[c]⟩ x = decide (c ∈ x.cps.toList) := StrLaws.found_one x c
theorem t_bl {b : Bool} {f : Bool → Prop} : truP (truO (.bl b) S) f = f b := rfl
theorem t_int {i : Int} {f : Bool → Prop} : truP (truO (.int i) S) f = f (i != 0) := rfl
theorem atI_nat {α : Type} (xs : List α) (k : Nat) : atI xs (k : Int) = xs[k]? := by
  unfold atI ixN
  rw [if_pos (by omega)]
  by_cases h : k < xs.length
  · rw [if_pos (by omega)]
    rfl
  · rw [if_neg (by omega), List.getElem?_eq_none (by omega)]
    rfl
theorem atI_0 {α : Type} (xs : List α) : atI xs 0 = xs[0]? := atI_nat xs 0
theorem atI_1 {α : Type} (xs : List α) : atI xs 1 = xs[1]? := atI_nat xs 1
theorem atI_2 {α : Type} (xs : List α) : atI xs 2 = xs[2]? := atI_nat xs 2
theorem atI_3 {α : Type} (xs : List α) : atI xs 3 = xs[3]? := atI_nat xs 3
theorem atI_4 {α : Type} (xs : List α) : atI xs 4 = xs[4]? := atI_nat xs 4
theorem atI_5 {α : Type} (xs : List α) : atI xs 5 = xs[5]? := atI_nat xs 5
theorem atI_of {α : Type} {xs : List α} {i : Int} (h0 : 0 ≤ i) : atI xs i = xs[i.toNat]? := by
  obtain ⟨n, rfl⟩ : ∃ n : Nat, i = (n : Int) := ⟨i.toNat, by omega⟩
  rw [atI_nat]
  rfl
theorem o_idx {d : D} {ds : List D} {i : Int} (h : itemsOf S d = some ds) {x : D} (hx : atI ds i = some x) : wpO (idxD d (.int i) S) Q = Q x S := by
  have e : idxD d (.int i) S = some (x, S) := by
    have e1 : idxO d (.int i) S = some (x, S) := by
      unfold idxO
      rw [h]
      show (atI ds i).map (fun x => (x, S)) = _
      rw [hx]
      rfl
    unfold idxD
    rw [e1]
  rw [e]
  rfl
theorem o_len_t {ds : List D} : wpO (BF.g .len [.tup ds] S) Q = Q (.int ds.length) S := rfl
theorem o_len_s {x : Str} : wpO (BF.g .len [.str x] S) Q = (x.length ≤ sz ∧ Q (.int x.length) S) := o_ite
theorem o_len {d : D} {ds : List D} (h : itemsOf S d = some ds) : wpO (BF.g .len [d] S) Q = Q (.int ds.length) S := by
  show wpO (lenD d S) Q = _
  cases d with
  | str x => cases h
  | tup xs => cases h; rfl
  | ros xs => cases h; rfl
  | loc n =>
    show wpO (match itemsOf S (.loc n) with
      | some ds => some (D.int ds.length, S)
      | none => (dctOf S (.loc n)).map fun kvs => (.int kvs.length, S)) Q = _
    rw [h]
    rfl
  | _ => cases h
theorem o_isi {d : D} {n t : String} (h : tyD S d = some t) (hn : n ∈ tyNames) : wpO (BF.g .isi [d, .ty n] S) Q = Q (.bl (subTy t n)) S := by
  show wpO (isiD [d, .ty n] S) Q = _
  unfold isiD
  show wpO (match tyD S d with
    | some t => if n ∈ tyNames then some (.bl (subTy t n), S) else none
    | none => none) Q = _
  rw [h]
  show wpO (if n ∈ tyNames then some (.bl (subTy t n), S) else none) Q = _
  rw [if_pos hn]
  rfl
theorem o_tuple {d : D} {ds : List D} (h : itemsOf S d = some ds) : wpO (BF.g .tuple [d] S) Q = Q (.tup ds) S := by
  show wpO ((itemsOf S d).map fun ds => (D.tup ds, S)) Q = _
  rw [h]
  rfl
theorem o_list {d : D} {ds : List D} (h : itemsOf S d = some ds) : wpO (BF.g .list [d] S) Q = Q (.loc S.length) (S ++ [.lst ds]) := by
  show wpO ((itemsOf S d).map fun ds => (D.loc S.length, S ++ [.lst ds])) Q = _
  rw [h]
  rfl
theorem bls_map (bs : List Bool) : blsOf (bs.map D.bl) = some bs := by
  induction bs with
  | nil => rfl
  | cons b r ih =>
    show (blsOf (r.map D.bl)).map (fun bs => b :: bs) = _
    rw [ih]
    rfl
theorem o_all {n : Nat} {bs : List Bool} (h : S[n]? = some (.lst (bs.map D.bl))) : wpO (BF.g .all [.loc n] S) Q = Q (.bl (bs.all id)) S := by
  show wpO ((lstOf S (.loc n)).bind fun ds => (blsOf ds).map fun bs => (D.bl (bs.all id), S)) Q = _
  have e : lstOf S (.loc n) = some (bs.map D.bl) := by
    show (match S[n]? with
      | some (.lst ds) => some ds
      | _ => none) = _
    rw [h]
  rw [e]
  show wpO ((blsOf (bs.map D.bl)).map fun bs => (D.bl (bs.all id), S)) Q = _
  rw [bls_map]
  rfl
theorem o_max {i j : Int} : wpO (BF.g .max [.int i, .int j] S) Q = Q (.int (maxI i j)) S := rfl
theorem o_min {i j : Int} : wpO (BF.g .min [.int i, .int j] S) Q = Q (.int (minI i j)) S := rfl
theorem items_loc {n : Nat} {ds : List D} (h : S[n]? = some (.lst ds)) : itemsOf S (.loc n) = some ds := by
  show (match S[n]? with
    | some (.lst ds) => some ds
    | _ => none) = _
  rw [h]
theorem items_tup {ds : List D} : itemsOf S (.tup ds) = some ds := rfl
theorem items_ros {ds : List D} : itemsOf S (.ros ds) = some ds := rfl
theorem items_kp {T : Store} (k : Kp S T) {d : D} {ds : List D} (h : itemsOf S d = some ds) : itemsOf T d = some ds := by
  cases d with
  | loc n =>
    have h : (match S[n]? with
      | some (.lst ds) => some ds
      | _ => none) = some ds := h
    split at h
    · rename_i xs hS
      cases h
      exact items_loc (k.at hS)
    · cases h
  | _ => exact h
theorem ty_kp {T : Store} (k : Kp S T) {d : D} {t : String} (h : tyD S d = some t) : tyD T d = some t := by
  cases d with
  | loc n =>
    have h : (match S[n]? with
      | some (.lst _) => some "list"
      | some (.dct _) => some "dict"
      | _ => none) = some t := h
    show (match T[n]? with
      | some (.lst _) => some "list"
      | some (.dct _) => some "dict"
      | _ => none) = some t
    split at h
    · rename_i xs hS
      rw [k.at hS]
      exact h
    · rename_i xs hS
      rw [k.at hS]
      exact h
    · cases h
  | _ => exact h
end

theorem o_in_t {S : Store} {Q : D → Store → Prop} {w : Str} {ds : List D} : wpO (CO.g .inn (.str w) (.tup ds) S) Q = (ds.all flatD = true ∧ Q (.bl (inF (.str w) ds)) S) := by
  by_cases h : ds.all flatD = true
  · rw [o_in_f (ds := ds) rfl (fun a b _ e => by cases e) rfl h]
    exact propext ⟨fun q => ⟨h, q⟩, fun q => q.2⟩
  · have e1 : inQ (.str w) (.tup ds) S = none := by
      show (if (true && ds.all flatD) = true then some (inF (.str w) ds) else none) = none
      rw [if_neg (by simpa using h)]
    have e2 : inL (.str w) (.tup ds) S = none := by
      unfold inL
      have e : toP S (.tup ds) = (toPWs (toPL S 8) ds).map .tuple := rfl
      rw [e]
      cases toPWs (toPL S 8) ds <;> rfl
    have e : inD (.str w) (.tup ds) S = none := by
      unfold inD inQL
      rw [e1, e2]
      rfl
    have e3 : wpO (CO.g .inn (.str w) (.tup ds) S) Q = False := by
      show wpO (bOp inD false (.str w) (.tup ds) S) Q = False
      unfold bOp
      rw [e]
      rfl
    rw [e3]
    exact propext ⟨fun q => q.elim, fun q => absurd q.1 h⟩
theorem star_t {t : DGs} {n : Nat} {ds : List D} {env : Env} {S : Store} (h : n ≤ ds.length) : starG t n (.tup ds) env S = (t (ds.take n ++ [.loc S.length]) env (S ++ [.lst (ds.drop n)])).map fun e => (e, S ++ [.lst (ds.drop n)]) := by
  show (if n ≤ ds.length then _ else _) = _
  rw [if_pos h]
theorem star_1 {t : DGs} {d : D} {ds : List D} {env : Env} {S : Store} : starG t 1 (.tup (d :: ds)) env S = (t [d, .loc S.length] env (S ++ [.lst ds])).map fun e => (e, S ++ [.lst ds]) := star_t (by simp)

/-! comprehensions -/
section
variable {c : Calls'} {env : Env} {S : Store}
theorem comp_map {vs : List Nat} {tgt : DG} {tests : DT} {elt : DE} {src : Src} {ds : List D} {f : D → Option D} {E : XP} (hsrc : ∀ T, Kp S T → ∀ i : Nat, itemAt src i T = some ds[i]?) (hz : ds.length ≤ sz)
    (hel : ∀ (i : Nat) (d : D) (T : Store), ds[i]? = some d → Kp S T → setP (tgt d (wipeE env vs) T) fun env1 => wp (tests env1 T) (fun b T1 => Kp T T1 ∧ if b = true then wp (elt env1 T1) (fun y T2 => Kp T1 T2 ∧ f d = some y) NoX else f d = none) NoX) :
    ∀ (k i : Nat) (T : Store), i + k = ds.length → Kp S T → S.length < T.length → T[S.length]? = some (.lst ((ds.take i).filterMap f)) →
      wp (compL vs src tgt tests elt S.length k i env T) (fun _ U => Kp S U ∧ U[S.length]? = some (.lst (ds.filterMap f))) E := by
  intro k
  induction k with
  | zero =>
    intro i T hk hkp hl hat
    show wp (match itemAt src i T with
      | some none => .ok () T
      | _ => .bad) _ E
    rw [hsrc T hkp i, List.getElem?_eq_none (by omega)]
    rw [List.take_of_length_le (by omega)] at hat
    exact ⟨hkp, hat⟩
  | succ k ih =>
    intro i T hk hkp hl hat
    have hi : i < ds.length := by omega
    show wp (match itemAt src i T with
      | none => .bad
      | some none => .ok () T
      | some (some x) => match tgt x (wipeE env vs) T with
        | none => .bad
        | some env1 => (nox (turnC S.length tests elt env1 T)).bind fun _ S3 => compL vs src tgt tests elt S.length k (i + 1) env S3) _ E
    rw [hsrc T hkp i, List.getElem?_eq_getElem hi]
    have h := hel i ds[i] T (List.getElem?_eq_getElem hi) hkp
    show wp (match tgt ds[i] (wipeE env vs) T with
        | none => .bad
        | some env1 => (nox (turnC S.length tests elt env1 T)).bind fun _ S3 => compL vs src tgt tests elt S.length k (i + 1) env S3) _ E
    cases q : tgt ds[i] (wipeE env vs) T with
    | none => rw [q] at h; exact h.elim
    | some env1 =>
      rw [q] at h
      have h : wp (tests env1 T) (fun b T1 => Kp T T1 ∧ if b = true then wp (elt env1 T1) (fun y T2 => Kp T1 T2 ∧ f ds[i] = some y) NoX else f ds[i] = none) NoX := h
      have tk : (ds.take (i + 1)).filterMap f = (ds.take i).filterMap f ++ (f ds[i]).toList := by
        rw [List.take_succ_eq_append_getElem hi, List.filterMap_append]
        congr 1
      show wp ((nox (turnC S.length tests elt env1 T)).bind fun _ S3 => compL vs src tgt tests elt S.length k (i + 1) env S3) _ E
      cases q1 : tests env1 T with
      | exc _ _ _ => rw [q1] at h; exact h.elim
      | bad => rw [q1] at h; exact h.elim
      | ok b T1 =>
        rw [q1] at h
        obtain ⟨k1, h⟩ := h
        have a1 := k1 _ _ hat
        have l1 := k1.len
        have e : turnC S.length tests elt env1 T = if b = true then (elt env1 T1).bind fun y S2 => putC S.length y S2 else .ok () T1 := by
          unfold turnC
          rw [q1]
          rfl
        rw [e]
        by_cases hb : b = true
        · rw [if_pos hb] at h ⊢
          cases q2 : elt env1 T1 with
          | exc _ _ _ => rw [q2] at h; exact h.elim
          | bad => rw [q2] at h; exact h.elim
          | ok y T2 =>
            rw [q2] at h
            obtain ⟨k2, hf⟩ := h
            have a2 := k2 _ _ a1
            have l2 := k2.len
            have e2 : putC S.length y T2 = .ok () (T2.set S.length (.lst ((ds.take i).filterMap f ++ [y]))) := by
              unfold putC
              rw [a2]
              show (if ((ds.take i).filterMap f).length < sz then _ else _) = _
              rw [if_pos]
              have := List.length_filterMap_le f (ds.take i)
              have := List.length_take_le i ds
              have : (ds.take i).length = i := by rw [List.length_take]; omega
              omega
            show wp ((nox (putC S.length y T2)).bind fun _ S3 => compL vs src tgt tests elt S.length k (i + 1) env S3) _ E
            rw [e2]
            refine ih (i + 1) _ (by omega) (fun m cc em => ?_) (by simp; omega) ?_
            · have hm := (List.getElem?_eq_some_iff.mp em).1
              rw [List.getElem?_set_ne (by omega)]
              exact k2 _ _ (k1 _ _ (hkp _ _ em))
            · rw [List.getElem?_set_self (by omega), tk, hf]
              rfl
        · rw [if_neg hb] at h ⊢
          refine ih (i + 1) T1 (by omega) (hkp.trans k1) (by omega) ?_
          rw [a1, tk, h]
          simp
theorem wl_map {vs : List Nat} {g : It} {tg : Tg} {ts : Cd} {e : Ex} {Q : D → Store → Prop} {E : XP} (f : D → Option D)
    (h : wp (evI c g env S) (fun src S1 => ∃ ds : List D, (∀ T, Kp S1 T → ∀ i : Nat, itemAt src i T = some ds[i]?) ∧ srcLen src S1 = ds.length ∧ ds.length ≤ sz ∧
      (∀ (i : Nat) (d : D) (T : Store), ds[i]? = some d → Kp S1 T → setP (evG tg d (wipeE env vs) T) fun env1 => wp (evC c ts env1 T) (fun b T1 => Kp T T1 ∧ if b = true then wp (evE c e env1 T1) (fun y T2 => Kp T1 T2 ∧ f d = some y) NoX else f d = none) NoX) ∧
      ∀ U, Kp S1 U → U[S1.length]? = some (.lst (ds.filterMap f)) → Q (.loc S1.length) U) E) : wp (evE c (.lcp vs g tg ts e) env S) Q E := by
  show wp (compE vs (evI c g) (evG tg) (evC c ts) (evE c e) env S) Q E
  unfold compE
  rw [wp_bind]
  refine wp_mono h fun src S1 ⟨ds, h1, h2, h3, h4, h5⟩ => ?_
  rw [wp_bind]
  refine wp_mono (comp_map (S := S1) (ds := ds) (f := f) (E := E) (fun T k i => h1 T k i) h3 (fun i d T hd k => h4 i d T hd k) (srcLen src S1) 0 _ (by omega) (Kp.push S1 _) (by simp) (by simp)) fun _ U q => ?_
  exact h5 U q.1 q.2
end
end Mn

namespace Mn
open PySem PySem.Spec PyProof.Rows L2

/-! what repr tells is short enough -/
mutual
def wt : PyData → Nat
  | .none => 5 | .bool _ => 5 | .int i => i.natAbs.log2 + 2
  | .str x => 10 * x.length + 2
  | .list xs => wts xs + 4 | .tuple xs => wts xs + 4
  | .dict _ => 4
def wts : List PyData → Nat
  | [] => 0
  | x :: r => wt x + 2 + wts r
end
mutual
def okP : PyData → Bool
  | .none => true | .bool _ => true
  | .int i => decide (i.natAbs.log2 < 1920)
  | .str x => PyData.strOk x
  | .list xs => okPs xs | .tuple xs => okPs xs
  | .dict kvs => kvs.isEmpty
def okPs : List PyData → Bool
  | [] => true
  | x :: r => okP x && okPs r
end
theorem join_le (ts : List Str) : (Str.join ", " ts).length ≤ piled ts := by
  by_cases h : ts = []
  · subst h; exact Nat.zero_le _
  · have := join_length_add ts h
    omega
theorem textFrom_le : ∀ (ts : List Str) (k : Nat) (acc : Str), (textFrom k acc ts).length ≤ acc.length + piled ts
  | [], k, acc => Nat.le_refl _
  | t :: r, k, acc => by
    have ih := textFrom_le r (k + 1) (acc ++ (if k > 0 then ", " else "" : String) ++ t)
    have e : (acc ++ (if k > 0 then ", " else "" : String) ++ t).length = acc.length + (if k > 0 then 2 else 0) + t.length := by
      rw [strLen_append, strLen_append]
      split <;> rfl
    rw [piled_cons]
    show (textFrom (k + 1) (acc ++ (if k > 0 then ", " else "" : String) ++ t) r).length ≤ _
    rw [e] at ih
    have : (if k > 0 then 2 else 0) ≤ 2 := by split <;> omega
    omega
mutual
theorem okP_ok : ∀ {q : PyData}, okP q = true → q.showable = true ∧ q.shown.length ≤ wt q
  | .none, _ => ⟨rfl, by decide⟩
  | .bool b, _ => ⟨rfl, by cases b <;> decide⟩
  | .int i, h => ⟨h, by
      have e := int_text_length_le (a := i) (k := i.natAbs.log2 + 1) (Nat.succ_pos _) (Nat.lt_succ_self _)
      show (Str.ofString (toString i)).length ≤ i.natAbs.log2 + 2
      exact Nat.le_trans (Nat.le_of_eq (PySem.ofString_length _)) e⟩
  | .str x, h => ⟨rfl, by
      have h : PyData.strOk x = true := h
      unfold PyData.strOk at h
      rw [← Array.all_toList] at h
      exact StrLaws.reprText_len x fun c hc => by
        have := List.all_eq_true.mp h c hc
        have := of_decide_eq_true this
        omega⟩
  | .list xs, h => by
    obtain ⟨h1, h2⟩ := okPs_ok (qs := xs) h
    refine ⟨h1, ?_⟩
    have := textFrom_le (PyData.shownAll xs) 0 "["
    show (textFrom 0 "[" (PyData.shownAll xs) ++ ("]" : Str)).length ≤ wts xs + 4
    rw [strLen_append]
    have e1 : (("[" : String) : Str).length = 1 := rfl
    have e2 : (("]" : String) : Str).length = 1 := rfl
    omega
  | .tuple xs, h => by
    obtain ⟨h1, h2⟩ := okPs_ok (qs := xs) h
    refine ⟨h1, ?_⟩
    have := join_le (PyData.shownAll xs)
    show (tupleText (PyData.shownAll xs)).length ≤ wts xs + 4
    unfold tupleText
    rw [strLen_append, strLen_append]
    have e1 : (("(" : String) : Str).length = 1 := rfl
    have e3 : (((if (PyData.shownAll xs).length == 1 then ",)" else ")" : String) : Str)).length ≤ 2 := by split <;> decide
    omega
  | .dict [], _ => ⟨rfl, by decide⟩
  | .dict (_ :: _), h => by cases h
theorem okPs_ok : ∀ {qs : List PyData}, okPs qs = true → PyData.showableAll qs = true ∧ piled (PyData.shownAll qs) ≤ wts qs
  | [], _ => ⟨rfl, by decide⟩
  | q :: r, h => by
    have h : (okP q && okPs r) = true := h
    rw [Bool.and_eq_true] at h
    obtain ⟨a1, a2⟩ := okP_ok h.1
    obtain ⟨b1, b2⟩ := okPs_ok h.2
    refine ⟨by show (q.showable && PyData.showableAll r) = true; rw [a1, b1]; rfl, ?_⟩
    show piled (q.shown :: PyData.shownAll r) ≤ wt q + 2 + wts r
    rw [piled_cons]
    omega
end
def prB (q : PyData) : Bool := okP q && decide (wt q ≤ sz) && decide (q.depth ≤ 60) && (!q.hasDict || noList q)
theorem rpr_ok {S : Store} {d : D} {q : PyData} (h : toR S d = some q) (k : prB q = true) : rprD d S = some (.str q.shown, S) := by
  unfold prB at k
  rw [Bool.and_eq_true, Bool.and_eq_true, Bool.and_eq_true] at k
  obtain ⟨⟨⟨k1, k2⟩, k3⟩, k4⟩ := k
  obtain ⟨s1, s2⟩ := okP_ok k1
  unfold rprD
  rw [h]
  show (if (q.showable && decide (q.shown.length ≤ sz) && decide (q.depth ≤ 60) && (!q.hasDict || noList q)) = true then some (D.str q.shown, S) else none) = _
  rw [if_pos]
  rw [s1, k3, k4, decide_eq_true (Nat.le_trans s2 (of_decide_eq_true k2))]
  rfl
/-! values without cells -/
mutual
def pure_ : D → Option PyData
  | .non => some .none | .bl b => some (.bool b) | .int i => some (.int i) | .str x => some (.str x)
  | .tup ds => (pures ds).map .tuple
  | .ros _ => none | .loc _ => none | .ty _ => none | .gl _ => none | .exo _ _ _ => none
def pures : List D → Option (List PyData)
  | [] => some []
  | d :: r => (pure_ d).bind fun q => (pures r).map fun qs => q :: qs
end
mutual
theorem pure_W (f : Nat → Option PyData) : ∀ {d : D} {q : PyData}, pure_ d = some q → toPW f d = some q
  | .non, _, h => h
  | .bl _, _, h => h
  | .int _, _, h => h
  | .str _, _, h => h
  | .tup ds, q, h => by
    have h : (pures ds).map PyData.tuple = some q := h
    cases e : pures ds with
    | none => rw [e] at h; cases h
    | some qs =>
      rw [e] at h
      show (toPWs f ds).map PyData.tuple = some q
      rw [pures_W f e]
      exact h
  | .ros _, _, h => by cases h
  | .loc _, _, h => by cases h
  | .ty _, _, h => by cases h
  | .gl _, _, h => by cases h
  | .exo _ _ _, _, h => by cases h
theorem pures_W (f : Nat → Option PyData) : ∀ {ds : List D} {qs : List PyData}, pures ds = some qs → toPWs f ds = some qs
  | [], _, h => h
  | d :: r, qs, h => by
    have h : ((pure_ d).bind fun q => (pures r).map fun qs => q :: qs) = some qs := h
    cases e : pure_ d with
    | none => rw [e] at h; cases h
    | some q =>
      rw [e] at h
      have h : ((pures r).map fun qs => q :: qs) = some qs := h
      cases e2 : pures r with
      | none => rw [e2] at h; cases h
      | some qs2 =>
        rw [e2] at h
        show ((toPW f d).bind fun q => (toPWs f r).map fun qs => q :: qs) = some qs
        rw [pure_W f e]
        show ((toPWs f r).map fun qs => q :: qs) = some qs
        rw [pures_W f e2]
        exact h
end
/-! loops over numbers, over items -/
theorem for_rng {tgt : DG} {b : DS} {n : Nat} {P : PQ} (J : Nat → Env → Store → Prop) (step : ∀ (i : Nat) (e : Env) (T : Store), i < n → J i e T → setP (tgt (.int i) e T) fun e' => wpS (b e' T) ⟨J (i + 1), P.rt, P.nx, J (i + 1), P.ex⟩)
    (fin : ∀ e T, J n e T → P.nx e T) {e : Env} {T U : Store} (h : J 0 e T) : wpS (forL (.rng 0 n) tgt b (srcLen (.rng 0 n) U) 0 e T) P := by
  refine for_rule (n := n) J (fun i e T _ hi => ?_) (fun i e T d hi hj hd => ?_) fin n 0 e T (by omega) h
  · by_cases h : i < n
    · exact ⟨some (.int (0 + i)), by show some (if i < n then some (D.int (0 + i)) else none) = _; rw [if_pos h], ⟨fun q => absurd q (by simp), fun q => absurd h (by omega)⟩⟩
    · exact ⟨none, by show some (if i < n then some (D.int (0 + i)) else none) = _; rw [if_neg h], ⟨fun _ => by omega, fun _ => rfl⟩⟩
  · have hd : some (if i < n then some (D.int (0 + i)) else none) = some (some d) := hd
    rw [if_pos hi] at hd
    cases hd
    have := step i e T hi hj
    rw [Int.zero_add]
    exact this
theorem for_lst {tgt : DG} {b : DS} {d : D} {ds : List D} {P : PQ} (J : Nat → Env → Store → Prop) (hk : ∀ i e T, J i e T → itemsOf T d = some ds)
    (step : ∀ (i : Nat) (e : Env) (T : Store) (x : D), ds[i]? = some x → J i e T → setP (tgt x e T) fun e' => wpS (b e' T) ⟨J (i + 1), P.rt, P.nx, J (i + 1), P.ex⟩)
    (fin : ∀ e T, J ds.length e T → P.nx e T) {e : Env} {T : Store} (h : J 0 e T) : wpS (forL (.seq d) tgt b (srcLen (.seq d) T) 0 e T) P := by
  have e1 : srcLen (.seq d) T = ds.length := by
    show ((itemsOf T d).map List.length).getD 0 = _
    rw [hk 0 e T h]
    rfl
  rw [e1]
  refine for_rule (n := ds.length) J (fun i e T hj hi => ⟨ds[i]?, ?_, ?_⟩) (fun i e T x hi hj hx => ?_) fin ds.length 0 e T (by omega) h
  · show (itemsOf T d).map (fun ds => ds[i]?) = _
    rw [hk i e T hj]
    rfl
  · rw [List.getElem?_eq_none_iff]
    omega
  · have hx : (itemsOf T d).map (fun ds => ds[i]?) = some (some x) := hx
    rw [hk i e T hj] at hx
    exact step i e T x (Option.some.inj hx) hj
theorem cut_to {ds : List D} {i : Int} (h0 : 0 ≤ i) (h1 : i ≤ ds.length) : cutD ds none (some i) = ds.take i.toNat := by
  unfold cutD
  show (ds.drop 0).take ((if i < 0 then (i + (ds.length : Int)).toNat else min i.toNat ds.length) - 0) = _
  rw [if_neg (by omega), Nat.min_eq_left (by omega)]
  rfl
theorem cut_from {ds : List D} {i : Int} (h0 : 0 ≤ i) (h1 : i ≤ ds.length) : cutD ds (some i) none = ds.drop i.toNat := by
  unfold cutD
  show (ds.drop (if i < 0 then (i + (ds.length : Int)).toNat else min i.toNat ds.length)).take (ds.length - (if i < 0 then (i + (ds.length : Int)).toNat else min i.toNat ds.length)) = _
  rw [if_neg (by omega), Nat.min_eq_left (by omega)]
  exact List.take_of_length_le (by rw [List.length_drop]; exact Nat.le_refl _)
theorem o_tupP {xs ys : List D} {S : Store} {Q : D → Store → Prop} : wpO (BO.g .add (.tup xs) (.tup ys) S) Q = (xs.length + ys.length ≤ sz ∧ Q (.tup (xs ++ ys)) S) := o_ite
theorem o_lstP {m n : Nat} {xs ys : List D} {S : Store} {Q : D → Store → Prop} (h1 : S[m]? = some (.lst xs)) (h2 : S[n]? = some (.lst ys)) (hz : xs.length + ys.length ≤ sz) : wpO (BO.g .add (.loc m) (.loc n) S) Q = Q (.loc S.length) (S ++ [.lst (xs ++ ys)]) := by
  show wpO (match S[m]?, S[n]? with
    | some (.lst xs), some (.lst ys) => if xs.length + ys.length ≤ sz then some (D.loc S.length, S ++ [Cell.lst (xs ++ ys)]) else none
    | _, _ => none) Q = _
  rw [h1, h2]
  show wpO (if xs.length + ys.length ≤ sz then some (D.loc S.length, S ++ [Cell.lst (xs ++ ys)]) else none) Q = _
  rw [if_pos hz]
  rfl
theorem o_rpr {d : D} {z : Str} {S : Store} {Q : D → Store → Prop} (h : rprD d S = some (.str z, S)) : wpO (BF.g .repr [d] S) Q = Q (.str z) S := by
  show wpO (rprD d S) Q = _
  rw [h]
  rfl
theorem rpr_bl {b : Bool} {S : Store} {Q : D → Store → Prop} : wpO (BF.g .repr [.bl b] S) Q = Q (.str (PyData.shown (.bool b))) S :=
  o_rpr (rpr_ok (q := .bool b) rfl (by cases b <;> decide))
theorem o_slc_t {ds : List D} {l h : Option Int} {S : Store} {Q : D → Store → Prop} : wpO (slcD (.tup ds) l h S) Q = Q (.tup (cutD ds l h)) S := rfl
end Mn

namespace K02
open PySem PySem.Spec PyProof.Rows L2 Mn
/-! own syntax, printed by gen.py -/
def fuelW : Nat := 1000
def tab_NoLetter : List (Str × Bool) := [("HeadError", false), ("NoMembers", false), ("NoState", false), ("NoLetter", true), ("NoBegin", false), ("NoDeed", false), ("NoAsk", false), ("NoRow", false), ("NoWorld", false), ("NoKind", false), ("NoNumber", false), ("NoWeaving", false), ("NoText", false), ("NoAsker", false), ("NoHouse", false), ("Busy", false), ("Forged", false), ("TooMany", false)]
def tab_NoState : List (Str × Bool) := [("HeadError", false), ("NoMembers", false), ("NoState", true), ("NoLetter", false), ("NoBegin", false), ("NoDeed", false), ("NoAsk", false), ("NoRow", false), ("NoWorld", false), ("NoKind", false), ("NoNumber", false), ("NoWeaving", false), ("NoText", false), ("NoAsker", false), ("NoHouse", false), ("Busy", false), ("Forged", false), ("TooMany", false)]
def tab_NoMembers : List (Str × Bool) := [("HeadError", false), ("NoMembers", true), ("NoState", false), ("NoLetter", false), ("NoBegin", false), ("NoDeed", false), ("NoAsk", false), ("NoRow", false), ("NoWorld", false), ("NoKind", false), ("NoNumber", false), ("NoWeaving", false), ("NoText", false), ("NoAsker", false), ("NoHouse", false), ("Busy", false), ("Forged", false), ("TooMany", false)]
def tab_NoAsk : List (Str × Bool) := [("HeadError", false), ("NoMembers", false), ("NoState", false), ("NoLetter", false), ("NoBegin", false), ("NoDeed", false), ("NoAsk", true), ("NoRow", false), ("NoWorld", false), ("NoKind", false), ("NoNumber", false), ("NoWeaving", false), ("NoText", false), ("NoAsker", false), ("NoHouse", false), ("Busy", false), ("Forged", false), ("TooMany", false)]
def tab_NoDeed : List (Str × Bool) := [("HeadError", false), ("NoMembers", false), ("NoState", false), ("NoLetter", false), ("NoBegin", false), ("NoDeed", true), ("NoAsk", false), ("NoRow", false), ("NoWorld", false), ("NoKind", false), ("NoNumber", false), ("NoWeaving", false), ("NoText", false), ("NoAsker", false), ("NoHouse", false), ("Busy", false), ("Forged", false), ("TooMany", false)]
def tab_NoBegin : List (Str × Bool) := [("HeadError", false), ("NoMembers", false), ("NoState", false), ("NoLetter", false), ("NoBegin", true), ("NoDeed", false), ("NoAsk", false), ("NoRow", false), ("NoWorld", false), ("NoKind", false), ("NoNumber", false), ("NoWeaving", false), ("NoText", false), ("NoAsker", false), ("NoHouse", false), ("Busy", false), ("Forged", false), ("TooMany", false)]
def tab_NoKind : List (Str × Bool) := [("HeadError", false), ("NoMembers", false), ("NoState", false), ("NoLetter", false), ("NoBegin", false), ("NoDeed", false), ("NoAsk", false), ("NoRow", false), ("NoWorld", false), ("NoKind", true), ("NoNumber", false), ("NoWeaving", false), ("NoText", false), ("NoAsker", false), ("NoHouse", false), ("Busy", false), ("Forged", false), ("TooMany", false)]
def tab_NoWorld : List (Str × Bool) := [("HeadError", false), ("NoMembers", false), ("NoState", false), ("NoLetter", false), ("NoBegin", false), ("NoDeed", false), ("NoAsk", false), ("NoRow", false), ("NoWorld", true), ("NoKind", false), ("NoNumber", false), ("NoWeaving", false), ("NoText", false), ("NoAsker", false), ("NoHouse", false), ("Busy", false), ("Forged", false), ("TooMany", false)]
def tab_NoRow : List (Str × Bool) := [("HeadError", false), ("NoMembers", false), ("NoState", false), ("NoLetter", false), ("NoBegin", false), ("NoDeed", false), ("NoAsk", false), ("NoRow", true), ("NoWorld", false), ("NoKind", false), ("NoNumber", false), ("NoWeaving", false), ("NoText", false), ("NoAsker", false), ("NoHouse", false), ("Busy", false), ("Forged", false), ("TooMany", false)]
def tab_NoText : List (Str × Bool) := [("HeadError", false), ("NoMembers", false), ("NoState", false), ("NoLetter", false), ("NoBegin", false), ("NoDeed", false), ("NoAsk", false), ("NoRow", false), ("NoWorld", false), ("NoKind", false), ("NoNumber", false), ("NoWeaving", false), ("NoText", true), ("NoAsker", false), ("NoHouse", false), ("Busy", false), ("Forged", false), ("TooMany", false)]
def tab_NoWeaving : List (Str × Bool) := [("HeadError", false), ("NoMembers", false), ("NoState", false), ("NoLetter", false), ("NoBegin", false), ("NoDeed", false), ("NoAsk", false), ("NoRow", false), ("NoWorld", false), ("NoKind", false), ("NoNumber", false), ("NoWeaving", true), ("NoText", false), ("NoAsker", false), ("NoHouse", false), ("Busy", false), ("Forged", false), ("TooMany", false)]
def tab_NoNumber : List (Str × Bool) := [("HeadError", false), ("NoMembers", false), ("NoState", false), ("NoLetter", false), ("NoBegin", false), ("NoDeed", false), ("NoAsk", false), ("NoRow", false), ("NoWorld", false), ("NoKind", false), ("NoNumber", true), ("NoWeaving", false), ("NoText", false), ("NoAsker", false), ("NoHouse", false), ("Busy", false), ("Forged", false), ("TooMany", false)]
def tab_Busy : List (Str × Bool) := [("HeadError", false), ("NoMembers", false), ("NoState", false), ("NoLetter", false), ("NoBegin", false), ("NoDeed", false), ("NoAsk", false), ("NoRow", false), ("NoWorld", false), ("NoKind", false), ("NoNumber", false), ("NoWeaving", false), ("NoText", false), ("NoAsker", false), ("NoHouse", false), ("Busy", true), ("Forged", false), ("TooMany", false)]
def tab_NoHouse : List (Str × Bool) := [("HeadError", false), ("NoMembers", false), ("NoState", false), ("NoLetter", false), ("NoBegin", false), ("NoDeed", false), ("NoAsk", false), ("NoRow", false), ("NoWorld", false), ("NoKind", false), ("NoNumber", false), ("NoWeaving", false), ("NoText", false), ("NoAsker", false), ("NoHouse", true), ("Busy", false), ("Forged", false), ("TooMany", false)]
def tab_NoAsker : List (Str × Bool) := [("HeadError", false), ("NoMembers", false), ("NoState", false), ("NoLetter", false), ("NoBegin", false), ("NoDeed", false), ("NoAsk", false), ("NoRow", false), ("NoWorld", false), ("NoKind", false), ("NoNumber", false), ("NoWeaving", false), ("NoText", false), ("NoAsker", true), ("NoHouse", false), ("Busy", false), ("Forged", false), ("TooMany", false)]
def tab_TooMany : List (Str × Bool) := [("HeadError", false), ("NoMembers", false), ("NoState", false), ("NoLetter", false), ("NoBegin", false), ("NoDeed", false), ("NoAsk", false), ("NoRow", false), ("NoWorld", false), ("NoKind", false), ("NoNumber", false), ("NoWeaving", false), ("NoText", false), ("NoAsker", false), ("NoHouse", false), ("Busy", false), ("Forged", false), ("TooMany", true)]
def tab_Forged : List (Str × Bool) := [("HeadError", false), ("NoMembers", false), ("NoState", false), ("NoLetter", false), ("NoBegin", false), ("NoDeed", false), ("NoAsk", false), ("NoRow", false), ("NoWorld", false), ("NoKind", false), ("NoNumber", false), ("NoWeaving", false), ("NoText", false), ("NoAsker", false), ("NoHouse", false), ("Busy", false), ("Forged", true), ("TooMany", false)]
def tab_HeadError : List (Str × Bool) := [("HeadError", true), ("NoMembers", true), ("NoState", true), ("NoLetter", true), ("NoBegin", true), ("NoDeed", true), ("NoAsk", true), ("NoRow", true), ("NoWorld", true), ("NoKind", true), ("NoNumber", true), ("NoWeaving", true), ("NoText", true), ("NoAsker", true), ("NoHouse", false), ("Busy", false), ("Forged", false), ("TooMany", false)]
def tab_KeyError : List (Str × Bool) := [("HeadError", false), ("NoMembers", false), ("NoState", false), ("NoLetter", false), ("NoBegin", false), ("NoDeed", false), ("NoAsk", false), ("NoRow", false), ("NoWorld", false), ("NoKind", false), ("NoNumber", false), ("NoWeaving", false), ("NoText", false), ("NoAsker", false), ("NoHouse", true), ("Busy", false), ("Forged", false), ("TooMany", false)]
def tab_ValueError : List (Str × Bool) := [("HeadError", true), ("NoMembers", true), ("NoState", true), ("NoLetter", true), ("NoBegin", true), ("NoDeed", true), ("NoAsk", true), ("NoRow", true), ("NoWorld", true), ("NoKind", true), ("NoNumber", true), ("NoWeaving", true), ("NoText", true), ("NoAsker", true), ("NoHouse", false), ("Busy", false), ("Forged", false), ("TooMany", false)]
def tab_LookupError : List (Str × Bool) := [("HeadError", false), ("NoMembers", false), ("NoState", false), ("NoLetter", false), ("NoBegin", false), ("NoDeed", false), ("NoAsk", false), ("NoRow", false), ("NoWorld", false), ("NoKind", false), ("NoNumber", false), ("NoWeaving", false), ("NoText", false), ("NoAsker", false), ("NoHouse", true), ("Busy", false), ("Forged", true), ("TooMany", false)]
def tab_RuntimeError : List (Str × Bool) := [("HeadError", false), ("NoMembers", false), ("NoState", false), ("NoLetter", false), ("NoBegin", false), ("NoDeed", false), ("NoAsk", false), ("NoRow", false), ("NoWorld", false), ("NoKind", false), ("NoNumber", false), ("NoWeaving", false), ("NoText", false), ("NoAsker", false), ("NoHouse", false), ("Busy", true), ("Forged", false), ("TooMany", false)]
def tab_IndexError : List (Str × Bool) := [("HeadError", false), ("NoMembers", false), ("NoState", false), ("NoLetter", false), ("NoBegin", false), ("NoDeed", false), ("NoAsk", false), ("NoRow", false), ("NoWorld", false), ("NoKind", false), ("NoNumber", false), ("NoWeaving", false), ("NoText", false), ("NoAsker", false), ("NoHouse", false), ("Busy", false), ("Forged", false), ("TooMany", false)]
def tab_OverflowError : List (Str × Bool) := [("HeadError", false), ("NoMembers", false), ("NoState", false), ("NoLetter", false), ("NoBegin", false), ("NoDeed", false), ("NoAsk", false), ("NoRow", false), ("NoWorld", false), ("NoKind", false), ("NoNumber", false), ("NoWeaving", false), ("NoText", false), ("NoAsker", false), ("NoHouse", false), ("Busy", false), ("Forged", false), ("TooMany", true)]
def cat_HeadError : List (Str × Bool) := [("HeadError", true), ("NoMembers", true), ("NoState", true), ("NoLetter", true), ("NoBegin", true), ("NoDeed", true), ("NoAsk", true), ("NoRow", true), ("NoWorld", true), ("NoKind", true), ("NoNumber", true), ("NoWeaving", true), ("NoText", true), ("NoAsker", true), ("NoHouse", false), ("Busy", false), ("Forged", false), ("TooMany", false)]
def catm_HeadError_NoHouse_Busy_Forged_TooMany : List (Str × Bool) := [("HeadError", true), ("NoMembers", true), ("NoState", true), ("NoLetter", true), ("NoBegin", true), ("NoDeed", true), ("NoAsk", true), ("NoRow", true), ("NoWorld", true), ("NoKind", true), ("NoNumber", true), ("NoWeaving", true), ("NoText", true), ("NoAsker", true), ("NoHouse", true), ("Busy", true), ("Forged", true), ("TooMany", true)]
def b__law_cell_at : Ss := (.cons (.ifs (.pl (.cmp .lt (.var 1) (.bfn .len (.cons (.var 0) .nil)))) (.cons (.ret (.idx (.var 0) (.var 1))) .nil) .nil) (.cons (.ret (.cst (.int 0))) .nil))
def f__law_cell_at : Fn := { cls := none, nm := "_law_cell_at", ps := ["_law_script", "_law_k"], N := ["_law_script", "_law_k"], shps := [⟨2, [], [.ps 0, .ps 1]⟩], body := b__law_cell_at }
def b__law_pool : Ss := (.cons (.asg (.nm 2) (.own 0 ⟨2, [], [.ps 0, .ps 1]⟩ (.cons (.var 0) (.cons (.var 1) .nil)) .nil)) (.cons (.asg (.nm 3) (.bin .mod (.bin .mul (.bin .add (.bin .add (.bin .add (.bin .mod (.var 2) (.cst (.int 2147483629))) (.bin .mul (.bin .mul (.cst (.int 7919)) (.var 1)) (.var 1))) (.bin .mul (.cst (.int 104729)) (.var 1))) (.cst (.int 1))) (.cst (.int 48271))) (.cst (.int 2147483647)))) (.cons (.ifs (.pl (.cmp .lt (.var 2) (.bin .pow (.cst (.int 10)) (.cst (.int 18))))) (.cons (.asg (.nm 2) (.cst (.int 0))) .nil) .nil) (.cons (.ret (.lst (.cons (.var 2) (.cons (.bin .mod (.bin .mul (.var 3) (.var 3)) (.cst (.int 2147483629))) .nil)))) .nil))))
def f__law_pool : Fn := { cls := none, nm := "_law_pool", ps := ["_law_script", "_law_k"], N := ["_law_script", "_law_k", "_law_cell", "_law_seed"], shps := [⟨2, [], [.ps 0, .ps 1]⟩], body := b__law_pool }
def b__law_take : Ss := (.cons (.ifs (.pl (.cmp .gt (.idx (.var 0) (.cst (.int 0))) (.cst (.int 0)))) (.cons (.asg (.nm 2) (.bin .mod (.idx (.var 0) (.cst (.int 0))) (.var 1))) (.cons (.put (.var 0) (.cst (.int 0)) (.bin .fdiv (.idx (.var 0) (.cst (.int 0))) (.var 1))) (.cons (.ret (.var 2)) .nil))) .nil) (.cons (.put (.var 0) (.cst (.int 1)) (.bin .mod (.bin .add (.bin .mul (.idx (.var 0) (.cst (.int 1))) (.cst (.int 48271))) (.cst (.int 11))) (.cst (.int 2147483647)))) (.cons (.ret (.bin .mod (.bin .fdiv (.bin .mod (.bin .mul (.idx (.var 0) (.cst (.int 1))) (.idx (.var 0) (.cst (.int 1)))) (.cst (.int 2147483629))) (.cst (.int 64))) (.var 1))) .nil)))
def f__law_take : Fn := { cls := none, nm := "_law_take", ps := ["_law_pool_here", "_law_many"], N := ["_law_pool_here", "_law_many", "_law_found"], shps := [⟨2, [], [.ps 0, .ps 1]⟩], body := b__law_take }
def b__law_kind : Ss := (.cons (.asg (.nm 1) (.lst (.cons (.isx "NoMembers" (.gl "NoMembers") tab_NoMembers (.var 0)) (.cons (.isx "NoState" (.gl "NoState") tab_NoState (.var 0)) (.cons (.isx "NoLetter" (.gl "NoLetter") tab_NoLetter (.var 0)) .nil))))) (.cons (.asg (.nm 1) (.bin .add (.var 1) (.lst (.cons (.isx "NoBegin" (.gl "NoBegin") tab_NoBegin (.var 0)) (.cons (.isx "NoDeed" (.gl "NoDeed") tab_NoDeed (.var 0)) (.cons (.isx "NoAsk" (.gl "NoAsk") tab_NoAsk (.var 0)) .nil)))))) (.cons (.asg (.nm 1) (.bin .add (.var 1) (.lst (.cons (.isx "NoRow" (.gl "NoRow") tab_NoRow (.var 0)) (.cons (.isx "NoWorld" (.gl "NoWorld") tab_NoWorld (.var 0)) (.cons (.isx "NoKind" (.gl "NoKind") tab_NoKind (.var 0)) .nil)))))) (.cons (.asg (.nm 1) (.bin .add (.var 1) (.lst (.cons (.isx "NoNumber" (.gl "NoNumber") tab_NoNumber (.var 0)) (.cons (.isx "NoWeaving" (.gl "NoWeaving") tab_NoWeaving (.var 0)) (.cons (.isx "NoText" (.gl "NoText") tab_NoText (.var 0)) .nil)))))) (.cons (.asg (.nm 1) (.bin .add (.var 1) (.lst (.cons (.isx "NoAsker" (.gl "NoAsker") tab_NoAsker (.var 0)) (.cons (.isx "NoHouse" (.gl "NoHouse") tab_NoHouse (.var 0)) (.cons (.isx "Busy" (.gl "Busy") tab_Busy (.var 0)) .nil)))))) (.cons (.asg (.nm 1) (.bin .add (.var 1) (.lst (.cons (.isx "Forged" (.gl "Forged") tab_Forged (.var 0)) (.cons (.isx "TooMany" (.gl "TooMany") tab_TooMany (.var 0)) .nil))))) (.cons (.ifs (.bo false (.cons (.pl (.cmp .ne (.mth .count (.var 1) (.cons (.cst (.bl true)) .nil)) (.cst (.int 1)))) (.cons (.pl (.cmp .ne (.isx "HeadError" (.gl "HeadError") tab_HeadError (.var 0)) (.cmp .lt (.mth .index (.var 1) (.cons (.cst (.bl true)) .nil)) (.cst (.int 13))))) .nil))) (.cons (.ret (.cst (.str "odd"))) .nil) .nil) (.cons (.asg (.nm 2) (.lst (.cons (.cst (.str "members")) (.cons (.cst (.str "state")) (.cons (.cst (.str "letter")) (.cons (.cst (.str "begin")) (.cons (.cst (.str "deed")) (.cons (.cst (.str "ask")) (.cons (.cst (.str "row")) (.cons (.cst (.str "world")) (.cons (.cst (.str "kind")) (.cons (.cst (.str "number")) (.cons (.cst (.str "weaving")) (.cons (.cst (.str "text")) .nil)))))))))))))) (.cons (.ret (.idx (.bin .add (.var 2) (.lst (.cons (.cst (.str "asker")) (.cons (.cst (.str "house")) (.cons (.cst (.str "busy")) (.cons (.cst (.str "forged")) (.cons (.cst (.str "many")) .nil))))))) (.mth .index (.var 1) (.cons (.cst (.bl true)) .nil)))) .nil)))))))))
def f__law_kind : Fn := { cls := none, nm := "_law_kind", ps := ["_law_error"], N := ["_law_error", "_law_kinds", "_law_words"], shps := [⟨1, [], [.ps 0]⟩], body := b__law_kind }
def b__law_raised : Ss := (.cons (.asg (.nm 2) (.cst .non)) (.cons (.trym ["HeadError", "NoHouse", "Busy", "Forged", "TooMany"] catm_HeadError_NoHouse_Busy_Forged_TooMany 3 2 (.cons (.ifs (.pl (.cmp .eq (.var 0) (.cst (.int 0)))) (.cons (.rsx "NoNumber" "number" (.var 1)) .nil) .nil) (.cons (.ifs (.pl (.cmp .eq (.var 0) (.cst (.int 1)))) (.cons (.rsx "NoWeaving" "number" (.var 1)) .nil) .nil) (.cons (.ifs (.pl (.cmp .eq (.var 0) (.cst (.int 2)))) (.cons (.rsx "NoText" "row" (.var 1)) .nil) .nil) (.cons (.ifs (.pl (.cmp .eq (.var 0) (.cst (.int 3)))) (.cons (.rsx "NoAsker" "asker" (.var 1)) .nil) .nil) (.cons (.ifs (.pl (.cmp .eq (.var 0) (.cst (.int 4)))) (.cons (.rsx "NoHouse" "house" (.var 1)) .nil) .nil) (.cons (.ifs (.pl (.cmp .eq (.var 0) (.cst (.int 5)))) (.cons (.rsx "Busy" "asker" (.var 1)) .nil) .nil) (.cons (.ifs (.pl (.cmp .eq (.var 0) (.cst (.int 6)))) (.cons (.rsx "Forged" "letter" (.var 1)) .nil) .nil) (.cons (.rsx "TooMany" "many" (.var 1)) .nil))))))))) (.cons (.ret (.var 2)) .nil)))
def f__law_raised : Fn := { cls := none, nm := "_law_raised", ps := ["_law_own", "_law_one"], N := ["_law_own", "_law_one", "_law_caught", "e"], shps := [⟨2, [], [.ps 0, .ps 1]⟩], body := b__law_raised }
def b__law_texts : Ss := (.cons (.asg (.nm 1) (.cst .non)) (.cons (.tryx "HeadError" cat_HeadError 2 1 (.cons (.ifs (.pl (.cmp .eq (.var 0) (.cst (.int 0)))) (.cons (.rse "NoMembers") .nil) .nil) (.cons (.ifs (.pl (.cmp .eq (.var 0) (.cst (.int 1)))) (.cons (.rse "NoState") .nil) .nil) (.cons (.ifs (.pl (.cmp .eq (.var 0) (.cst (.int 2)))) (.cons (.rse "NoLetter") .nil) .nil) (.cons (.ifs (.pl (.cmp .eq (.var 0) (.cst (.int 3)))) (.cons (.rse "NoBegin") .nil) .nil) (.cons (.ifs (.pl (.cmp .eq (.var 0) (.cst (.int 4)))) (.cons (.rse "NoDeed") .nil) .nil) (.cons (.ifs (.pl (.cmp .eq (.var 0) (.cst (.int 5)))) (.cons (.rse "NoAsk") .nil) .nil) (.cons (.ifs (.pl (.cmp .eq (.var 0) (.cst (.int 6)))) (.cons (.rse "NoRow") .nil) .nil) (.cons (.ifs (.pl (.cmp .eq (.var 0) (.cst (.int 7)))) (.cons (.rse "NoWorld") .nil) .nil) (.cons (.rse "NoKind") .nil)))))))))) (.cons (.ret (.var 1)) .nil)))
def f__law_texts : Fn := { cls := none, nm := "_law_texts", ps := ["_law_own"], N := ["_law_own", "_law_caught", "e"], shps := [⟨1, [], [.ps 0]⟩], body := b__law_texts }
def b__law_bases : Ss := (.cons (.ifs (.bo false (.cons (.pl (.cmp .ne (.isx "ValueError" (.ty "ValueError") tab_ValueError (.var 0)) (.cmp .lt (.var 1) (.cst (.int 13))))) (.cons (.pl (.cmp .ne (.isx "KeyError" (.ty "KeyError") tab_KeyError (.var 0)) (.cmp .eq (.var 1) (.cst (.int 13))))) .nil))) (.cons (.ret (.cst (.bl false))) .nil) .nil) (.cons (.ifs (.bo false (.cons (.pl (.cmp .ne (.isx "RuntimeError" (.ty "RuntimeError") tab_RuntimeError (.var 0)) (.cmp .eq (.var 1) (.cst (.int 14))))) (.cons (.pl (.cmp .ne (.isx "LookupError" (.ty "LookupError") tab_LookupError (.var 0)) (.cmp .inn (.var 1) (.tup (.cons (.cst (.int 13)) (.cons (.cst (.int 15)) .nil)))))) .nil))) (.cons (.ret (.cst (.bl false))) .nil) .nil) (.cons (.ret (.boo true (.cons (.cmp .eq (.isx "OverflowError" (.ty "OverflowError") tab_OverflowError (.var 0)) (.cmp .eq (.var 1) (.cst (.int 16)))) (.cons (.notq (.isx "IndexError" (.ty "IndexError") tab_IndexError (.var 0))) .nil)))) .nil)))
def f__law_bases : Fn := { cls := none, nm := "_law_bases", ps := ["_law_error", "_law_own"], N := ["_law_error", "_law_own"], shps := [⟨2, [], [.ps 0, .ps 1]⟩], body := b__law_bases }
def b_law : Ss := (.cons (.asg (.nm 1) (.lst (.cons (.cst (.str "members")) (.cons (.cst (.str "state")) (.cons (.cst (.str "letter")) (.cons (.cst (.str "begin")) (.cons (.cst (.str "deed")) (.cons (.cst (.str "ask")) (.cons (.cst (.str "row")) (.cons (.cst (.str "world")) (.cons (.cst (.str "kind")) (.cons (.cst (.str "number")) (.cons (.cst (.str "weaving")) (.cons (.cst (.str "text")) .nil)))))))))))))) (.cons (.asg (.nm 1) (.bin .add (.var 1) (.lst (.cons (.cst (.str "asker")) (.cons (.cst (.str "house")) (.cons (.cst (.str "busy")) (.cons (.cst (.str "forged")) (.cons (.cst (.str "many")) .nil)))))))) (.cons (.forq (.nm 2) (.rng1 (.cst (.int 9))) (.cons (.ifs (.bo false (.cons (.pl (.cmp .ne (.own 3 ⟨1, [], [.ps 0]⟩ (.cons (.own 5 ⟨1, [], [.ps 0]⟩ (.cons (.var 2) .nil) .nil) .nil) .nil) (.idx (.var 1) (.var 2)))) (.cons (.no (.pl (.own 6 ⟨2, [], [.ps 0, .ps 1]⟩ (.cons (.own 5 ⟨1, [], [.ps 0]⟩ (.cons (.var 2) .nil) .nil) (.cons (.var 2) .nil)) .nil))) .nil))) (.cons (.ret (.cst (.bl false))) .nil) .nil) .nil)) (.cons (.forq (.nm 3) (.rng1 (.bfn .max (.cons (.cst (.int 1)) (.cons (.bfn .min (.cons (.cst (.int 8)) (.cons (.bfn .len (.cons (.var 0) .nil)) .nil))) .nil)))) (.cons (.asg (.nm 4) (.own 1 ⟨2, [], [.ps 0, .ps 1]⟩ (.cons (.var 0) (.cons (.var 3) .nil)) .nil)) (.cons (.asg (.nm 5) (.idx (.lst (.cons (.own 2 ⟨2, [], [.ps 0, .ps 1]⟩ (.cons (.var 4) (.cons (.cst (.int 31)) .nil)) .nil) (.cons (.cst .non) (.cons (.tup (.cons (.own 2 ⟨2, [], [.ps 0, .ps 1]⟩ (.cons (.var 4) (.cons (.cst (.int 9)) .nil)) .nil) (.cons (.cst (.int 1)) .nil))) (.cons (.cst (.str "name")) (.cons (.cst (.bl true)) (.cons (.lst (.cons (.cst (.int 3)) .nil)) (.cons (.bin .pow (.cst (.int 10)) (.cst (.int 20))) .nil)))))))) (.own 2 ⟨2, [], [.ps 0, .ps 1]⟩ (.cons (.var 4) (.cons (.cst (.int 7)) .nil)) .nil))) (.cons (.asg (.nm 6) (.lcp [2] (.rng1 (.cst (.int 8))) (.nm 2) .yes (.own 4 ⟨2, [], [.ps 0, .ps 1]⟩ (.cons (.var 2) (.cons (.var 5) .nil)) .nil))) (.cons (.forq (.tp (.cons (.nm 2) (.cons (.nm 7) .nil))) (.enm (.var 6)) (.cons (.ifs (.bo false (.cons (.pl (.cmp .ne (.own 3 ⟨1, [], [.ps 0]⟩ (.cons (.var 7) .nil) .nil) (.idx (.var 1) (.bin .add (.cst (.int 9)) (.var 2))))) (.cons (.no (.pl (.own 6 ⟨2, [], [.ps 0, .ps 1]⟩ (.cons (.var 7) (.cons (.bin .add (.cst (.int 9)) (.var 2)) .nil)) .nil))) .nil))) (.cons (.ret (.cst (.bl false))) .nil) .nil) .nil)) (.cons (.asg (.nm 8) (.lst (.cons (.fld "number" (.idx (.var 6) (.cst (.int 0)))) (.cons (.fld "number" (.idx (.var 6) (.cst (.int 1)))) (.cons (.fld "row" (.idx (.var 6) (.cst (.int 2)))) (.cons (.fld "asker" (.idx (.var 6) (.cst (.int 3)))) (.cons (.fld "house" (.idx (.var 6) (.cst (.int 4)))) (.cons (.fld "asker" (.idx (.var 6) (.cst (.int 5)))) .nil)))))))) (.cons (.ifs (.pl (.cmp .ne (.bfn .repr (.cons (.bin .add (.var 8) (.lst (.cons (.fld "letter" (.idx (.var 6) (.cst (.int 6)))) (.cons (.fld "many" (.idx (.var 6) (.cst (.int 7)))) .nil)))) .nil)) (.bfn .repr (.cons (.bin .mul (.lst (.cons (.var 5) .nil)) (.cst (.int 8))) .nil)))) (.cons (.ret (.cst (.bl false))) .nil) .nil) .nil))))))) (.cons (.ret (.cst (.bl true))) .nil)))))
def f_law : Fn := { cls := none, nm := "law", ps := ["_law_script"], N := ["_law_script", "_law_words", "_law_own", "_law_k", "_law_pool_here", "_law_one", "_law_found", "_law_error", "_law_told"], shps := [⟨1, [], [.ps 0]⟩], body := b_law }
def G : Glo := { fns := [f__law_cell_at, f__law_pool, f__law_take, f__law_kind, f__law_raised, f__law_texts, f__law_bases, f_law], cons := [], mks := [], flds := [], rses := ["NoKind", "NoWorld", "NoRow", "NoAsk", "NoDeed", "NoBegin", "NoLetter", "NoState", "NoMembers"], isxs := [("NoLetter", .gl "NoLetter", tab_NoLetter), ("NoState", .gl "NoState", tab_NoState), ("NoMembers", .gl "NoMembers", tab_NoMembers), ("NoAsk", .gl "NoAsk", tab_NoAsk), ("NoDeed", .gl "NoDeed", tab_NoDeed), ("NoBegin", .gl "NoBegin", tab_NoBegin), ("NoKind", .gl "NoKind", tab_NoKind), ("NoWorld", .gl "NoWorld", tab_NoWorld), ("NoRow", .gl "NoRow", tab_NoRow), ("NoText", .gl "NoText", tab_NoText), ("NoWeaving", .gl "NoWeaving", tab_NoWeaving), ("NoNumber", .gl "NoNumber", tab_NoNumber), ("Busy", .gl "Busy", tab_Busy), ("NoHouse", .gl "NoHouse", tab_NoHouse), ("NoAsker", .gl "NoAsker", tab_NoAsker), ("TooMany", .gl "TooMany", tab_TooMany), ("Forged", .gl "Forged", tab_Forged), ("HeadError", .gl "HeadError", tab_HeadError), ("KeyError", .ty "KeyError", tab_KeyError), ("ValueError", .ty "ValueError", tab_ValueError), ("LookupError", .ty "LookupError", tab_LookupError), ("RuntimeError", .ty "RuntimeError", tab_RuntimeError), ("IndexError", .ty "IndexError", tab_IndexError), ("OverflowError", .ty "OverflowError", tab_OverflowError)], cats := [("HeadError", cat_HeadError)], rsxs := [⟨"TooMany", "many", .O, "OverflowError"⟩, ⟨"Forged", "letter", .L, "LookupError"⟩, ⟨"Busy", "asker", .R, "RuntimeError"⟩, ⟨"NoHouse", "house", .K, "KeyError"⟩, ⟨"NoAsker", "asker", .V, "HeadError"⟩, ⟨"NoText", "row", .V, "HeadError"⟩, ⟨"NoWeaving", "number", .V, "HeadError"⟩, ⟨"NoNumber", "number", .V, "HeadError"⟩], catm := [(["HeadError", "NoHouse", "Busy", "Forged", "TooMany"], catm_HeadError_NoHouse_Busy_Forged_TooMany)] }
section
variable {n : Nat} {ds : List D} {S : Store} {Q : D → Store → Prop} {E : XP}
theorem w__law_cell_at : wp (callF G (n + 1) 0 ds S) Q E = wpS (evSs (callF G n) b__law_cell_at (startG 2 ds) S) ⟨fun _ S => Q .non S, Q, fun _ _ => False, fun _ _ => False, fun _ => E⟩ := wp_fnRun
theorem w__law_pool : wp (callF G (n + 1) 1 ds S) Q E = wpS (evSs (callF G n) b__law_pool (startG 4 ds) S) ⟨fun _ S => Q .non S, Q, fun _ _ => False, fun _ _ => False, fun _ => E⟩ := wp_fnRun
theorem w__law_take : wp (callF G (n + 1) 2 ds S) Q E = wpS (evSs (callF G n) b__law_take (startG 3 ds) S) ⟨fun _ S => Q .non S, Q, fun _ _ => False, fun _ _ => False, fun _ => E⟩ := wp_fnRun
theorem w__law_kind : wp (callF G (n + 1) 3 ds S) Q E = wpS (evSs (callF G n) b__law_kind (startG 3 ds) S) ⟨fun _ S => Q .non S, Q, fun _ _ => False, fun _ _ => False, fun _ => E⟩ := wp_fnRun
theorem w__law_raised : wp (callF G (n + 1) 4 ds S) Q E = wpS (evSs (callF G n) b__law_raised (startG 4 ds) S) ⟨fun _ S => Q .non S, Q, fun _ _ => False, fun _ _ => False, fun _ => E⟩ := wp_fnRun
theorem w__law_texts : wp (callF G (n + 1) 5 ds S) Q E = wpS (evSs (callF G n) b__law_texts (startG 3 ds) S) ⟨fun _ S => Q .non S, Q, fun _ _ => False, fun _ _ => False, fun _ => E⟩ := wp_fnRun
theorem w__law_bases : wp (callF G (n + 1) 6 ds S) Q E = wpS (evSs (callF G n) b__law_bases (startG 2 ds) S) ⟨fun _ S => Q .non S, Q, fun _ _ => False, fun _ _ => False, fun _ => E⟩ := wp_fnRun
theorem w_law : wp (callF G (n + 1) 7 ds S) Q E = wpS (evSs (callF G n) b_law (startG 9 ds) S) ⟨fun _ S => Q .non S, Q, fun _ _ => False, fun _ _ => False, fun _ => E⟩ := wp_fnRun
end
end K02

namespace K02
open PySem PySem.Spec PyProof.Rows L2 Mn
variable {n : Nat} {S : Store} {E : XP}
/-! the refusals, by their numbers -/
def xns : List Str := ["NoMembers", "NoState", "NoLetter", "NoBegin", "NoDeed", "NoAsk", "NoRow", "NoWorld", "NoKind", "NoNumber", "NoWeaving", "NoText", "NoAsker", "NoHouse", "Busy", "Forged", "TooMany"]
def wds : List Str := ["members", "state", "letter", "begin", "deed", "ask", "row", "world", "kind", "number", "weaving", "text", "asker", "house", "busy", "forged", "many"]
def xn (j : Nat) : Str := xns.getD j ""
def wd (j : Nat) : Str := wds.getD j ""
theorem isx_at {c : D} {tab : List (Str × Bool)} {p : Nat → Bool} (h1 : clsB c c = true) (h2 : ∀ j, j < 17 → tab.lookup (xn j) = some (p j)) {j : Nat} (hj : j < 17) {ks : List Str} {vs : List D} {Q : D → Store → Prop} : wpO (isxG tab c [.exo (xn j) ks vs, c] S) Q = Q (.bl (p j)) S := by
  rw [o_isx h1, h2 j hj]
  rfl
section
variable {j : Nat} (hj : j < 17) {ks : List Str} {vs : List D} {Q : D → Store → Prop}
include hj
theorem x0 : wpO (isxG tab_NoMembers (.gl "NoMembers") [.exo (xn j) ks vs, .gl "NoMembers"] S) Q = Q (.bl (decide (j = 0))) S := isx_at (p := fun j => decide (j = 0)) (by decide +kernel) (by decide +kernel) hj
theorem x1 : wpO (isxG tab_NoState (.gl "NoState") [.exo (xn j) ks vs, .gl "NoState"] S) Q = Q (.bl (decide (j = 1))) S := isx_at (p := fun j => decide (j = 1)) (by decide +kernel) (by decide +kernel) hj
theorem x2 : wpO (isxG tab_NoLetter (.gl "NoLetter") [.exo (xn j) ks vs, .gl "NoLetter"] S) Q = Q (.bl (decide (j = 2))) S := isx_at (p := fun j => decide (j = 2)) (by decide +kernel) (by decide +kernel) hj
theorem x3 : wpO (isxG tab_NoBegin (.gl "NoBegin") [.exo (xn j) ks vs, .gl "NoBegin"] S) Q = Q (.bl (decide (j = 3))) S := isx_at (p := fun j => decide (j = 3)) (by decide +kernel) (by decide +kernel) hj
theorem x4 : wpO (isxG tab_NoDeed (.gl "NoDeed") [.exo (xn j) ks vs, .gl "NoDeed"] S) Q = Q (.bl (decide (j = 4))) S := isx_at (p := fun j => decide (j = 4)) (by decide +kernel) (by decide +kernel) hj
theorem x5 : wpO (isxG tab_NoAsk (.gl "NoAsk") [.exo (xn j) ks vs, .gl "NoAsk"] S) Q = Q (.bl (decide (j = 5))) S := isx_at (p := fun j => decide (j = 5)) (by decide +kernel) (by decide +kernel) hj
theorem x6 : wpO (isxG tab_NoRow (.gl "NoRow") [.exo (xn j) ks vs, .gl "NoRow"] S) Q = Q (.bl (decide (j = 6))) S := isx_at (p := fun j => decide (j = 6)) (by decide +kernel) (by decide +kernel) hj
theorem x7 : wpO (isxG tab_NoWorld (.gl "NoWorld") [.exo (xn j) ks vs, .gl "NoWorld"] S) Q = Q (.bl (decide (j = 7))) S := isx_at (p := fun j => decide (j = 7)) (by decide +kernel) (by decide +kernel) hj
theorem x8 : wpO (isxG tab_NoKind (.gl "NoKind") [.exo (xn j) ks vs, .gl "NoKind"] S) Q = Q (.bl (decide (j = 8))) S := isx_at (p := fun j => decide (j = 8)) (by decide +kernel) (by decide +kernel) hj
theorem x9 : wpO (isxG tab_NoNumber (.gl "NoNumber") [.exo (xn j) ks vs, .gl "NoNumber"] S) Q = Q (.bl (decide (j = 9))) S := isx_at (p := fun j => decide (j = 9)) (by decide +kernel) (by decide +kernel) hj
theorem x10 : wpO (isxG tab_NoWeaving (.gl "NoWeaving") [.exo (xn j) ks vs, .gl "NoWeaving"] S) Q = Q (.bl (decide (j = 10))) S := isx_at (p := fun j => decide (j = 10)) (by decide +kernel) (by decide +kernel) hj
theorem x11 : wpO (isxG tab_NoText (.gl "NoText") [.exo (xn j) ks vs, .gl "NoText"] S) Q = Q (.bl (decide (j = 11))) S := isx_at (p := fun j => decide (j = 11)) (by decide +kernel) (by decide +kernel) hj
theorem x12 : wpO (isxG tab_NoAsker (.gl "NoAsker") [.exo (xn j) ks vs, .gl "NoAsker"] S) Q = Q (.bl (decide (j = 12))) S := isx_at (p := fun j => decide (j = 12)) (by decide +kernel) (by decide +kernel) hj
theorem x13 : wpO (isxG tab_NoHouse (.gl "NoHouse") [.exo (xn j) ks vs, .gl "NoHouse"] S) Q = Q (.bl (decide (j = 13))) S := isx_at (p := fun j => decide (j = 13)) (by decide +kernel) (by decide +kernel) hj
theorem x14 : wpO (isxG tab_Busy (.gl "Busy") [.exo (xn j) ks vs, .gl "Busy"] S) Q = Q (.bl (decide (j = 14))) S := isx_at (p := fun j => decide (j = 14)) (by decide +kernel) (by decide +kernel) hj
theorem x15 : wpO (isxG tab_Forged (.gl "Forged") [.exo (xn j) ks vs, .gl "Forged"] S) Q = Q (.bl (decide (j = 15))) S := isx_at (p := fun j => decide (j = 15)) (by decide +kernel) (by decide +kernel) hj
theorem x16 : wpO (isxG tab_TooMany (.gl "TooMany") [.exo (xn j) ks vs, .gl "TooMany"] S) Q = Q (.bl (decide (j = 16))) S := isx_at (p := fun j => decide (j = 16)) (by decide +kernel) (by decide +kernel) hj
theorem xH : wpO (isxG tab_HeadError (.gl "HeadError") [.exo (xn j) ks vs, .gl "HeadError"] S) Q = Q (.bl (decide (j < 13))) S := isx_at (p := fun j => decide (j < 13)) (by decide +kernel) (by decide +kernel) hj
theorem xV : wpO (isxG tab_ValueError (.ty "ValueError") [.exo (xn j) ks vs, .ty "ValueError"] S) Q = Q (.bl (decide (j < 13))) S := isx_at (p := fun j => decide (j < 13)) (by decide +kernel) (by decide +kernel) hj
theorem xK : wpO (isxG tab_KeyError (.ty "KeyError") [.exo (xn j) ks vs, .ty "KeyError"] S) Q = Q (.bl (decide (j = 13))) S := isx_at (p := fun j => decide (j = 13)) (by decide +kernel) (by decide +kernel) hj
theorem xR : wpO (isxG tab_RuntimeError (.ty "RuntimeError") [.exo (xn j) ks vs, .ty "RuntimeError"] S) Q = Q (.bl (decide (j = 14))) S := isx_at (p := fun j => decide (j = 14)) (by decide +kernel) (by decide +kernel) hj
theorem xL : wpO (isxG tab_LookupError (.ty "LookupError") [.exo (xn j) ks vs, .ty "LookupError"] S) Q = Q (.bl (decide (j = 13) || decide (j = 15))) S := isx_at (p := fun j => decide (j = 13) || decide (j = 15)) (by decide +kernel) (by decide +kernel) hj
theorem xO : wpO (isxG tab_OverflowError (.ty "OverflowError") [.exo (xn j) ks vs, .ty "OverflowError"] S) Q = Q (.bl (decide (j = 16))) S := isx_at (p := fun j => decide (j = 16)) (by decide +kernel) (by decide +kernel) hj
theorem xI : wpO (isxG tab_IndexError (.ty "IndexError") [.exo (xn j) ks vs, .ty "IndexError"] S) Q = Q (.bl false) S := isx_at (p := fun j => false) (by decide +kernel) (by decide +kernel) hj
end
theorem a_ap {T : Store} {p : Nat} {xs ys : List D} {Q : D → Store → Prop} (h : T[p]? = some (.lst xs)) (hz : xs.length + ys.length ≤ 100) (q : ∀ p' T', T'[p']? = some (.lst (xs ++ ys)) → Kp T T' → Q (.loc p') T') : wpO (BO.g .add (.loc p) (.loc T.length) (T ++ [Cell.lst ys])) Q := by
  rw [o_lstP ((Kp.push T _).at h) (push_at T _) (Nat.le_trans hz (by decide))]
  exact q _ _ (push_at _ _) ((Kp.push _ _).trans (Kp.push _ _))
theorem o_ne_b {a b : Bool} {Q : D → Store → Prop} : wpO (CO.g .ne (.bl a) (.bl b) S) Q = Q (.bl (a != b)) S := by cases a <;> cases b <;> rfl
theorem o_eq_b {a b : Bool} {Q : D → Store → Prop} : wpO (CO.g .eq (.bl a) (.bl b) S) Q = Q (.bl (a == b)) S := by cases a <;> cases b <;> rfl
/-- which of the seventeen -/
def bls (j : Nat) : List D := (List.range 17).map fun i => D.bl (decide (j = i))
theorem o_cnt {p j : Nat} (hj : j < 17) (h : S[p]? = some (.lst (bls j))) {Q : D → Store → Prop} : wpO (MT.g .count (.loc p) [.bl true] S) Q = Q (.int 1) S := by
  show wpO (countD (.loc p) [.bl true] S) Q = _
  unfold countD
  have e : lstOf S (.loc p) = some (bls j) := by
    show (match S[p]? with
      | some (.lst ds) => some ds
      | _ => none) = _
    rw [h]
  have f : ∀ j, j < 17 → (flatD (.bl true) && (bls j).all flatD) = true ∧ (bls j).countP (fun y => eqF y (.bl true)) = 1 := by decide +kernel
  rw [e]
  dsimp only
  rw [if_pos (f j hj).1, (f j hj).2]
  rfl
theorem o_plc {p j : Nat} (hj : j < 17) (h : S[p]? = some (.lst (bls j))) {Q : D → Store → Prop} : wpO (MT.g .index (.loc p) [.bl true] S) Q = Q (.int j) S := by
  show wpO (indexD (.loc p) [.bl true] S) Q = _
  unfold indexD
  have e : lstOf S (.loc p) = some (bls j) := by
    show (match S[p]? with
      | some (.lst ds) => some ds
      | _ => none) = _
    rw [h]
  have f : ∀ j, j < 17 → (flatD (.bl true) && (bls j).all flatD) = true ∧ placeF (.bl true) (bls j) = some j := by decide +kernel
  rw [e]
  dsimp only
  rw [if_pos (f j hj).1, (f j hj).2]
  rfl
theorem ty_loc {p : Nat} {xs : List D} (h : S[p]? = some (.lst xs)) : tyB "list" (.loc p) S = true := by
  show (match S[p]? with
    | some (.lst _) => ("list" : String) == "list"
    | some (.dct _) => ("list" : String) == "dict"
    | _ => false) = true
  rw [h]
  rfl
theorem wd_at {j : Nat} (hj : j < 17) : atI (wds.map D.str) (j : Int) = some (.str (wd j)) := by
  rw [Mn.atI_nat]
  have f : ∀ j, j < 17 → (wds.map D.str)[j]? = some (.str (wd j)) := fun j hj => by
    rw [List.getElem?_map]
    have g : ∀ j, j < 17 → wds[j]? = some (wd j) := by decide +kernel
    rw [g j hj]
    rfl
  exact f j hj
theorem s_kind {j : Nat} (hj : j < 17) {ks : List Str} {vs : List D} : wp (callF G (n + 1) 3 [.exo (xn j) ks vs] S) (fun r S' => r = .str (wd j) ∧ Kp S S') E := by
  rw [w__law_kind]
  unfold b__law_kind
  try simp only [x0 hj, x1 hj, x2 hj, x3 hj, x4 hj, x5 hj, x6 hj, x7 hj, x8 hj, x9 hj, x10 hj, x11 hj, x12 hj, x13 hj, x14 hj, x15 hj, x16 hj, xH hj, ws_cons, ws_nil, ws_pass, ws_brk, ws_cnt, ws_retN, ws_ret, ws_expr, ws_asg, ws_asgX, ws_put, ws_ifs, ws_for, we_var, we_cst, we_glo, we_bty, we_bin, we_cmp, we_idx, we_chn, we_notq, we_neg, we_boo1, we_and, we_or, we_ite, we_tup, we_lst, we_dic0, we_slc, we_rev, we_bfn, we_own, we_mth, we_fld, we_isx, ws_rse, ws_rsx, ws_try, ws_trym, catP_t, catP_f, optP_some, wa_nil, wa_cons, wo_no, wo_so, wt_pl, wt_no, wt_bo1, wt_and, wt_or, wc_yes, wc_one, wi_seq, wi_rng1, wp_ok, setP_some, setX_some, putP_some, varP_some, blP_bl, truP_some, intP_int, revP_tup, wpO_some, o_slc_t, o_tupP, rpr_bl, t_bl, t_int, o_add_i, o_sub_i, o_mul_i, o_fdiv, o_mod, o_pow, o_lt_i, o_gt_i, o_le_i, o_ge_i, o_eq_i, o_ne_i, o_eq_s, o_ne_s, o_le_s, o_is_n, o_isn_n, o_is_b, o_in_s, o_len_t, o_len_s, o_max, o_min, o_in_t, star_1, consG, nilG, Option.bind_some, Option.map_some, inF, List.any_cons, List.any_nil, eqF, flatD, List.all_cons, List.all_nil, evG, evGs, lenGs, nameG, startG, BT.t, MT.T, asmD, List.map_cons, List.map_nil, List.append_nil, List.cons_append, List.nil_append, List.length_cons, List.length_nil, List.getElem?_cons_zero, List.getElem?_cons_succ, List.set_cons_zero, List.set_cons_succ, List.getD_cons_zero, List.getD_cons_succ, List.replicate_succ, List.replicate_zero, Nat.sub_self, Nat.zero_add, Nat.add_zero, Nat.reduceAdd, Nat.reduceSub, Nat.reduceLeDiff, Bool.not_true, Bool.not_false, Bool.and_true, Bool.true_and, Bool.false_and, Bool.and_false, Bool.or_true, Bool.true_or, Bool.false_or, Bool.or_false, if_true, if_false, true_and, and_true, and_self, decide_eq_true_eq, Bool.false_eq_true, reduceIte, decide_true, decide_false, eq_self, Mn.isNon]
  refine ⟨by decide, by decide, a_ap (push_at S _) (by simp) fun p1 T1 h1 k1 => ⟨by decide, a_ap h1 (by simp) fun p2 T2 h2 k2 => ⟨by decide, a_ap h2 (by simp) fun p3 T3 h3 k3 => ⟨by decide, a_ap h3 (by simp) fun p4 T4 h4 k4 => ⟨by decide, a_ap h4 (by simp) fun p5 T5 h5 k5 => ?_⟩⟩⟩⟩⟩
  have kk : Kp S T5 := ((((((Kp.push S _).trans k1).trans k2).trans k3).trans k4).trans k5)
  have h : T5[p5]? = some (.lst (bls j)) := h5
  refine ⟨ty_loc h, ?_⟩
  rw [o_cnt hj h]
  try simp only [ws_cons, ws_nil, ws_pass, ws_brk, ws_cnt, ws_retN, ws_ret, ws_expr, ws_asg, ws_asgX, ws_put, ws_ifs, ws_for, we_var, we_cst, we_glo, we_bty, we_bin, we_cmp, we_idx, we_chn, we_notq, we_neg, we_boo1, we_and, we_or, we_ite, we_tup, we_lst, we_dic0, we_slc, we_rev, we_bfn, we_own, we_mth, we_fld, we_isx, ws_rse, ws_rsx, ws_try, ws_trym, catP_t, catP_f, optP_some, wa_nil, wa_cons, wo_no, wo_so, wt_pl, wt_no, wt_bo1, wt_and, wt_or, wc_yes, wc_one, wi_seq, wi_rng1, wp_ok, setP_some, setX_some, putP_some, varP_some, blP_bl, truP_some, intP_int, revP_tup, wpO_some, o_slc_t, o_tupP, rpr_bl, t_bl, t_int, o_add_i, o_sub_i, o_mul_i, o_fdiv, o_mod, o_pow, o_lt_i, o_gt_i, o_le_i, o_ge_i, o_eq_i, o_ne_i, o_eq_s, o_ne_s, o_le_s, o_is_n, o_isn_n, o_is_b, o_in_s, o_len_t, o_len_s, o_max, o_min, o_in_t, star_1, consG, nilG, Option.bind_some, Option.map_some, inF, List.any_cons, List.any_nil, eqF, flatD, List.all_cons, List.all_nil, evG, evGs, lenGs, nameG, startG, BT.t, MT.T, asmD, List.map_cons, List.map_nil, List.append_nil, List.cons_append, List.nil_append, List.length_cons, List.length_nil, List.getElem?_cons_zero, List.getElem?_cons_succ, List.set_cons_zero, List.set_cons_succ, List.getD_cons_zero, List.getD_cons_succ, List.replicate_succ, List.replicate_zero, Nat.sub_self, Nat.zero_add, Nat.add_zero, Nat.reduceAdd, Nat.reduceSub, Nat.reduceLeDiff, Bool.not_true, Bool.not_false, Bool.and_true, Bool.true_and, Bool.false_and, Bool.and_false, Bool.or_true, Bool.true_or, Bool.false_or, Bool.or_false, if_true, if_false, true_and, and_true, and_self, decide_eq_true_eq, Bool.false_eq_true, reduceIte, decide_true, decide_false, eq_self, Mn.isNon]
  refine ⟨ty_loc h, ?_⟩
  rw [o_plc hj h]
  try simp only [o_ne_b, ws_cons, ws_nil, ws_pass, ws_brk, ws_cnt, ws_retN, ws_ret, ws_expr, ws_asg, ws_asgX, ws_put, ws_ifs, ws_for, we_var, we_cst, we_glo, we_bty, we_bin, we_cmp, we_idx, we_chn, we_notq, we_neg, we_boo1, we_and, we_or, we_ite, we_tup, we_lst, we_dic0, we_slc, we_rev, we_bfn, we_own, we_mth, we_fld, we_isx, ws_rse, ws_rsx, ws_try, ws_trym, catP_t, catP_f, optP_some, wa_nil, wa_cons, wo_no, wo_so, wt_pl, wt_no, wt_bo1, wt_and, wt_or, wc_yes, wc_one, wi_seq, wi_rng1, wp_ok, setP_some, setX_some, putP_some, varP_some, blP_bl, truP_some, intP_int, revP_tup, wpO_some, o_slc_t, o_tupP, rpr_bl, t_bl, t_int, o_add_i, o_sub_i, o_mul_i, o_fdiv, o_mod, o_pow, o_lt_i, o_gt_i, o_le_i, o_ge_i, o_eq_i, o_ne_i, o_eq_s, o_ne_s, o_le_s, o_is_n, o_isn_n, o_is_b, o_in_s, o_len_t, o_len_s, o_max, o_min, o_in_t, star_1, consG, nilG, Option.bind_some, Option.map_some, inF, List.any_cons, List.any_nil, eqF, flatD, List.all_cons, List.all_nil, evG, evGs, lenGs, nameG, startG, BT.t, MT.T, asmD, List.map_cons, List.map_nil, List.append_nil, List.cons_append, List.nil_append, List.length_cons, List.length_nil, List.getElem?_cons_zero, List.getElem?_cons_succ, List.set_cons_zero, List.set_cons_succ, List.getD_cons_zero, List.getD_cons_succ, List.replicate_succ, List.replicate_zero, Nat.sub_self, Nat.zero_add, Nat.add_zero, Nat.reduceAdd, Nat.reduceSub, Nat.reduceLeDiff, Bool.not_true, Bool.not_false, Bool.and_true, Bool.true_and, Bool.false_and, Bool.and_false, Bool.or_true, Bool.true_or, Bool.false_or, Bool.or_false, if_true, if_false, true_and, and_true, and_self, decide_eq_true_eq, Bool.false_eq_true, reduceIte, decide_true, decide_false, eq_self, Mn.isNon]
  have e : (decide (j < 13) != decide ((j : Int) < 13)) = false := by
    rw [show decide ((j : Int) < 13) = decide (j < 13) from decide_eq_decide.mpr (by omega)]
    simp
  rw [e, if_neg (by simp)]
  refine ⟨by decide, by decide, a_ap (push_at T5 _) (by simp) fun p6 T6 h6 k6 => ?_⟩
  have k7 := (Kp.push T5 _).trans k6
  have h7 := k7.at h
  refine ⟨ty_loc h7, ?_⟩
  rw [o_plc hj h7, o_idx (items_loc (show T6[p6]? = some (.lst (wds.map D.str)) from h6)) (wd_at hj)]
  exact ⟨rfl, kk.trans k7⟩
theorem s_bases {j : Nat} (hj : j < 17) {ks : List Str} {vs : List D} {Q : D → Store → Prop} (q : Q (.bl true) S) : wp (callF G (n + 1) 6 [.exo (xn j) ks vs, .int j] S) Q E := by
  rw [w__law_bases]
  unfold b__law_bases
  try simp only [xV hj, xK hj, xR hj, xL hj, xO hj, xI hj, o_ne_b, o_eq_b, ws_cons, ws_nil, ws_pass, ws_brk, ws_cnt, ws_retN, ws_ret, ws_expr, ws_asg, ws_asgX, ws_put, ws_ifs, ws_for, we_var, we_cst, we_glo, we_bty, we_bin, we_cmp, we_idx, we_chn, we_notq, we_neg, we_boo1, we_and, we_or, we_ite, we_tup, we_lst, we_dic0, we_slc, we_rev, we_bfn, we_own, we_mth, we_fld, we_isx, ws_rse, ws_rsx, ws_try, ws_trym, catP_t, catP_f, optP_some, wa_nil, wa_cons, wo_no, wo_so, wt_pl, wt_no, wt_bo1, wt_and, wt_or, wc_yes, wc_one, wi_seq, wi_rng1, wp_ok, setP_some, setX_some, putP_some, varP_some, blP_bl, truP_some, intP_int, revP_tup, wpO_some, o_slc_t, o_tupP, rpr_bl, t_bl, t_int, o_add_i, o_sub_i, o_mul_i, o_fdiv, o_mod, o_pow, o_lt_i, o_gt_i, o_le_i, o_ge_i, o_eq_i, o_ne_i, o_eq_s, o_ne_s, o_le_s, o_is_n, o_isn_n, o_is_b, o_in_s, o_len_t, o_len_s, o_max, o_min, o_in_t, star_1, consG, nilG, Option.bind_some, Option.map_some, inF, List.any_cons, List.any_nil, eqF, flatD, List.all_cons, List.all_nil, evG, evGs, lenGs, nameG, startG, BT.t, MT.T, asmD, List.map_cons, List.map_nil, List.append_nil, List.cons_append, List.nil_append, List.length_cons, List.length_nil, List.getElem?_cons_zero, List.getElem?_cons_succ, List.set_cons_zero, List.set_cons_succ, List.getD_cons_zero, List.getD_cons_succ, List.replicate_succ, List.replicate_zero, Nat.sub_self, Nat.zero_add, Nat.add_zero, Nat.reduceAdd, Nat.reduceSub, Nat.reduceLeDiff, Bool.not_true, Bool.not_false, Bool.and_true, Bool.true_and, Bool.false_and, Bool.and_false, Bool.or_true, Bool.true_or, Bool.false_or, Bool.or_false, if_true, if_false, true_and, and_true, and_self, decide_eq_true_eq, Bool.false_eq_true, reduceIte, decide_true, decide_false, eq_self, Mn.isNon]
  have c (m : Nat) : decide ((j : Int) = (m : Int)) = decide (j = m) := decide_eq_decide.mpr (by omega)
  have c13 : decide ((j : Int) = 13) = decide (j = 13) := c 13
  have c14 : decide ((j : Int) = 14) = decide (j = 14) := c 14
  have c16 : decide ((j : Int) = 16) = decide (j = 16) := c 16
  have cl : decide ((j : Int) < 13) = decide (j < 13) := decide_eq_decide.mpr (by omega)
  have ci : inF (.int j) [.int 13, .int 15] = (decide (j = 13) || decide (j = 15)) := by
    have f : ∀ j : Nat, j < 17 → inF (.int (j : Int)) [.int 13, .int 15] = (decide (j = 13) || decide (j = 15)) := by decide +kernel
    exact f j hj
  rw [c13, c14, c16, cl, bne_self_eq_false, bne_self_eq_false, bne_self_eq_false, if_neg (by decide), if_neg (by decide), if_neg (by decide)]
  refine ⟨by decide, ?_⟩
  rw [o_in_f (x := .int j) (ds := [.int 13, .int 15]) rfl (fun a b e => by cases e) rfl rfl, ci]
  try simp only [o_ne_b, ws_cons, ws_nil, ws_pass, ws_brk, ws_cnt, ws_retN, ws_ret, ws_expr, ws_asg, ws_asgX, ws_put, ws_ifs, ws_for, we_var, we_cst, we_glo, we_bty, we_bin, we_cmp, we_idx, we_chn, we_notq, we_neg, we_boo1, we_and, we_or, we_ite, we_tup, we_lst, we_dic0, we_slc, we_rev, we_bfn, we_own, we_mth, we_fld, we_isx, ws_rse, ws_rsx, ws_try, ws_trym, catP_t, catP_f, optP_some, wa_nil, wa_cons, wo_no, wo_so, wt_pl, wt_no, wt_bo1, wt_and, wt_or, wc_yes, wc_one, wi_seq, wi_rng1, wp_ok, setP_some, setX_some, putP_some, varP_some, blP_bl, truP_some, intP_int, revP_tup, wpO_some, o_slc_t, o_tupP, rpr_bl, t_bl, t_int, o_add_i, o_sub_i, o_mul_i, o_fdiv, o_mod, o_pow, o_lt_i, o_gt_i, o_le_i, o_ge_i, o_eq_i, o_ne_i, o_eq_s, o_ne_s, o_le_s, o_is_n, o_isn_n, o_is_b, o_in_s, o_len_t, o_len_s, o_max, o_min, o_in_t, star_1, consG, nilG, Option.bind_some, Option.map_some, inF, List.any_cons, List.any_nil, eqF, flatD, List.all_cons, List.all_nil, evG, evGs, lenGs, nameG, startG, BT.t, MT.T, asmD, List.map_cons, List.map_nil, List.append_nil, List.cons_append, List.nil_append, List.length_cons, List.length_nil, List.getElem?_cons_zero, List.getElem?_cons_succ, List.set_cons_zero, List.set_cons_succ, List.getD_cons_zero, List.getD_cons_succ, List.replicate_succ, List.replicate_zero, Nat.sub_self, Nat.zero_add, Nat.add_zero, Nat.reduceAdd, Nat.reduceSub, Nat.reduceLeDiff, Bool.not_true, Bool.not_false, Bool.and_true, Bool.true_and, Bool.false_and, Bool.and_false, Bool.or_true, Bool.true_or, Bool.false_or, Bool.or_false, if_true, if_false, true_and, and_true, and_self, decide_eq_true_eq, Bool.false_eq_true, reduceIte, decide_true, decide_false, eq_self, Mn.isNon]
  rw [bne_self_eq_false, if_neg (by decide), beq_self_eq_true, if_pos rfl]
  exact q
theorem cat_go {tab : List (Str × Bool)} {k j : Nat} {ks : List Str} {vs : List D} (h : tab.lookup (xn k) = some true) (e : j = k) {Q : D → Store → Prop} (q : Q (.exo (xn j) ks vs) S) {b : Prop} : catP (tab.lookup (xn k)) (Q (.exo (xn k) ks vs) S) b := by
  subst e
  rw [h]
  exact q
theorem cat_h : ∀ k, k < 9 → cat_HeadError.lookup (xn k) = some true := by decide +kernel
theorem cat_m : ∀ k, k < 17 → catm_HeadError_NoHouse_Busy_Forged_TooMany.lookup (xn k) = some true := by decide +kernel
theorem s_texts {j : Nat} (hj : j < 9) {Q : D → Store → Prop} (q : Q (.exo (xn j) [] []) S) : wp (callF G (n + 1) 5 [.int j] S) Q E := by
  rw [w__law_texts]
  unfold b__law_texts
  try simp only [ws_cons, ws_nil, ws_pass, ws_brk, ws_cnt, ws_retN, ws_ret, ws_expr, ws_asg, ws_asgX, ws_put, ws_ifs, ws_for, we_var, we_cst, we_glo, we_bty, we_bin, we_cmp, we_idx, we_chn, we_notq, we_neg, we_boo1, we_and, we_or, we_ite, we_tup, we_lst, we_dic0, we_slc, we_rev, we_bfn, we_own, we_mth, we_fld, we_isx, ws_rse, ws_rsx, ws_try, ws_trym, catP_t, catP_f, optP_some, wa_nil, wa_cons, wo_no, wo_so, wt_pl, wt_no, wt_bo1, wt_and, wt_or, wc_yes, wc_one, wi_seq, wi_rng1, wp_ok, setP_some, setX_some, putP_some, varP_some, blP_bl, truP_some, intP_int, revP_tup, wpO_some, o_slc_t, o_tupP, rpr_bl, t_bl, t_int, o_add_i, o_sub_i, o_mul_i, o_fdiv, o_mod, o_pow, o_lt_i, o_gt_i, o_le_i, o_ge_i, o_eq_i, o_ne_i, o_eq_s, o_ne_s, o_le_s, o_is_n, o_isn_n, o_is_b, o_in_s, o_len_t, o_len_s, o_max, o_min, o_in_t, star_1, consG, nilG, Option.bind_some, Option.map_some, inF, List.any_cons, List.any_nil, eqF, flatD, List.all_cons, List.all_nil, evG, evGs, lenGs, nameG, startG, BT.t, MT.T, asmD, List.map_cons, List.map_nil, List.append_nil, List.cons_append, List.nil_append, List.length_cons, List.length_nil, List.getElem?_cons_zero, List.getElem?_cons_succ, List.set_cons_zero, List.set_cons_succ, List.getD_cons_zero, List.getD_cons_succ, List.replicate_succ, List.replicate_zero, Nat.sub_self, Nat.zero_add, Nat.add_zero, Nat.reduceAdd, Nat.reduceSub, Nat.reduceLeDiff, Bool.not_true, Bool.not_false, Bool.and_true, Bool.true_and, Bool.false_and, Bool.and_false, Bool.or_true, Bool.true_or, Bool.false_or, Bool.or_false, if_true, if_false, true_and, and_true, and_self, decide_eq_true_eq, Bool.false_eq_true, reduceIte, decide_true, decide_false, eq_self, Mn.isNon]
  split
  · exact cat_go (k := 0) (cat_h 0 (by decide)) (by omega) q
  split
  · exact cat_go (k := 1) (cat_h 1 (by decide)) (by omega) q
  split
  · exact cat_go (k := 2) (cat_h 2 (by decide)) (by omega) q
  split
  · exact cat_go (k := 3) (cat_h 3 (by decide)) (by omega) q
  split
  · exact cat_go (k := 4) (cat_h 4 (by decide)) (by omega) q
  split
  · exact cat_go (k := 5) (cat_h 5 (by decide)) (by omega) q
  split
  · exact cat_go (k := 6) (cat_h 6 (by decide)) (by omega) q
  split
  · exact cat_go (k := 7) (cat_h 7 (by decide)) (by omega) q
  · exact cat_go (k := 8) (cat_h 8 (by decide)) (by omega) q
def fld (j : Nat) : Str := ["number", "number", "row", "asker", "house", "asker", "letter", "many"].getD j ""
theorem s_raised {j : Nat} (hj : j < 8) {d : D} {Q : D → Store → Prop} (q : Q (.exo (xn (9 + j)) [fld j] [d]) S) : wp (callF G (n + 1) 4 [.int j, d] S) Q E := by
  rw [w__law_raised]
  unfold b__law_raised
  try simp only [ws_cons, ws_nil, ws_pass, ws_brk, ws_cnt, ws_retN, ws_ret, ws_expr, ws_asg, ws_asgX, ws_put, ws_ifs, ws_for, we_var, we_cst, we_glo, we_bty, we_bin, we_cmp, we_idx, we_chn, we_notq, we_neg, we_boo1, we_and, we_or, we_ite, we_tup, we_lst, we_dic0, we_slc, we_rev, we_bfn, we_own, we_mth, we_fld, we_isx, ws_rse, ws_rsx, ws_try, ws_trym, catP_t, catP_f, optP_some, wa_nil, wa_cons, wo_no, wo_so, wt_pl, wt_no, wt_bo1, wt_and, wt_or, wc_yes, wc_one, wi_seq, wi_rng1, wp_ok, setP_some, setX_some, putP_some, varP_some, blP_bl, truP_some, intP_int, revP_tup, wpO_some, o_slc_t, o_tupP, rpr_bl, t_bl, t_int, o_add_i, o_sub_i, o_mul_i, o_fdiv, o_mod, o_pow, o_lt_i, o_gt_i, o_le_i, o_ge_i, o_eq_i, o_ne_i, o_eq_s, o_ne_s, o_le_s, o_is_n, o_isn_n, o_is_b, o_in_s, o_len_t, o_len_s, o_max, o_min, o_in_t, star_1, consG, nilG, Option.bind_some, Option.map_some, inF, List.any_cons, List.any_nil, eqF, flatD, List.all_cons, List.all_nil, evG, evGs, lenGs, nameG, startG, BT.t, MT.T, asmD, List.map_cons, List.map_nil, List.append_nil, List.cons_append, List.nil_append, List.length_cons, List.length_nil, List.getElem?_cons_zero, List.getElem?_cons_succ, List.set_cons_zero, List.set_cons_succ, List.getD_cons_zero, List.getD_cons_succ, List.replicate_succ, List.replicate_zero, Nat.sub_self, Nat.zero_add, Nat.add_zero, Nat.reduceAdd, Nat.reduceSub, Nat.reduceLeDiff, Bool.not_true, Bool.not_false, Bool.and_true, Bool.true_and, Bool.false_and, Bool.and_false, Bool.or_true, Bool.true_or, Bool.false_or, Bool.or_false, if_true, if_false, true_and, and_true, and_self, decide_eq_true_eq, Bool.false_eq_true, reduceIte, decide_true, decide_false, eq_self, Mn.isNon]
  split
  · obtain rfl : j = 0 := by omega
    exact cat_go (k := 9) (cat_m 9 (by decide)) rfl q
  split
  · obtain rfl : j = 1 := by omega
    exact cat_go (k := 10) (cat_m 10 (by decide)) rfl q
  split
  · obtain rfl : j = 2 := by omega
    exact cat_go (k := 11) (cat_m 11 (by decide)) rfl q
  split
  · obtain rfl : j = 3 := by omega
    exact cat_go (k := 12) (cat_m 12 (by decide)) rfl q
  split
  · obtain rfl : j = 4 := by omega
    exact cat_go (k := 13) (cat_m 13 (by decide)) rfl q
  split
  · obtain rfl : j = 5 := by omega
    exact cat_go (k := 14) (cat_m 14 (by decide)) rfl q
  split
  · obtain rfl : j = 6 := by omega
    exact cat_go (k := 15) (cat_m 15 (by decide)) rfl q
  · obtain rfl : j = 7 := by omega
    exact cat_go (k := 16) (cat_m 16 (by decide)) rfl q
/-! draws -/
def Pl (m : Nat) (S : Store) : Prop := ∃ a b : Int, S[m]? = some (.lst [.int a, .int b]) ∧ 0 ≤ b ∧ b < 2147483647
theorem ix2_0 {a b : D} : ixN [a, b].length 0 = some 0 := rfl
theorem ix2_1 {a b : D} : ixN [a, b].length 1 = some 1 := rfl
theorem set_0 {m : Nat} {a b v : D} (h : S[m]? = some (.lst [a, b])) : setD (.loc m) (.int 0) v S = some (S.set m (.lst [v, b])) := by
  unfold setD
  show (match S[m]? with
    | some (.lst ds) => (ixN ds.length 0).map fun j => S.set m (.lst (ds.set j v))
    | some (.dct kvs) => _
    | _ => none) = _
  rw [h]
  show (ixN [a, b].length 0).map (fun j => S.set m (.lst ([a, b].set j v))) = _
  rw [ix2_0]
  rfl
theorem set_1 {m : Nat} {a b v : D} (h : S[m]? = some (.lst [a, b])) : setD (.loc m) (.int 1) v S = some (S.set m (.lst [a, v])) := by
  unfold setD
  show (match S[m]? with
    | some (.lst ds) => (ixN ds.length 1).map fun j => S.set m (.lst (ds.set j v))
    | some (.dct kvs) => _
    | _ => none) = _
  rw [h]
  show (ixN [a, b].length 1).map (fun j => S.set m (.lst ([a, b].set j v))) = _
  rw [ix2_1]
  rfl
theorem mul_r {i j : Int} (h1 : -(2 ^ 64) < j) (h2 : j < 2 ^ 64) : mulB i j = true := by
  unfold mulB
  rw [decide_eq_true h1, decide_eq_true h2]
  simp
theorem mul_l {i j : Int} (h1 : -(2 ^ 64) < i) (h2 : i < 2 ^ 64) : mulB i j = true := by
  unfold mulB
  rw [decide_eq_true h1, decide_eq_true h2]
  simp
theorem fmod_b {i j : Int} (h : 0 < j) : 0 ≤ i.fmod j ∧ i.fmod j < j := by
  rw [Int.fmod_eq_emod_of_nonneg i (by omega)]
  exact ⟨Int.emod_nonneg i (by omega), Int.emod_lt_of_pos i h⟩
theorem s_take {m : Nat} {k : Int} (h : Pl m S) (h0 : 0 < k) (h1 : k < 1000000) : wp (callF G (n + 1) 2 [.loc m, .int k] S) (fun r S' => ∃ i, r = .int i ∧ 0 ≤ i ∧ i < k ∧ Pl m S' ∧ Kx m S S') E := by
  obtain ⟨a, b, hS, b0, b1⟩ := h
  have hm : m < S.length := (List.getElem?_eq_some_iff.mp hS).1
  have hi := items_loc hS
  rw [w__law_take]
  unfold b__law_take
  try simp only [ws_cons, ws_nil, ws_pass, ws_brk, ws_cnt, ws_retN, ws_ret, ws_expr, ws_asg, ws_asgX, ws_put, ws_ifs, ws_for, we_var, we_cst, we_glo, we_bty, we_bin, we_cmp, we_idx, we_chn, we_notq, we_neg, we_boo1, we_and, we_or, we_ite, we_tup, we_lst, we_dic0, we_slc, we_rev, we_bfn, we_own, we_mth, we_fld, we_isx, ws_rse, ws_rsx, ws_try, ws_trym, catP_t, catP_f, optP_some, wa_nil, wa_cons, wo_no, wo_so, wt_pl, wt_no, wt_bo1, wt_and, wt_or, wc_yes, wc_one, wi_seq, wi_rng1, wp_ok, setP_some, setX_some, putP_some, varP_some, blP_bl, truP_some, intP_int, revP_tup, wpO_some, o_slc_t, o_tupP, rpr_bl, t_bl, t_int, o_add_i, o_sub_i, o_mul_i, o_fdiv, o_mod, o_pow, o_lt_i, o_gt_i, o_le_i, o_ge_i, o_eq_i, o_ne_i, o_eq_s, o_ne_s, o_le_s, o_is_n, o_isn_n, o_is_b, o_in_s, o_len_t, o_len_s, o_max, o_min, o_in_t, star_1, consG, nilG, Option.bind_some, Option.map_some, inF, List.any_cons, List.any_nil, eqF, flatD, List.all_cons, List.all_nil, evG, evGs, lenGs, nameG, startG, BT.t, MT.T, asmD, List.map_cons, List.map_nil, List.append_nil, List.cons_append, List.nil_append, List.length_cons, List.length_nil, List.getElem?_cons_zero, List.getElem?_cons_succ, List.set_cons_zero, List.set_cons_succ, List.getD_cons_zero, List.getD_cons_succ, List.replicate_succ, List.replicate_zero, Nat.sub_self, Nat.zero_add, Nat.add_zero, Nat.reduceAdd, Nat.reduceSub, Nat.reduceLeDiff, Bool.not_true, Bool.not_false, Bool.and_true, Bool.true_and, Bool.false_and, Bool.and_false, Bool.or_true, Bool.true_or, Bool.false_or, Bool.or_false, if_true, if_false, true_and, and_true, and_self, decide_eq_true_eq, Bool.false_eq_true, reduceIte, decide_true, decide_false, eq_self, Mn.isNon]
  rw [o_idx hi (x := .int a) (by rw [atI_0]; rfl)]
  try simp only [ws_cons, ws_nil, ws_pass, ws_brk, ws_cnt, ws_retN, ws_ret, ws_expr, ws_asg, ws_asgX, ws_put, ws_ifs, ws_for, we_var, we_cst, we_glo, we_bty, we_bin, we_cmp, we_idx, we_chn, we_notq, we_neg, we_boo1, we_and, we_or, we_ite, we_tup, we_lst, we_dic0, we_slc, we_rev, we_bfn, we_own, we_mth, we_fld, we_isx, ws_rse, ws_rsx, ws_try, ws_trym, catP_t, catP_f, optP_some, wa_nil, wa_cons, wo_no, wo_so, wt_pl, wt_no, wt_bo1, wt_and, wt_or, wc_yes, wc_one, wi_seq, wi_rng1, wp_ok, setP_some, setX_some, putP_some, varP_some, blP_bl, truP_some, intP_int, revP_tup, wpO_some, o_slc_t, o_tupP, rpr_bl, t_bl, t_int, o_add_i, o_sub_i, o_mul_i, o_fdiv, o_mod, o_pow, o_lt_i, o_gt_i, o_le_i, o_ge_i, o_eq_i, o_ne_i, o_eq_s, o_ne_s, o_le_s, o_is_n, o_isn_n, o_is_b, o_in_s, o_len_t, o_len_s, o_max, o_min, o_in_t, star_1, consG, nilG, Option.bind_some, Option.map_some, inF, List.any_cons, List.any_nil, eqF, flatD, List.all_cons, List.all_nil, evG, evGs, lenGs, nameG, startG, BT.t, MT.T, asmD, List.map_cons, List.map_nil, List.append_nil, List.cons_append, List.nil_append, List.length_cons, List.length_nil, List.getElem?_cons_zero, List.getElem?_cons_succ, List.set_cons_zero, List.set_cons_succ, List.getD_cons_zero, List.getD_cons_succ, List.replicate_succ, List.replicate_zero, Nat.sub_self, Nat.zero_add, Nat.add_zero, Nat.reduceAdd, Nat.reduceSub, Nat.reduceLeDiff, Bool.not_true, Bool.not_false, Bool.and_true, Bool.true_and, Bool.false_and, Bool.and_false, Bool.or_true, Bool.true_or, Bool.false_or, Bool.or_false, if_true, if_false, true_and, and_true, and_self, decide_eq_true_eq, Bool.false_eq_true, reduceIte, decide_true, decide_false, eq_self, Mn.isNon]
  by_cases ha : 0 < a
  · rw [if_pos ha, o_idx hi (x := .int a) (by rw [atI_0]; rfl)]
    try simp only [ws_cons, ws_nil, ws_pass, ws_brk, ws_cnt, ws_retN, ws_ret, ws_expr, ws_asg, ws_asgX, ws_put, ws_ifs, ws_for, we_var, we_cst, we_glo, we_bty, we_bin, we_cmp, we_idx, we_chn, we_notq, we_neg, we_boo1, we_and, we_or, we_ite, we_tup, we_lst, we_dic0, we_slc, we_rev, we_bfn, we_own, we_mth, we_fld, we_isx, ws_rse, ws_rsx, ws_try, ws_trym, catP_t, catP_f, optP_some, wa_nil, wa_cons, wo_no, wo_so, wt_pl, wt_no, wt_bo1, wt_and, wt_or, wc_yes, wc_one, wi_seq, wi_rng1, wp_ok, setP_some, setX_some, putP_some, varP_some, blP_bl, truP_some, intP_int, revP_tup, wpO_some, o_slc_t, o_tupP, rpr_bl, t_bl, t_int, o_add_i, o_sub_i, o_mul_i, o_fdiv, o_mod, o_pow, o_lt_i, o_gt_i, o_le_i, o_ge_i, o_eq_i, o_ne_i, o_eq_s, o_ne_s, o_le_s, o_is_n, o_isn_n, o_is_b, o_in_s, o_len_t, o_len_s, o_max, o_min, o_in_t, star_1, consG, nilG, Option.bind_some, Option.map_some, inF, List.any_cons, List.any_nil, eqF, flatD, List.all_cons, List.all_nil, evG, evGs, lenGs, nameG, startG, BT.t, MT.T, asmD, List.map_cons, List.map_nil, List.append_nil, List.cons_append, List.nil_append, List.length_cons, List.length_nil, List.getElem?_cons_zero, List.getElem?_cons_succ, List.set_cons_zero, List.set_cons_succ, List.getD_cons_zero, List.getD_cons_succ, List.replicate_succ, List.replicate_zero, Nat.sub_self, Nat.zero_add, Nat.add_zero, Nat.reduceAdd, Nat.reduceSub, Nat.reduceLeDiff, Bool.not_true, Bool.not_false, Bool.and_true, Bool.true_and, Bool.false_and, Bool.and_false, Bool.or_true, Bool.true_or, Bool.false_or, Bool.or_false, if_true, if_false, true_and, and_true, and_self, decide_eq_true_eq, Bool.false_eq_true, reduceIte, decide_true, decide_false, eq_self, Mn.isNon]
    refine ⟨by omega, ?_⟩
    rw [o_idx hi (x := .int a) (by rw [atI_0]; rfl)]
    try simp only [ws_cons, ws_nil, ws_pass, ws_brk, ws_cnt, ws_retN, ws_ret, ws_expr, ws_asg, ws_asgX, ws_put, ws_ifs, ws_for, we_var, we_cst, we_glo, we_bty, we_bin, we_cmp, we_idx, we_chn, we_notq, we_neg, we_boo1, we_and, we_or, we_ite, we_tup, we_lst, we_dic0, we_slc, we_rev, we_bfn, we_own, we_mth, we_fld, we_isx, ws_rse, ws_rsx, ws_try, ws_trym, catP_t, catP_f, optP_some, wa_nil, wa_cons, wo_no, wo_so, wt_pl, wt_no, wt_bo1, wt_and, wt_or, wc_yes, wc_one, wi_seq, wi_rng1, wp_ok, setP_some, setX_some, putP_some, varP_some, blP_bl, truP_some, intP_int, revP_tup, wpO_some, o_slc_t, o_tupP, rpr_bl, t_bl, t_int, o_add_i, o_sub_i, o_mul_i, o_fdiv, o_mod, o_pow, o_lt_i, o_gt_i, o_le_i, o_ge_i, o_eq_i, o_ne_i, o_eq_s, o_ne_s, o_le_s, o_is_n, o_isn_n, o_is_b, o_in_s, o_len_t, o_len_s, o_max, o_min, o_in_t, star_1, consG, nilG, Option.bind_some, Option.map_some, inF, List.any_cons, List.any_nil, eqF, flatD, List.all_cons, List.all_nil, evG, evGs, lenGs, nameG, startG, BT.t, MT.T, asmD, List.map_cons, List.map_nil, List.append_nil, List.cons_append, List.nil_append, List.length_cons, List.length_nil, List.getElem?_cons_zero, List.getElem?_cons_succ, List.set_cons_zero, List.set_cons_succ, List.getD_cons_zero, List.getD_cons_succ, List.replicate_succ, List.replicate_zero, Nat.sub_self, Nat.zero_add, Nat.add_zero, Nat.reduceAdd, Nat.reduceSub, Nat.reduceLeDiff, Bool.not_true, Bool.not_false, Bool.and_true, Bool.true_and, Bool.false_and, Bool.and_false, Bool.or_true, Bool.true_or, Bool.false_or, Bool.or_false, if_true, if_false, true_and, and_true, and_self, decide_eq_true_eq, Bool.false_eq_true, reduceIte, decide_true, decide_false, eq_self, Mn.isNon]
    refine ⟨⟨by omega, by omega⟩, ?_⟩
    rw [set_0 hS]
    try simp only [ws_cons, ws_nil, ws_pass, ws_brk, ws_cnt, ws_retN, ws_ret, ws_expr, ws_asg, ws_asgX, ws_put, ws_ifs, ws_for, we_var, we_cst, we_glo, we_bty, we_bin, we_cmp, we_idx, we_chn, we_notq, we_neg, we_boo1, we_and, we_or, we_ite, we_tup, we_lst, we_dic0, we_slc, we_rev, we_bfn, we_own, we_mth, we_fld, we_isx, ws_rse, ws_rsx, ws_try, ws_trym, catP_t, catP_f, optP_some, wa_nil, wa_cons, wo_no, wo_so, wt_pl, wt_no, wt_bo1, wt_and, wt_or, wc_yes, wc_one, wi_seq, wi_rng1, wp_ok, setP_some, setX_some, putP_some, varP_some, blP_bl, truP_some, intP_int, revP_tup, wpO_some, o_slc_t, o_tupP, rpr_bl, t_bl, t_int, o_add_i, o_sub_i, o_mul_i, o_fdiv, o_mod, o_pow, o_lt_i, o_gt_i, o_le_i, o_ge_i, o_eq_i, o_ne_i, o_eq_s, o_ne_s, o_le_s, o_is_n, o_isn_n, o_is_b, o_in_s, o_len_t, o_len_s, o_max, o_min, o_in_t, star_1, consG, nilG, Option.bind_some, Option.map_some, inF, List.any_cons, List.any_nil, eqF, flatD, List.all_cons, List.all_nil, evG, evGs, lenGs, nameG, startG, BT.t, MT.T, asmD, List.map_cons, List.map_nil, List.append_nil, List.cons_append, List.nil_append, List.length_cons, List.length_nil, List.getElem?_cons_zero, List.getElem?_cons_succ, List.set_cons_zero, List.set_cons_succ, List.getD_cons_zero, List.getD_cons_succ, List.replicate_succ, List.replicate_zero, Nat.sub_self, Nat.zero_add, Nat.add_zero, Nat.reduceAdd, Nat.reduceSub, Nat.reduceLeDiff, Bool.not_true, Bool.not_false, Bool.and_true, Bool.true_and, Bool.false_and, Bool.and_false, Bool.or_true, Bool.true_or, Bool.false_or, Bool.or_false, if_true, if_false, true_and, and_true, and_self, decide_eq_true_eq, Bool.false_eq_true, reduceIte, decide_true, decide_false, eq_self, Mn.isNon]
    obtain ⟨f0, f1⟩ := fmod_b (i := a) h0
    exact ⟨_, rfl, f0, f1, ⟨_, b, List.getElem?_set_self hm, b0, b1⟩, Kx.set S _⟩
  · rw [if_neg ha, o_idx hi (x := .int b) (by rw [atI_1]; rfl)]
    try simp only [ws_cons, ws_nil, ws_pass, ws_brk, ws_cnt, ws_retN, ws_ret, ws_expr, ws_asg, ws_asgX, ws_put, ws_ifs, ws_for, we_var, we_cst, we_glo, we_bty, we_bin, we_cmp, we_idx, we_chn, we_notq, we_neg, we_boo1, we_and, we_or, we_ite, we_tup, we_lst, we_dic0, we_slc, we_rev, we_bfn, we_own, we_mth, we_fld, we_isx, ws_rse, ws_rsx, ws_try, ws_trym, catP_t, catP_f, optP_some, wa_nil, wa_cons, wo_no, wo_so, wt_pl, wt_no, wt_bo1, wt_and, wt_or, wc_yes, wc_one, wi_seq, wi_rng1, wp_ok, setP_some, setX_some, putP_some, varP_some, blP_bl, truP_some, intP_int, revP_tup, wpO_some, o_slc_t, o_tupP, rpr_bl, t_bl, t_int, o_add_i, o_sub_i, o_mul_i, o_fdiv, o_mod, o_pow, o_lt_i, o_gt_i, o_le_i, o_ge_i, o_eq_i, o_ne_i, o_eq_s, o_ne_s, o_le_s, o_is_n, o_isn_n, o_is_b, o_in_s, o_len_t, o_len_s, o_max, o_min, o_in_t, star_1, consG, nilG, Option.bind_some, Option.map_some, inF, List.any_cons, List.any_nil, eqF, flatD, List.all_cons, List.all_nil, evG, evGs, lenGs, nameG, startG, BT.t, MT.T, asmD, List.map_cons, List.map_nil, List.append_nil, List.cons_append, List.nil_append, List.length_cons, List.length_nil, List.getElem?_cons_zero, List.getElem?_cons_succ, List.set_cons_zero, List.set_cons_succ, List.getD_cons_zero, List.getD_cons_succ, List.replicate_succ, List.replicate_zero, Nat.sub_self, Nat.zero_add, Nat.add_zero, Nat.reduceAdd, Nat.reduceSub, Nat.reduceLeDiff, Bool.not_true, Bool.not_false, Bool.and_true, Bool.true_and, Bool.false_and, Bool.and_false, Bool.or_true, Bool.true_or, Bool.false_or, Bool.or_false, if_true, if_false, true_and, and_true, and_self, decide_eq_true_eq, Bool.false_eq_true, reduceIte, decide_true, decide_false, eq_self, Mn.isNon]
    refine ⟨mul_r (by omega) (by omega), by omega, ?_⟩
    obtain ⟨f0, f1⟩ := fmod_b (i := b * 48271 + 11) (j := 2147483647) (by omega)
    generalize (b * 48271 + 11).fmod 2147483647 = c at f0 f1
    rw [set_1 hS]
    try simp only [ws_cons, ws_nil, ws_pass, ws_brk, ws_cnt, ws_retN, ws_ret, ws_expr, ws_asg, ws_asgX, ws_put, ws_ifs, ws_for, we_var, we_cst, we_glo, we_bty, we_bin, we_cmp, we_idx, we_chn, we_notq, we_neg, we_boo1, we_and, we_or, we_ite, we_tup, we_lst, we_dic0, we_slc, we_rev, we_bfn, we_own, we_mth, we_fld, we_isx, ws_rse, ws_rsx, ws_try, ws_trym, catP_t, catP_f, optP_some, wa_nil, wa_cons, wo_no, wo_so, wt_pl, wt_no, wt_bo1, wt_and, wt_or, wc_yes, wc_one, wi_seq, wi_rng1, wp_ok, setP_some, setX_some, putP_some, varP_some, blP_bl, truP_some, intP_int, revP_tup, wpO_some, o_slc_t, o_tupP, rpr_bl, t_bl, t_int, o_add_i, o_sub_i, o_mul_i, o_fdiv, o_mod, o_pow, o_lt_i, o_gt_i, o_le_i, o_ge_i, o_eq_i, o_ne_i, o_eq_s, o_ne_s, o_le_s, o_is_n, o_isn_n, o_is_b, o_in_s, o_len_t, o_len_s, o_max, o_min, o_in_t, star_1, consG, nilG, Option.bind_some, Option.map_some, inF, List.any_cons, List.any_nil, eqF, flatD, List.all_cons, List.all_nil, evG, evGs, lenGs, nameG, startG, BT.t, MT.T, asmD, List.map_cons, List.map_nil, List.append_nil, List.cons_append, List.nil_append, List.length_cons, List.length_nil, List.getElem?_cons_zero, List.getElem?_cons_succ, List.set_cons_zero, List.set_cons_succ, List.getD_cons_zero, List.getD_cons_succ, List.replicate_succ, List.replicate_zero, Nat.sub_self, Nat.zero_add, Nat.add_zero, Nat.reduceAdd, Nat.reduceSub, Nat.reduceLeDiff, Bool.not_true, Bool.not_false, Bool.and_true, Bool.true_and, Bool.false_and, Bool.and_false, Bool.or_true, Bool.true_or, Bool.false_or, Bool.or_false, if_true, if_false, true_and, and_true, and_self, decide_eq_true_eq, Bool.false_eq_true, reduceIte, decide_true, decide_false, eq_self, Mn.isNon]
    have hS2 : (S.set m (.lst [.int a, .int c]))[m]? = some (.lst [.int a, .int c]) := List.getElem?_set_self hm
    rw [o_idx (items_loc hS2) (x := .int c) (by rw [atI_1]; rfl)]
    try simp only [ws_cons, ws_nil, ws_pass, ws_brk, ws_cnt, ws_retN, ws_ret, ws_expr, ws_asg, ws_asgX, ws_put, ws_ifs, ws_for, we_var, we_cst, we_glo, we_bty, we_bin, we_cmp, we_idx, we_chn, we_notq, we_neg, we_boo1, we_and, we_or, we_ite, we_tup, we_lst, we_dic0, we_slc, we_rev, we_bfn, we_own, we_mth, we_fld, we_isx, ws_rse, ws_rsx, ws_try, ws_trym, catP_t, catP_f, optP_some, wa_nil, wa_cons, wo_no, wo_so, wt_pl, wt_no, wt_bo1, wt_and, wt_or, wc_yes, wc_one, wi_seq, wi_rng1, wp_ok, setP_some, setX_some, putP_some, varP_some, blP_bl, truP_some, intP_int, revP_tup, wpO_some, o_slc_t, o_tupP, rpr_bl, t_bl, t_int, o_add_i, o_sub_i, o_mul_i, o_fdiv, o_mod, o_pow, o_lt_i, o_gt_i, o_le_i, o_ge_i, o_eq_i, o_ne_i, o_eq_s, o_ne_s, o_le_s, o_is_n, o_isn_n, o_is_b, o_in_s, o_len_t, o_len_s, o_max, o_min, o_in_t, star_1, consG, nilG, Option.bind_some, Option.map_some, inF, List.any_cons, List.any_nil, eqF, flatD, List.all_cons, List.all_nil, evG, evGs, lenGs, nameG, startG, BT.t, MT.T, asmD, List.map_cons, List.map_nil, List.append_nil, List.cons_append, List.nil_append, List.length_cons, List.length_nil, List.getElem?_cons_zero, List.getElem?_cons_succ, List.set_cons_zero, List.set_cons_succ, List.getD_cons_zero, List.getD_cons_succ, List.replicate_succ, List.replicate_zero, Nat.sub_self, Nat.zero_add, Nat.add_zero, Nat.reduceAdd, Nat.reduceSub, Nat.reduceLeDiff, Bool.not_true, Bool.not_false, Bool.and_true, Bool.true_and, Bool.false_and, Bool.and_false, Bool.or_true, Bool.true_or, Bool.false_or, Bool.or_false, if_true, if_false, true_and, and_true, and_self, decide_eq_true_eq, Bool.false_eq_true, reduceIte, decide_true, decide_false, eq_self, Mn.isNon]
    rw [o_idx (items_loc hS2) (x := .int c) (by rw [atI_1]; rfl)]
    try simp only [ws_cons, ws_nil, ws_pass, ws_brk, ws_cnt, ws_retN, ws_ret, ws_expr, ws_asg, ws_asgX, ws_put, ws_ifs, ws_for, we_var, we_cst, we_glo, we_bty, we_bin, we_cmp, we_idx, we_chn, we_notq, we_neg, we_boo1, we_and, we_or, we_ite, we_tup, we_lst, we_dic0, we_slc, we_rev, we_bfn, we_own, we_mth, we_fld, we_isx, ws_rse, ws_rsx, ws_try, ws_trym, catP_t, catP_f, optP_some, wa_nil, wa_cons, wo_no, wo_so, wt_pl, wt_no, wt_bo1, wt_and, wt_or, wc_yes, wc_one, wi_seq, wi_rng1, wp_ok, setP_some, setX_some, putP_some, varP_some, blP_bl, truP_some, intP_int, revP_tup, wpO_some, o_slc_t, o_tupP, rpr_bl, t_bl, t_int, o_add_i, o_sub_i, o_mul_i, o_fdiv, o_mod, o_pow, o_lt_i, o_gt_i, o_le_i, o_ge_i, o_eq_i, o_ne_i, o_eq_s, o_ne_s, o_le_s, o_is_n, o_isn_n, o_is_b, o_in_s, o_len_t, o_len_s, o_max, o_min, o_in_t, star_1, consG, nilG, Option.bind_some, Option.map_some, inF, List.any_cons, List.any_nil, eqF, flatD, List.all_cons, List.all_nil, evG, evGs, lenGs, nameG, startG, BT.t, MT.T, asmD, List.map_cons, List.map_nil, List.append_nil, List.cons_append, List.nil_append, List.length_cons, List.length_nil, List.getElem?_cons_zero, List.getElem?_cons_succ, List.set_cons_zero, List.set_cons_succ, List.getD_cons_zero, List.getD_cons_succ, List.replicate_succ, List.replicate_zero, Nat.sub_self, Nat.zero_add, Nat.add_zero, Nat.reduceAdd, Nat.reduceSub, Nat.reduceLeDiff, Bool.not_true, Bool.not_false, Bool.and_true, Bool.true_and, Bool.false_and, Bool.and_false, Bool.or_true, Bool.true_or, Bool.false_or, Bool.or_false, if_true, if_false, true_and, and_true, and_self, decide_eq_true_eq, Bool.false_eq_true, reduceIte, decide_true, decide_false, eq_self, Mn.isNon]
    refine ⟨mul_r (by omega) (by omega), by omega, ⟨by omega, by decide⟩, by omega, ?_⟩
    obtain ⟨f2, f3⟩ := fmod_b (i := ((c * c).fmod 2147483629).fdiv 64) h0
    exact ⟨_, rfl, f2, f3, ⟨a, c, hS2, f0, f1⟩, Kx.set S _⟩
theorem s_cell {ns : List Int} {k : Int} (h0 : 0 ≤ k) {Q : D → Store → Prop} (hQ : ∀ c : Int, Q (.int c) S) : wp (callF G (n + 1) 0 [scriptD ns, .int k] S) Q E := by
  rw [w__law_cell_at]
  unfold b__law_cell_at
  try simp only [ws_cons, ws_nil, ws_pass, ws_brk, ws_cnt, ws_retN, ws_ret, ws_expr, ws_asg, ws_asgX, ws_put, ws_ifs, ws_for, we_var, we_cst, we_glo, we_bty, we_bin, we_cmp, we_idx, we_chn, we_notq, we_neg, we_boo1, we_and, we_or, we_ite, we_tup, we_lst, we_dic0, we_slc, we_rev, we_bfn, we_own, we_mth, we_fld, we_isx, ws_rse, ws_rsx, ws_try, ws_trym, catP_t, catP_f, optP_some, wa_nil, wa_cons, wo_no, wo_so, wt_pl, wt_no, wt_bo1, wt_and, wt_or, wc_yes, wc_one, wi_seq, wi_rng1, wp_ok, setP_some, setX_some, putP_some, varP_some, blP_bl, truP_some, intP_int, revP_tup, wpO_some, o_slc_t, o_tupP, rpr_bl, t_bl, t_int, o_add_i, o_sub_i, o_mul_i, o_fdiv, o_mod, o_pow, o_lt_i, o_gt_i, o_le_i, o_ge_i, o_eq_i, o_ne_i, o_eq_s, o_ne_s, o_le_s, o_is_n, o_isn_n, o_is_b, o_in_s, o_len_t, o_len_s, o_max, o_min, o_in_t, star_1, consG, nilG, Option.bind_some, Option.map_some, inF, List.any_cons, List.any_nil, eqF, flatD, List.all_cons, List.all_nil, evG, evGs, lenGs, nameG, startG, BT.t, MT.T, asmD, List.map_cons, List.map_nil, List.append_nil, List.cons_append, List.nil_append, List.length_cons, List.length_nil, List.getElem?_cons_zero, List.getElem?_cons_succ, List.set_cons_zero, List.set_cons_succ, List.getD_cons_zero, List.getD_cons_succ, List.replicate_succ, List.replicate_zero, Nat.sub_self, Nat.zero_add, Nat.add_zero, Nat.reduceAdd, Nat.reduceSub, Nat.reduceLeDiff, Bool.not_true, Bool.not_false, Bool.and_true, Bool.true_and, Bool.false_and, Bool.and_false, Bool.or_true, Bool.true_or, Bool.false_or, Bool.or_false, if_true, if_false, true_and, and_true, and_self, decide_eq_true_eq, Bool.false_eq_true, reduceIte, decide_true, decide_false, eq_self, Mn.isNon]
  have hi : itemsOf S (scriptD ns) = some (ns.map D.int) := rfl
  rw [o_len hi]
  try simp only [List.length_map, ws_cons, ws_nil, ws_pass, ws_brk, ws_cnt, ws_retN, ws_ret, ws_expr, ws_asg, ws_asgX, ws_put, ws_ifs, ws_for, we_var, we_cst, we_glo, we_bty, we_bin, we_cmp, we_idx, we_chn, we_notq, we_neg, we_boo1, we_and, we_or, we_ite, we_tup, we_lst, we_dic0, we_slc, we_rev, we_bfn, we_own, we_mth, we_fld, we_isx, ws_rse, ws_rsx, ws_try, ws_trym, catP_t, catP_f, optP_some, wa_nil, wa_cons, wo_no, wo_so, wt_pl, wt_no, wt_bo1, wt_and, wt_or, wc_yes, wc_one, wi_seq, wi_rng1, wp_ok, setP_some, setX_some, putP_some, varP_some, blP_bl, truP_some, intP_int, revP_tup, wpO_some, o_slc_t, o_tupP, rpr_bl, t_bl, t_int, o_add_i, o_sub_i, o_mul_i, o_fdiv, o_mod, o_pow, o_lt_i, o_gt_i, o_le_i, o_ge_i, o_eq_i, o_ne_i, o_eq_s, o_ne_s, o_le_s, o_is_n, o_isn_n, o_is_b, o_in_s, o_len_t, o_len_s, o_max, o_min, o_in_t, star_1, consG, nilG, Option.bind_some, Option.map_some, inF, List.any_cons, List.any_nil, eqF, flatD, List.all_cons, List.all_nil, evG, evGs, lenGs, nameG, startG, BT.t, MT.T, asmD, List.map_cons, List.map_nil, List.append_nil, List.cons_append, List.nil_append, List.length_cons, List.length_nil, List.getElem?_cons_zero, List.getElem?_cons_succ, List.set_cons_zero, List.set_cons_succ, List.getD_cons_zero, List.getD_cons_succ, List.replicate_succ, List.replicate_zero, Nat.sub_self, Nat.zero_add, Nat.add_zero, Nat.reduceAdd, Nat.reduceSub, Nat.reduceLeDiff, Bool.not_true, Bool.not_false, Bool.and_true, Bool.true_and, Bool.false_and, Bool.and_false, Bool.or_true, Bool.true_or, Bool.false_or, Bool.or_false, if_true, if_false, true_and, and_true, and_self, decide_eq_true_eq, Bool.false_eq_true, reduceIte, decide_true, decide_false, eq_self, Mn.isNon]
  by_cases h : k < ns.length
  · rw [if_pos h]
    have : k.toNat < ns.length := by omega
    rw [o_idx hi (x := .int ns[k.toNat]) (by rw [atI_of h0, List.getElem?_map, List.getElem?_eq_getElem this]; rfl)]
    exact hQ _
  · rw [if_neg h]
    exact hQ _
theorem s_pool {ns : List Int} {k : Int} (h0 : 0 ≤ k) (h1 : k < 100) : wp (callF G (n + 2) 1 [scriptD ns, .int k] S) (fun r S' => ∃ m, r = .loc m ∧ Pl m S' ∧ Kp S S' ∧ S.length ≤ m) E := by
  rw [w__law_pool]
  unfold b__law_pool
  try simp only [ws_cons, ws_nil, ws_pass, ws_brk, ws_cnt, ws_retN, ws_ret, ws_expr, ws_asg, ws_asgX, ws_put, ws_ifs, ws_for, we_var, we_cst, we_glo, we_bty, we_bin, we_cmp, we_idx, we_chn, we_notq, we_neg, we_boo1, we_and, we_or, we_ite, we_tup, we_lst, we_dic0, we_slc, we_rev, we_bfn, we_own, we_mth, we_fld, we_isx, ws_rse, ws_rsx, ws_try, ws_trym, catP_t, catP_f, optP_some, wa_nil, wa_cons, wo_no, wo_so, wt_pl, wt_no, wt_bo1, wt_and, wt_or, wc_yes, wc_one, wi_seq, wi_rng1, wp_ok, setP_some, setX_some, putP_some, varP_some, blP_bl, truP_some, intP_int, revP_tup, wpO_some, o_slc_t, o_tupP, rpr_bl, t_bl, t_int, o_add_i, o_sub_i, o_mul_i, o_fdiv, o_mod, o_pow, o_lt_i, o_gt_i, o_le_i, o_ge_i, o_eq_i, o_ne_i, o_eq_s, o_ne_s, o_le_s, o_is_n, o_isn_n, o_is_b, o_in_s, o_len_t, o_len_s, o_max, o_min, o_in_t, star_1, consG, nilG, Option.bind_some, Option.map_some, inF, List.any_cons, List.any_nil, eqF, flatD, List.all_cons, List.all_nil, evG, evGs, lenGs, nameG, startG, BT.t, MT.T, asmD, List.map_cons, List.map_nil, List.append_nil, List.cons_append, List.nil_append, List.length_cons, List.length_nil, List.getElem?_cons_zero, List.getElem?_cons_succ, List.set_cons_zero, List.set_cons_succ, List.getD_cons_zero, List.getD_cons_succ, List.replicate_succ, List.replicate_zero, Nat.sub_self, Nat.zero_add, Nat.add_zero, Nat.reduceAdd, Nat.reduceSub, Nat.reduceLeDiff, Bool.not_true, Bool.not_false, Bool.and_true, Bool.true_and, Bool.false_and, Bool.and_false, Bool.or_true, Bool.true_or, Bool.false_or, Bool.or_false, if_true, if_false, true_and, and_true, and_self, decide_eq_true_eq, Bool.false_eq_true, reduceIte, decide_true, decide_false, eq_self, Mn.isNon]
  refine s_cell h0 fun c => ?_
  try simp only [ws_cons, ws_nil, ws_pass, ws_brk, ws_cnt, ws_retN, ws_ret, ws_expr, ws_asg, ws_asgX, ws_put, ws_ifs, ws_for, we_var, we_cst, we_glo, we_bty, we_bin, we_cmp, we_idx, we_chn, we_notq, we_neg, we_boo1, we_and, we_or, we_ite, we_tup, we_lst, we_dic0, we_slc, we_rev, we_bfn, we_own, we_mth, we_fld, we_isx, ws_rse, ws_rsx, ws_try, ws_trym, catP_t, catP_f, optP_some, wa_nil, wa_cons, wo_no, wo_so, wt_pl, wt_no, wt_bo1, wt_and, wt_or, wc_yes, wc_one, wi_seq, wi_rng1, wp_ok, setP_some, setX_some, putP_some, varP_some, blP_bl, truP_some, intP_int, revP_tup, wpO_some, o_slc_t, o_tupP, rpr_bl, t_bl, t_int, o_add_i, o_sub_i, o_mul_i, o_fdiv, o_mod, o_pow, o_lt_i, o_gt_i, o_le_i, o_ge_i, o_eq_i, o_ne_i, o_eq_s, o_ne_s, o_le_s, o_is_n, o_isn_n, o_is_b, o_in_s, o_len_t, o_len_s, o_max, o_min, o_in_t, star_1, consG, nilG, Option.bind_some, Option.map_some, inF, List.any_cons, List.any_nil, eqF, flatD, List.all_cons, List.all_nil, evG, evGs, lenGs, nameG, startG, BT.t, MT.T, asmD, List.map_cons, List.map_nil, List.append_nil, List.cons_append, List.nil_append, List.length_cons, List.length_nil, List.getElem?_cons_zero, List.getElem?_cons_succ, List.set_cons_zero, List.set_cons_succ, List.getD_cons_zero, List.getD_cons_succ, List.replicate_succ, List.replicate_zero, Nat.sub_self, Nat.zero_add, Nat.add_zero, Nat.reduceAdd, Nat.reduceSub, Nat.reduceLeDiff, Bool.not_true, Bool.not_false, Bool.and_true, Bool.true_and, Bool.false_and, Bool.and_false, Bool.or_true, Bool.true_or, Bool.false_or, Bool.or_false, if_true, if_false, true_and, and_true, and_self, decide_eq_true_eq, Bool.false_eq_true, reduceIte, decide_true, decide_false, eq_self, Mn.isNon]
  refine ⟨by omega, mul_l (by omega) (by omega), mul_r (by omega) (by omega), mul_l (by omega) (by omega), mul_r (by omega) (by omega), by omega, by decide +kernel, ?_⟩
  obtain ⟨f0, f1⟩ := fmod_b (i := (c.fmod 2147483629 + 7919 * k * k + 104729 * k + 1) * 48271) (j := 2147483647) (by omega)
  generalize ((c.fmod 2147483629 + 7919 * k * k + 104729 * k + 1) * 48271).fmod 2147483647 = e at f0 f1
  obtain ⟨g0, g1⟩ := fmod_b (i := e * e) (j := 2147483629) (by omega)
  split
  · exact ⟨mul_l (by omega) (by omega), by omega, by decide, _, rfl, ⟨_, _, push_at S _, g0, by omega⟩, Kp.push S _, Nat.le_refl _⟩
  · exact ⟨mul_l (by omega) (by omega), by omega, by decide, _, rfl, ⟨_, _, push_at S _, g0, by omega⟩, Kp.push S _, Nat.le_refl _⟩
theorem Pl.kp {m : Nat} {T : Store} (h : Pl m S) (k : Kp S T) : Pl m T := let ⟨a, b, e, x⟩ := h; ⟨a, b, k.at e, x⟩
theorem Pl.lt {m : Nat} (h : Pl m S) : m < S.length := let ⟨_, _, e, _⟩ := h; (List.getElem?_eq_some_iff.mp e).1
theorem s_pick {m : Nat} {xs : List D} {q : Nat} {i : Int} (hq : S[q]? = some (.lst xs)) (hm : q ≠ m) {T : Store} (k : Kx m S T) (h0 : 0 ≤ i) (h1 : i < xs.length) {Q : D → Store → Prop} (h : ∀ x ∈ xs, Q x T) : wpO (idxD (.loc q) (.int i) T) Q := by
  have h2 : i.toNat < xs.length := by omega
  rw [o_idx (items_loc (k.at_ _ _ hm hq)) (x := xs[i.toNat]) (by rw [atI_of h0, List.getElem?_eq_getElem h2])]
  exact h _ (List.getElem_mem _)
end K02

namespace K02
open PySem PySem.Spec PyProof.Rows L2 Mn
/-- a thing whose text is short -/
def One (S : Store) (d : D) : Prop := ∃ q, (∀ T, Kp S T → toPW (toRL T 7) d = some q) ∧ okP q = true ∧ wt q ≤ 1000 ∧ q.depth ≤ 5 ∧ q.hasDict = false
theorem rep_q {d : D} {q : PyData} {f : Nat → Option PyData} (h : toPW f d = some q) : ∀ n : Nat, toPWs f (List.replicate n d) = some (List.replicate n q)
  | 0 => rfl
  | n + 1 => by
    rw [List.replicate_succ, List.replicate_succ]
    show ((toPW f d).bind fun p => (toPWs f (List.replicate n d)).map fun ps => p :: ps) = _
    rw [h, rep_q h n]
    rfl
theorem rpr8 {S : Store} {d : D} (h : One S d) : ∃ z, ∀ T a, Kp S T → T[a]? = some (.lst (List.replicate 8 d)) → rprD (.loc a) T = some (.str z, T) := by
  obtain ⟨q, h1, h2, h3, h4, h5⟩ := h
  refine ⟨(PyData.list (List.replicate 8 q)).shown, fun T a k e => rpr_ok ?_ ?_⟩
  · show (match T[a]? with
      | some (.lst ds) => (toPWs (toRL T 7) ds).bind fun qs => if PyData.hasDictAll qs = true then none else some (PyData.list qs)
      | some (.dct []) => some (PyData.dict [])
      | _ => none) = _
    rw [e]
    show ((toPWs (toRL T 7) (List.replicate 8 d)).bind fun qs => if PyData.hasDictAll qs = true then none else some (PyData.list qs)) = _
    rw [rep_q (h1 T k) 8]
    show (if PyData.hasDictAll [q, q, q, q, q, q, q, q] = true then none else some (PyData.list (List.replicate 8 q))) = _
    rw [show PyData.hasDictAll [q, q, q, q, q, q, q, q] = false from by simp [PyData.hasDictAll, h5], if_neg (by decide)]
  · have a1 : okP (PyData.list [q, q, q, q, q, q, q, q]) = true := by simp [okP, okPs, h2]
    have a2 : wt (PyData.list [q, q, q, q, q, q, q, q]) ≤ sz := by
      refine Nat.le_trans (show _ ≤ 10000 from ?_) (by decide)
      show wt q + 2 + (wt q + 2 + (wt q + 2 + (wt q + 2 + (wt q + 2 + (wt q + 2 + (wt q + 2 + (wt q + 2 + 0))))))) + 4 ≤ 10000
      omega
    have a3 : (PyData.list [q, q, q, q, q, q, q, q]).depth ≤ 60 := by
      show max q.depth (max q.depth (max q.depth (max q.depth (max q.depth (max q.depth (max q.depth (max q.depth 0))))))) + 1 ≤ 60
      simp only [Nat.max_self, Nat.max_zero]
      omega
    have a4 : (PyData.list [q, q, q, q, q, q, q, q]).hasDict = false := by simp [PyData.hasDict, PyData.hasDictAll, h5]
    show prB (PyData.list [q, q, q, q, q, q, q, q]) = true
    unfold prB
    rw [a1, a4, decide_eq_true a2, decide_eq_true a3]
    rfl
theorem wi_enm {c : Calls'} {env : Mn.Env} {S : Store} {E : XP} {a : Ex} {R : Src → Store → Prop} : wp (evI c (.enm a) env S) R E = wp (evE c a env S) (fun d S1 => wp (enmD [d] S1) R E) E := by
  show wp (enmI (consA (evE c a) nilA) env S) R E = _
  unfold enmI consA
  rw [wp_bind, wp_bind]
  congr 1
theorem wp_enm {S : Store} {E : XP} {n : Nat} {ds : List D} (h : S[n]? = some (.lst ds)) {R : Src → Store → Prop} : wp (enmD [.loc n] S) R E = R (.enm (.loc n)) S := by
  have e : lstOf S (.loc n) = some ds := by
    show (match S[n]? with
      | some (.lst ds) => some ds
      | _ => none) = _
    rw [h]
  unfold enmD
  dsimp only
  rw [e]
  rfl
theorem for_enm {tgt : DG} {b : DS} {m : Nat} {ds : List D} {P : PQ} (J : Nat → Mn.Env → Store → Prop) (hk : ∀ i e T, J i e T → T[m]? = some (.lst ds))
    (step : ∀ (i : Nat) (e : Mn.Env) (T : Store) (x : D), ds[i]? = some x → J i e T → setP (tgt (.tup [.int i, x]) e T) fun e' => wpS (b e' T) ⟨J (i + 1), P.rt, P.nx, J (i + 1), P.ex⟩)
    (fin : ∀ e T, J ds.length e T → P.nx e T) {e : Mn.Env} {T : Store} (h : J 0 e T) : wpS (forL (.enm (.loc m)) tgt b (srcLen (.enm (.loc m)) T) 0 e T) P := by
  have l : ∀ T, T[m]? = some (.lst ds) → lstOf T (.loc m) = some ds := fun T h => by
    show (match T[m]? with
      | some (.lst ds) => some ds
      | _ => none) = _
    rw [h]
  have e1 : srcLen (.enm (.loc m)) T = ds.length := by
    show ((lstOf T (.loc m)).map List.length).getD 0 = _
    rw [l T (hk 0 e T h)]
    rfl
  rw [e1]
  refine for_rule (n := ds.length) J (fun i e T hj hi => ⟨(ds[i]?).map fun x => .tup [.int (i : Nat), x], ?_, ?_⟩) (fun i e T x hi hj hx => ?_) fin ds.length 0 e T (by omega) h
  · show (lstOf T (.loc m)).map (fun ds => (ds[i]?).map fun x => D.tup [.int (i : Nat), x]) = _
    rw [l T (hk i e T hj)]
    rfl
  · rw [Option.map_eq_none_iff, List.getElem?_eq_none_iff]
    omega
  · have hx : (lstOf T (.loc m)).map (fun ds => (ds[i]?).map fun x => D.tup [.int (i : Nat), x]) = some (some x) := hx
    rw [l T (hk i e T hj)] at hx
    obtain ⟨y, hy, rfl⟩ := Option.map_eq_some_iff.mp (Option.some.inj hx)
    exact step i e T y hy hj
theorem o_fld1 {S : Store} {f g c : Str} {x : D} {Q : D → Store → Prop} (h : (f == g) = true) : wpO (fldD f (.exo c [g] [x]) S) Q = Q x S := by
  unfold fldD
  show wpO (([(g, x)].lookup f).map fun x => (x, S)) Q = _
  rw [show [(g, x)].lookup f = some x from by simp [List.lookup, h]]
  rfl
/-- the eight refusals made of x -/
def rs (x : D) : List D := (List.range 8).map fun j => .exo (xn (9 + j)) [fld j] [x]
theorem rs_at {x y : D} {i : Nat} (h : (rs x)[i]? = some y) : i < 8 ∧ y = .exo (xn (9 + i)) [fld i] [x] := by
  unfold rs at h
  rw [List.getElem?_map] at h
  obtain ⟨j, hj, e⟩ := Option.map_eq_some_iff.mp h
  obtain ⟨l, e2⟩ := List.getElem?_eq_some_iff.mp hj
  rw [List.length_range] at l
  rw [List.getElem_range] at e2
  subst e2
  exact ⟨l, e.symm⟩
theorem lg {i : Int} (h : i.natAbs < 1000) : i.natAbs.log2 < 100 := by
  by_cases z : i.natAbs = 0
  · rw [z]; decide
  · rw [Nat.log2_lt z]
    exact Nat.lt_of_lt_of_le h (by decide)
theorem one_int {S : Store} {i : Int} (h : i.natAbs < 1000) : One S (.int i) :=
  have := lg h
  ⟨.int i, fun _ _ => rfl, decide_eq_true (show i.natAbs.log2 < 1920 by omega), by show i.natAbs.log2 + 2 ≤ 1000; omega, by show (0 : Nat) ≤ 5; decide, rfl⟩
def raF (x : D) : D → Option D
  | .int i => some (.exo (xn (9 + i.toNat)) [fld i.toNat] [x])
  | _ => none
theorem o_rep8 {V : Store} {x : D} {Q : D → Store → Prop} : wpO (BO.g .mul (.loc V.length) (.int 8) (V ++ [Cell.lst [x]])) Q = Q (.loc (V ++ [Cell.lst [x]]).length) (V ++ [Cell.lst [x]] ++ [Cell.lst (List.replicate 8 x)]) := by
  show wpO (lstRep (.loc V.length) (.int 8) (V ++ [Cell.lst [x]])) Q = _
  unfold lstRep
  simp only [push_at]
  rw [if_pos (show (decide (-(2 ^ 63) ≤ (8 : Int)) && decide ((8 : Int) < 2 ^ 63) && decide ([x].length * Int.toNat 8 ≤ sz)) = true from by
    show (decide (-(2 ^ 63) ≤ (8 : Int)) && decide ((8 : Int) < 2 ^ 63) && decide (1 * 8 ≤ sz)) = true
    decide)]
  rfl
theorem says : LawSays G 10 7 63 := by
  intro ns hn
  refine ok_of_wp (d := D.bl true) ?_
  show wp (callF G (9 + 1) 7 [scriptD ns] []) _ NoX
  rw [w_law]
  unfold b_law
  try simp only [ws_cons, ws_nil, ws_pass, ws_brk, ws_cnt, ws_retN, ws_ret, ws_expr, ws_asg, ws_asgX, ws_put, ws_ifs, ws_for, we_var, we_cst, we_glo, we_bty, we_bin, we_cmp, we_idx, we_chn, we_notq, we_neg, we_boo1, we_and, we_or, we_ite, we_tup, we_lst, we_dic0, we_slc, we_rev, we_bfn, we_own, we_mth, we_fld, we_isx, ws_rse, ws_rsx, ws_try, ws_trym, catP_t, catP_f, optP_some, wa_nil, wa_cons, wo_no, wo_so, wt_pl, wt_no, wt_bo1, wt_and, wt_or, wc_yes, wc_one, wi_seq, wi_rng1, wp_ok, setP_some, setX_some, putP_some, varP_some, blP_bl, truP_some, intP_int, revP_tup, wpO_some, o_slc_t, o_tupP, rpr_bl, t_bl, t_int, o_add_i, o_sub_i, o_mul_i, o_fdiv, o_mod, o_pow, o_lt_i, o_gt_i, o_le_i, o_ge_i, o_eq_i, o_ne_i, o_eq_s, o_ne_s, o_le_s, o_is_n, o_isn_n, o_is_b, o_in_s, o_len_t, o_len_s, o_max, o_min, o_in_t, star_1, consG, nilG, Option.bind_some, Option.map_some, inF, List.any_cons, List.any_nil, eqF, flatD, List.all_cons, List.all_nil, evG, evGs, lenGs, nameG, startG, BT.t, MT.T, asmD, List.map_cons, List.map_nil, List.append_nil, List.cons_append, List.nil_append, List.length_cons, List.length_nil, List.getElem?_cons_zero, List.getElem?_cons_succ, List.set_cons_zero, List.set_cons_succ, List.getD_cons_zero, List.getD_cons_succ, List.replicate_succ, List.replicate_zero, Nat.sub_self, Nat.zero_add, Nat.add_zero, Nat.reduceAdd, Nat.reduceSub, Nat.reduceLeDiff, Bool.not_true, Bool.not_false, Bool.and_true, Bool.true_and, Bool.false_and, Bool.and_false, Bool.or_true, Bool.true_or, Bool.false_or, Bool.or_false, if_true, if_false, true_and, and_true, and_self, decide_eq_true_eq, Bool.false_eq_true, reduceIte, decide_true, decide_false, eq_self, Mn.isNon]
  refine ⟨by decide, by decide, a_ap (push_at [] _) (by simp) fun p T hp kp => ?_⟩
  have hw : T[p]? = some (.lst (wds.map D.str)) := hp
  try simp only [ws_cons, ws_nil, ws_pass, ws_brk, ws_cnt, ws_retN, ws_ret, ws_expr, ws_asg, ws_asgX, ws_put, ws_ifs, ws_for, we_var, we_cst, we_glo, we_bty, we_bin, we_cmp, we_idx, we_chn, we_notq, we_neg, we_boo1, we_and, we_or, we_ite, we_tup, we_lst, we_dic0, we_slc, we_rev, we_bfn, we_own, we_mth, we_fld, we_isx, ws_rse, ws_rsx, ws_try, ws_trym, catP_t, catP_f, optP_some, wa_nil, wa_cons, wo_no, wo_so, wt_pl, wt_no, wt_bo1, wt_and, wt_or, wc_yes, wc_one, wi_seq, wi_rng1, wp_ok, setP_some, setX_some, putP_some, varP_some, blP_bl, truP_some, intP_int, revP_tup, wpO_some, o_slc_t, o_tupP, rpr_bl, t_bl, t_int, o_add_i, o_sub_i, o_mul_i, o_fdiv, o_mod, o_pow, o_lt_i, o_gt_i, o_le_i, o_ge_i, o_eq_i, o_ne_i, o_eq_s, o_ne_s, o_le_s, o_is_n, o_isn_n, o_is_b, o_in_s, o_len_t, o_len_s, o_max, o_min, o_in_t, star_1, consG, nilG, Option.bind_some, Option.map_some, inF, List.any_cons, List.any_nil, eqF, flatD, List.all_cons, List.all_nil, evG, evGs, lenGs, nameG, startG, BT.t, MT.T, asmD, List.map_cons, List.map_nil, List.append_nil, List.cons_append, List.nil_append, List.length_cons, List.length_nil, List.getElem?_cons_zero, List.getElem?_cons_succ, List.set_cons_zero, List.set_cons_succ, List.getD_cons_zero, List.getD_cons_succ, List.replicate_succ, List.replicate_zero, Nat.sub_self, Nat.zero_add, Nat.add_zero, Nat.reduceAdd, Nat.reduceSub, Nat.reduceLeDiff, Bool.not_true, Bool.not_false, Bool.and_true, Bool.true_and, Bool.false_and, Bool.and_false, Bool.or_true, Bool.true_or, Bool.false_or, Bool.or_false, if_true, if_false, true_and, and_true, and_self, decide_eq_true_eq, Bool.false_eq_true, reduceIte, decide_true, decide_false, eq_self, Mn.isNon]
  refine ⟨by decide, ?_⟩
  refine for_rng (fun i e T => ∃ a b c d f g h, e = [some (scriptD ns), some (.loc p), a, b, c, d, f, g, h] ∧ T[p]? = some (.lst (wds.map D.str))) (fun i e T hi he => ?_) (fun e T he => ?_) ⟨_, _, _, _, _, _, _, rfl, hw⟩
  · obtain ⟨a, b, c, d, f, g, h, rfl, hw⟩ := he
    try simp only [ws_cons, ws_nil, ws_pass, ws_brk, ws_cnt, ws_retN, ws_ret, ws_expr, ws_asg, ws_asgX, ws_put, ws_ifs, ws_for, we_var, we_cst, we_glo, we_bty, we_bin, we_cmp, we_idx, we_chn, we_notq, we_neg, we_boo1, we_and, we_or, we_ite, we_tup, we_lst, we_dic0, we_slc, we_rev, we_bfn, we_own, we_mth, we_fld, we_isx, ws_rse, ws_rsx, ws_try, ws_trym, catP_t, catP_f, optP_some, wa_nil, wa_cons, wo_no, wo_so, wt_pl, wt_no, wt_bo1, wt_and, wt_or, wc_yes, wc_one, wi_seq, wi_rng1, wp_ok, setP_some, setX_some, putP_some, varP_some, blP_bl, truP_some, intP_int, revP_tup, wpO_some, o_slc_t, o_tupP, rpr_bl, t_bl, t_int, o_add_i, o_sub_i, o_mul_i, o_fdiv, o_mod, o_pow, o_lt_i, o_gt_i, o_le_i, o_ge_i, o_eq_i, o_ne_i, o_eq_s, o_ne_s, o_le_s, o_is_n, o_isn_n, o_is_b, o_in_s, o_len_t, o_len_s, o_max, o_min, o_in_t, star_1, consG, nilG, Option.bind_some, Option.map_some, inF, List.any_cons, List.any_nil, eqF, flatD, List.all_cons, List.all_nil, evG, evGs, lenGs, nameG, startG, BT.t, MT.T, asmD, List.map_cons, List.map_nil, List.append_nil, List.cons_append, List.nil_append, List.length_cons, List.length_nil, List.getElem?_cons_zero, List.getElem?_cons_succ, List.set_cons_zero, List.set_cons_succ, List.getD_cons_zero, List.getD_cons_succ, List.replicate_succ, List.replicate_zero, Nat.sub_self, Nat.zero_add, Nat.add_zero, Nat.reduceAdd, Nat.reduceSub, Nat.reduceLeDiff, Bool.not_true, Bool.not_false, Bool.and_true, Bool.true_and, Bool.false_and, Bool.and_false, Bool.or_true, Bool.true_or, Bool.false_or, Bool.or_false, if_true, if_false, true_and, and_true, and_self, decide_eq_true_eq, Bool.false_eq_true, reduceIte, decide_true, decide_false, eq_self, Mn.isNon]
    refine s_texts (n := 8) hi ?_
    refine wp_mono (s_kind (n := 8) (show i < 17 by omega)) ?_
    rintro _ T1 ⟨rfl, k1⟩
    have hi' : i < 9 := hi
    rw [o_idx (items_loc (k1.at hw)) (wd_at (by omega))]
    try simp only [ws_cons, ws_nil, ws_pass, ws_brk, ws_cnt, ws_retN, ws_ret, ws_expr, ws_asg, ws_asgX, ws_put, ws_ifs, ws_for, we_var, we_cst, we_glo, we_bty, we_bin, we_cmp, we_idx, we_chn, we_notq, we_neg, we_boo1, we_and, we_or, we_ite, we_tup, we_lst, we_dic0, we_slc, we_rev, we_bfn, we_own, we_mth, we_fld, we_isx, ws_rse, ws_rsx, ws_try, ws_trym, catP_t, catP_f, optP_some, wa_nil, wa_cons, wo_no, wo_so, wt_pl, wt_no, wt_bo1, wt_and, wt_or, wc_yes, wc_one, wi_seq, wi_rng1, wp_ok, setP_some, setX_some, putP_some, varP_some, blP_bl, truP_some, intP_int, revP_tup, wpO_some, o_slc_t, o_tupP, rpr_bl, t_bl, t_int, o_add_i, o_sub_i, o_mul_i, o_fdiv, o_mod, o_pow, o_lt_i, o_gt_i, o_le_i, o_ge_i, o_eq_i, o_ne_i, o_eq_s, o_ne_s, o_le_s, o_is_n, o_isn_n, o_is_b, o_in_s, o_len_t, o_len_s, o_max, o_min, o_in_t, star_1, consG, nilG, Option.bind_some, Option.map_some, inF, List.any_cons, List.any_nil, eqF, flatD, List.all_cons, List.all_nil, evG, evGs, lenGs, nameG, startG, BT.t, MT.T, asmD, List.map_cons, List.map_nil, List.append_nil, List.cons_append, List.nil_append, List.length_cons, List.length_nil, List.getElem?_cons_zero, List.getElem?_cons_succ, List.set_cons_zero, List.set_cons_succ, List.getD_cons_zero, List.getD_cons_succ, List.replicate_succ, List.replicate_zero, Nat.sub_self, Nat.zero_add, Nat.add_zero, Nat.reduceAdd, Nat.reduceSub, Nat.reduceLeDiff, Bool.not_true, Bool.not_false, Bool.and_true, Bool.true_and, Bool.false_and, Bool.and_false, Bool.or_true, Bool.true_or, Bool.false_or, Bool.or_false, if_true, if_false, true_and, and_true, and_self, decide_eq_true_eq, Bool.false_eq_true, reduceIte, decide_true, decide_false, eq_self, Mn.isNon]
    refine s_texts (n := 8) hi ?_
    refine s_bases (n := 8) (show i < 17 by omega) ?_
    try simp only [ws_cons, ws_nil, ws_pass, ws_brk, ws_cnt, ws_retN, ws_ret, ws_expr, ws_asg, ws_asgX, ws_put, ws_ifs, ws_for, we_var, we_cst, we_glo, we_bty, we_bin, we_cmp, we_idx, we_chn, we_notq, we_neg, we_boo1, we_and, we_or, we_ite, we_tup, we_lst, we_dic0, we_slc, we_rev, we_bfn, we_own, we_mth, we_fld, we_isx, ws_rse, ws_rsx, ws_try, ws_trym, catP_t, catP_f, optP_some, wa_nil, wa_cons, wo_no, wo_so, wt_pl, wt_no, wt_bo1, wt_and, wt_or, wc_yes, wc_one, wi_seq, wi_rng1, wp_ok, setP_some, setX_some, putP_some, varP_some, blP_bl, truP_some, intP_int, revP_tup, wpO_some, o_slc_t, o_tupP, rpr_bl, t_bl, t_int, o_add_i, o_sub_i, o_mul_i, o_fdiv, o_mod, o_pow, o_lt_i, o_gt_i, o_le_i, o_ge_i, o_eq_i, o_ne_i, o_eq_s, o_ne_s, o_le_s, o_is_n, o_isn_n, o_is_b, o_in_s, o_len_t, o_len_s, o_max, o_min, o_in_t, star_1, consG, nilG, Option.bind_some, Option.map_some, inF, List.any_cons, List.any_nil, eqF, flatD, List.all_cons, List.all_nil, evG, evGs, lenGs, nameG, startG, BT.t, MT.T, asmD, List.map_cons, List.map_nil, List.append_nil, List.cons_append, List.nil_append, List.length_cons, List.length_nil, List.getElem?_cons_zero, List.getElem?_cons_succ, List.set_cons_zero, List.set_cons_succ, List.getD_cons_zero, List.getD_cons_succ, List.replicate_succ, List.replicate_zero, Nat.sub_self, Nat.zero_add, Nat.add_zero, Nat.reduceAdd, Nat.reduceSub, Nat.reduceLeDiff, Bool.not_true, Bool.not_false, Bool.and_true, Bool.true_and, Bool.false_and, Bool.and_false, Bool.or_true, Bool.true_or, Bool.false_or, Bool.or_false, if_true, if_false, true_and, and_true, and_self, decide_eq_true_eq, Bool.false_eq_true, reduceIte, decide_true, decide_false, eq_self, Mn.isNon]
    exact ⟨_, _, _, _, _, _, _, rfl, k1.at hw⟩
  · obtain ⟨a, b, c, d, f, g, h, rfl, hw⟩ := he
    try simp only [ws_cons, ws_nil, ws_pass, ws_brk, ws_cnt, ws_retN, ws_ret, ws_expr, ws_asg, ws_asgX, ws_put, ws_ifs, ws_for, we_var, we_cst, we_glo, we_bty, we_bin, we_cmp, we_idx, we_chn, we_notq, we_neg, we_boo1, we_and, we_or, we_ite, we_tup, we_lst, we_dic0, we_slc, we_rev, we_bfn, we_own, we_mth, we_fld, we_isx, ws_rse, ws_rsx, ws_try, ws_trym, catP_t, catP_f, optP_some, wa_nil, wa_cons, wo_no, wo_so, wt_pl, wt_no, wt_bo1, wt_and, wt_or, wc_yes, wc_one, wi_seq, wi_rng1, wp_ok, setP_some, setX_some, putP_some, varP_some, blP_bl, truP_some, intP_int, revP_tup, wpO_some, o_slc_t, o_tupP, rpr_bl, t_bl, t_int, o_add_i, o_sub_i, o_mul_i, o_fdiv, o_mod, o_pow, o_lt_i, o_gt_i, o_le_i, o_ge_i, o_eq_i, o_ne_i, o_eq_s, o_ne_s, o_le_s, o_is_n, o_isn_n, o_is_b, o_in_s, o_len_t, o_len_s, o_max, o_min, o_in_t, star_1, consG, nilG, Option.bind_some, Option.map_some, inF, List.any_cons, List.any_nil, eqF, flatD, List.all_cons, List.all_nil, evG, evGs, lenGs, nameG, startG, BT.t, MT.T, asmD, List.map_cons, List.map_nil, List.append_nil, List.cons_append, List.nil_append, List.length_cons, List.length_nil, List.getElem?_cons_zero, List.getElem?_cons_succ, List.set_cons_zero, List.set_cons_succ, List.getD_cons_zero, List.getD_cons_succ, List.replicate_succ, List.replicate_zero, Nat.sub_self, Nat.zero_add, Nat.add_zero, Nat.reduceAdd, Nat.reduceSub, Nat.reduceLeDiff, Bool.not_true, Bool.not_false, Bool.and_true, Bool.true_and, Bool.false_and, Bool.and_false, Bool.or_true, Bool.true_or, Bool.false_or, Bool.or_false, if_true, if_false, true_and, and_true, and_self, decide_eq_true_eq, Bool.false_eq_true, reduceIte, decide_true, decide_false, eq_self, Mn.isNon]
    rw [o_len (show itemsOf T (scriptD ns) = some (ns.map D.int) from rfl)]
    try simp only [List.length_map, ws_cons, ws_nil, ws_pass, ws_brk, ws_cnt, ws_retN, ws_ret, ws_expr, ws_asg, ws_asgX, ws_put, ws_ifs, ws_for, we_var, we_cst, we_glo, we_bty, we_bin, we_cmp, we_idx, we_chn, we_notq, we_neg, we_boo1, we_and, we_or, we_ite, we_tup, we_lst, we_dic0, we_slc, we_rev, we_bfn, we_own, we_mth, we_fld, we_isx, ws_rse, ws_rsx, ws_try, ws_trym, catP_t, catP_f, optP_some, wa_nil, wa_cons, wo_no, wo_so, wt_pl, wt_no, wt_bo1, wt_and, wt_or, wc_yes, wc_one, wi_seq, wi_rng1, wp_ok, setP_some, setX_some, putP_some, varP_some, blP_bl, truP_some, intP_int, revP_tup, wpO_some, o_slc_t, o_tupP, rpr_bl, t_bl, t_int, o_add_i, o_sub_i, o_mul_i, o_fdiv, o_mod, o_pow, o_lt_i, o_gt_i, o_le_i, o_ge_i, o_eq_i, o_ne_i, o_eq_s, o_ne_s, o_le_s, o_is_n, o_isn_n, o_is_b, o_in_s, o_len_t, o_len_s, o_max, o_min, o_in_t, star_1, consG, nilG, Option.bind_some, Option.map_some, inF, List.any_cons, List.any_nil, eqF, flatD, List.all_cons, List.all_nil, evG, evGs, lenGs, nameG, startG, BT.t, MT.T, asmD, List.map_cons, List.map_nil, List.append_nil, List.cons_append, List.nil_append, List.length_cons, List.length_nil, List.getElem?_cons_zero, List.getElem?_cons_succ, List.set_cons_zero, List.set_cons_succ, List.getD_cons_zero, List.getD_cons_succ, List.replicate_succ, List.replicate_zero, Nat.sub_self, Nat.zero_add, Nat.add_zero, Nat.reduceAdd, Nat.reduceSub, Nat.reduceLeDiff, Bool.not_true, Bool.not_false, Bool.and_true, Bool.true_and, Bool.false_and, Bool.and_false, Bool.or_true, Bool.true_or, Bool.false_or, Bool.or_false, if_true, if_false, true_and, and_true, and_self, decide_eq_true_eq, Bool.false_eq_true, reduceIte, decide_true, decide_false, eq_self, Mn.isNon]
    have hj : 1 ≤ maxI 1 (minI 8 ns.length) ∧ maxI 1 (minI 8 ns.length) ≤ 8 := by
      unfold maxI minI
      constructor <;> (repeat' split) <;> omega
    generalize maxI 1 (minI 8 ns.length) = j at hj
    refine ⟨by omega, ?_⟩
    refine for_rng (fun i e T => ∃ a b c d f g h, e = [some (scriptD ns), some (.loc p), a, b, c, d, f, g, h] ∧ T[p]? = some (.lst (wds.map D.str))) (fun i e T hi he => ?_) (fun e T he => ?_) ⟨_, _, _, _, _, _, _, rfl, hw⟩
    · obtain ⟨a, b, c, d, f, g, h, rfl, hw⟩ := he
      try simp only [ws_cons, ws_nil, ws_pass, ws_brk, ws_cnt, ws_retN, ws_ret, ws_expr, ws_asg, ws_asgX, ws_put, ws_ifs, ws_for, we_var, we_cst, we_glo, we_bty, we_bin, we_cmp, we_idx, we_chn, we_notq, we_neg, we_boo1, we_and, we_or, we_ite, we_tup, we_lst, we_dic0, we_slc, we_rev, we_bfn, we_own, we_mth, we_fld, we_isx, ws_rse, ws_rsx, ws_try, ws_trym, catP_t, catP_f, optP_some, wa_nil, wa_cons, wo_no, wo_so, wt_pl, wt_no, wt_bo1, wt_and, wt_or, wc_yes, wc_one, wi_seq, wi_rng1, wp_ok, setP_some, setX_some, putP_some, varP_some, blP_bl, truP_some, intP_int, revP_tup, wpO_some, o_slc_t, o_tupP, rpr_bl, t_bl, t_int, o_add_i, o_sub_i, o_mul_i, o_fdiv, o_mod, o_pow, o_lt_i, o_gt_i, o_le_i, o_ge_i, o_eq_i, o_ne_i, o_eq_s, o_ne_s, o_le_s, o_is_n, o_isn_n, o_is_b, o_in_s, o_len_t, o_len_s, o_max, o_min, o_in_t, star_1, consG, nilG, Option.bind_some, Option.map_some, inF, List.any_cons, List.any_nil, eqF, flatD, List.all_cons, List.all_nil, evG, evGs, lenGs, nameG, startG, BT.t, MT.T, asmD, List.map_cons, List.map_nil, List.append_nil, List.cons_append, List.nil_append, List.length_cons, List.length_nil, List.getElem?_cons_zero, List.getElem?_cons_succ, List.set_cons_zero, List.set_cons_succ, List.getD_cons_zero, List.getD_cons_succ, List.replicate_succ, List.replicate_zero, Nat.sub_self, Nat.zero_add, Nat.add_zero, Nat.reduceAdd, Nat.reduceSub, Nat.reduceLeDiff, Bool.not_true, Bool.not_false, Bool.and_true, Bool.true_and, Bool.false_and, Bool.and_false, Bool.or_true, Bool.true_or, Bool.false_or, Bool.or_false, if_true, if_false, true_and, and_true, and_self, decide_eq_true_eq, Bool.false_eq_true, reduceIte, decide_true, decide_false, eq_self, Mn.isNon]
      refine wp_mono (s_pool (n := 7) (by omega) (by omega)) ?_
      rintro _ T1 ⟨m, rfl, p1, k1, lm⟩
      have hw1 := k1.at hw
      try simp only [ws_cons, ws_nil, ws_pass, ws_brk, ws_cnt, ws_retN, ws_ret, ws_expr, ws_asg, ws_asgX, ws_put, ws_ifs, ws_for, we_var, we_cst, we_glo, we_bty, we_bin, we_cmp, we_idx, we_chn, we_notq, we_neg, we_boo1, we_and, we_or, we_ite, we_tup, we_lst, we_dic0, we_slc, we_rev, we_bfn, we_own, we_mth, we_fld, we_isx, ws_rse, ws_rsx, ws_try, ws_trym, catP_t, catP_f, optP_some, wa_nil, wa_cons, wo_no, wo_so, wt_pl, wt_no, wt_bo1, wt_and, wt_or, wc_yes, wc_one, wi_seq, wi_rng1, wp_ok, setP_some, setX_some, putP_some, varP_some, blP_bl, truP_some, intP_int, revP_tup, wpO_some, o_slc_t, o_tupP, rpr_bl, t_bl, t_int, o_add_i, o_sub_i, o_mul_i, o_fdiv, o_mod, o_pow, o_lt_i, o_gt_i, o_le_i, o_ge_i, o_eq_i, o_ne_i, o_eq_s, o_ne_s, o_le_s, o_is_n, o_isn_n, o_is_b, o_in_s, o_len_t, o_len_s, o_max, o_min, o_in_t, star_1, consG, nilG, Option.bind_some, Option.map_some, inF, List.any_cons, List.any_nil, eqF, flatD, List.all_cons, List.all_nil, evG, evGs, lenGs, nameG, startG, BT.t, MT.T, asmD, List.map_cons, List.map_nil, List.append_nil, List.cons_append, List.nil_append, List.length_cons, List.length_nil, List.getElem?_cons_zero, List.getElem?_cons_succ, List.set_cons_zero, List.set_cons_succ, List.getD_cons_zero, List.getD_cons_succ, List.replicate_succ, List.replicate_zero, Nat.sub_self, Nat.zero_add, Nat.add_zero, Nat.reduceAdd, Nat.reduceSub, Nat.reduceLeDiff, Bool.not_true, Bool.not_false, Bool.and_true, Bool.true_and, Bool.false_and, Bool.and_false, Bool.or_true, Bool.true_or, Bool.false_or, Bool.or_false, if_true, if_false, true_and, and_true, and_self, decide_eq_true_eq, Bool.false_eq_true, reduceIte, decide_true, decide_false, eq_self, Mn.isNon]
      refine wp_mono (s_take (n := 8) p1 (by omega) (by omega)) ?_
      rintro _ T2 ⟨w1, rfl, a0, a1, p2, k2⟩
      try simp only [ws_cons, ws_nil, ws_pass, ws_brk, ws_cnt, ws_retN, ws_ret, ws_expr, ws_asg, ws_asgX, ws_put, ws_ifs, ws_for, we_var, we_cst, we_glo, we_bty, we_bin, we_cmp, we_idx, we_chn, we_notq, we_neg, we_boo1, we_and, we_or, we_ite, we_tup, we_lst, we_dic0, we_slc, we_rev, we_bfn, we_own, we_mth, we_fld, we_isx, ws_rse, ws_rsx, ws_try, ws_trym, catP_t, catP_f, optP_some, wa_nil, wa_cons, wo_no, wo_so, wt_pl, wt_no, wt_bo1, wt_and, wt_or, wc_yes, wc_one, wi_seq, wi_rng1, wp_ok, setP_some, setX_some, putP_some, varP_some, blP_bl, truP_some, intP_int, revP_tup, wpO_some, o_slc_t, o_tupP, rpr_bl, t_bl, t_int, o_add_i, o_sub_i, o_mul_i, o_fdiv, o_mod, o_pow, o_lt_i, o_gt_i, o_le_i, o_ge_i, o_eq_i, o_ne_i, o_eq_s, o_ne_s, o_le_s, o_is_n, o_isn_n, o_is_b, o_in_s, o_len_t, o_len_s, o_max, o_min, o_in_t, star_1, consG, nilG, Option.bind_some, Option.map_some, inF, List.any_cons, List.any_nil, eqF, flatD, List.all_cons, List.all_nil, evG, evGs, lenGs, nameG, startG, BT.t, MT.T, asmD, List.map_cons, List.map_nil, List.append_nil, List.cons_append, List.nil_append, List.length_cons, List.length_nil, List.getElem?_cons_zero, List.getElem?_cons_succ, List.set_cons_zero, List.set_cons_succ, List.getD_cons_zero, List.getD_cons_succ, List.replicate_succ, List.replicate_zero, Nat.sub_self, Nat.zero_add, Nat.add_zero, Nat.reduceAdd, Nat.reduceSub, Nat.reduceLeDiff, Bool.not_true, Bool.not_false, Bool.and_true, Bool.true_and, Bool.false_and, Bool.and_false, Bool.or_true, Bool.true_or, Bool.false_or, Bool.or_false, if_true, if_false, true_and, and_true, and_self, decide_eq_true_eq, Bool.false_eq_true, reduceIte, decide_true, decide_false, eq_self, Mn.isNon]
      refine wp_mono (s_take (n := 8) p2 (by omega) (by omega)) ?_
      rintro _ T3 ⟨w2, rfl, b0, b1, p3, k3⟩
      try simp only [ws_cons, ws_nil, ws_pass, ws_brk, ws_cnt, ws_retN, ws_ret, ws_expr, ws_asg, ws_asgX, ws_put, ws_ifs, ws_for, we_var, we_cst, we_glo, we_bty, we_bin, we_cmp, we_idx, we_chn, we_notq, we_neg, we_boo1, we_and, we_or, we_ite, we_tup, we_lst, we_dic0, we_slc, we_rev, we_bfn, we_own, we_mth, we_fld, we_isx, ws_rse, ws_rsx, ws_try, ws_trym, catP_t, catP_f, optP_some, wa_nil, wa_cons, wo_no, wo_so, wt_pl, wt_no, wt_bo1, wt_and, wt_or, wc_yes, wc_one, wi_seq, wi_rng1, wp_ok, setP_some, setX_some, putP_some, varP_some, blP_bl, truP_some, intP_int, revP_tup, wpO_some, o_slc_t, o_tupP, rpr_bl, t_bl, t_int, o_add_i, o_sub_i, o_mul_i, o_fdiv, o_mod, o_pow, o_lt_i, o_gt_i, o_le_i, o_ge_i, o_eq_i, o_ne_i, o_eq_s, o_ne_s, o_le_s, o_is_n, o_isn_n, o_is_b, o_in_s, o_len_t, o_len_s, o_max, o_min, o_in_t, star_1, consG, nilG, Option.bind_some, Option.map_some, inF, List.any_cons, List.any_nil, eqF, flatD, List.all_cons, List.all_nil, evG, evGs, lenGs, nameG, startG, BT.t, MT.T, asmD, List.map_cons, List.map_nil, List.append_nil, List.cons_append, List.nil_append, List.length_cons, List.length_nil, List.getElem?_cons_zero, List.getElem?_cons_succ, List.set_cons_zero, List.set_cons_succ, List.getD_cons_zero, List.getD_cons_succ, List.replicate_succ, List.replicate_zero, Nat.sub_self, Nat.zero_add, Nat.add_zero, Nat.reduceAdd, Nat.reduceSub, Nat.reduceLeDiff, Bool.not_true, Bool.not_false, Bool.and_true, Bool.true_and, Bool.false_and, Bool.and_false, Bool.or_true, Bool.true_or, Bool.false_or, Bool.or_false, if_true, if_false, true_and, and_true, and_self, decide_eq_true_eq, Bool.false_eq_true, reduceIte, decide_true, decide_false, eq_self, Mn.isNon]
      refine ⟨by decide, by decide, by decide +kernel, by decide, ?_⟩
      have l1 := p1.lt
      have l2 := k2.len
      have l3 := k3.len
      have lp : p < T.length := (List.getElem?_eq_some_iff.mp hw).1
      have hw3 := k3.at_ p _ (by omega) (k2.at_ p _ (by omega) hw1)
      refine wp_mono (s_take (n := 8) (p3.kp ((Kp.push T3 _).trans (Kp.push _ _))) (by omega) (by omega)) ?_
      rintro _ T4 ⟨w3, rfl, c0, c1, p4, k4⟩
      refine s_pick (push_at _ _) (by rw [push_len]; omega) k4 c0 (by simpa using c1) fun x hx => ?_
      have hw4 := k4.at_ p _ (by omega) (((Kp.push T3 (.lst [.int 3])).trans (Kp.push _ _)).at hw3)
      have hl4 := k4.at_ T3.length _ (by omega) ((Kp.push (T3 ++ [Cell.lst [.int 3]]) (.lst [.int w1, .non, .tup [.int w2, .int 1], .str "name", .bl true, .loc T3.length, .int (10 ^ Int.toNat 20)])).at (push_at T3 (.lst [.int 3])))
      have one : One T4 x := by
        simp only [List.mem_cons, List.not_mem_nil, or_false] at hx
        rcases hx with rfl | rfl | rfl | rfl | rfl | rfl | rfl
        · exact one_int (by omega)
        · exact ⟨.none, fun _ _ => rfl, rfl, by decide, by decide, rfl⟩
        · have := lg (show w2.natAbs < 1000 by omega)
          refine ⟨.tuple [.int w2, .int 1], fun _ _ => rfl, ?_, ?_, by show max 0 (max 0 0) + 1 ≤ 5; decide, rfl⟩
          · show (decide (w2.natAbs.log2 < 1920) && (decide ((1 : Int).natAbs.log2 < 1920) && true)) = true
            rw [decide_eq_true (show w2.natAbs.log2 < 1920 by omega)]
            decide
          · show w2.natAbs.log2 + 2 + 2 + ((1 : Int).natAbs.log2 + 2 + 2 + 0) + 4 ≤ 1000
            have : (1 : Int).natAbs.log2 = 0 := by decide
            omega
        · exact ⟨.str "name", fun _ _ => rfl, by decide +kernel, by decide +kernel, by decide, rfl⟩
        · exact ⟨.bool true, fun _ _ => rfl, rfl, by decide, by decide, rfl⟩
        · refine ⟨.list [.int 3], fun U k => ?_, by decide +kernel, by decide +kernel, by decide, rfl⟩
          show (match U[T3.length]? with
            | some (.lst ds) => (toPWs (toRL U 6) ds).bind fun qs => if PyData.hasDictAll qs = true then none else some (PyData.list qs)
            | some (.dct []) => some (PyData.dict [])
            | _ => none) = _
          rw [k.at hl4]
          rfl
        · exact ⟨.int (10 ^ Int.toNat 20), fun _ _ => rfl, by decide +kernel, by decide +kernel, by decide, rfl⟩
      refine wl_map (raF x) ?_
      try simp only [ws_cons, ws_nil, ws_pass, ws_brk, ws_cnt, ws_retN, ws_ret, ws_expr, ws_asg, ws_asgX, ws_put, ws_ifs, ws_for, we_var, we_cst, we_glo, we_bty, we_bin, we_cmp, we_idx, we_chn, we_notq, we_neg, we_boo1, we_and, we_or, we_ite, we_tup, we_lst, we_dic0, we_slc, we_rev, we_bfn, we_own, we_mth, we_fld, we_isx, ws_rse, ws_rsx, ws_try, ws_trym, catP_t, catP_f, optP_some, wa_nil, wa_cons, wo_no, wo_so, wt_pl, wt_no, wt_bo1, wt_and, wt_or, wc_yes, wc_one, wi_seq, wi_rng1, wp_ok, setP_some, setX_some, putP_some, varP_some, blP_bl, truP_some, intP_int, revP_tup, wpO_some, o_slc_t, o_tupP, rpr_bl, t_bl, t_int, o_add_i, o_sub_i, o_mul_i, o_fdiv, o_mod, o_pow, o_lt_i, o_gt_i, o_le_i, o_ge_i, o_eq_i, o_ne_i, o_eq_s, o_ne_s, o_le_s, o_is_n, o_isn_n, o_is_b, o_in_s, o_len_t, o_len_s, o_max, o_min, o_in_t, star_1, consG, nilG, Option.bind_some, Option.map_some, inF, List.any_cons, List.any_nil, eqF, flatD, List.all_cons, List.all_nil, evG, evGs, lenGs, nameG, startG, BT.t, MT.T, asmD, List.map_cons, List.map_nil, List.append_nil, List.cons_append, List.nil_append, List.length_cons, List.length_nil, List.getElem?_cons_zero, List.getElem?_cons_succ, List.set_cons_zero, List.set_cons_succ, List.getD_cons_zero, List.getD_cons_succ, List.replicate_succ, List.replicate_zero, Nat.sub_self, Nat.zero_add, Nat.add_zero, Nat.reduceAdd, Nat.reduceSub, Nat.reduceLeDiff, Bool.not_true, Bool.not_false, Bool.and_true, Bool.true_and, Bool.false_and, Bool.and_false, Bool.or_true, Bool.true_or, Bool.false_or, Bool.or_false, if_true, if_false, true_and, and_true, and_self, decide_eq_true_eq, Bool.false_eq_true, reduceIte, decide_true, decide_false, eq_self, Mn.isNon]
      refine ⟨by decide, (List.range 8).map fun j : Nat => D.int j, fun U k j => ?_, rfl, by decide, fun j d U hd k => ?_, fun U kU hU => ?_⟩
      · show some (if j < 8 then some (D.int (0 + j)) else none) = some _
        rw [List.getElem?_map]
        by_cases hj8 : j < 8
        · rw [List.getElem?_range hj8, if_pos hj8, Int.zero_add]
          rfl
        · rw [List.getElem?_eq_none (by rw [List.length_range]; omega), if_neg hj8]
          rfl
      · rw [List.getElem?_map] at hd
        obtain ⟨j', hj', e⟩ := Option.map_eq_some_iff.mp hd
        obtain ⟨l, e2⟩ := List.getElem?_eq_some_iff.mp hj'
        rw [List.length_range] at l
        rw [List.getElem_range] at e2
        subst e2 e
        try simp only [wipeE, ws_cons, ws_nil, ws_pass, ws_brk, ws_cnt, ws_retN, ws_ret, ws_expr, ws_asg, ws_asgX, ws_put, ws_ifs, ws_for, we_var, we_cst, we_glo, we_bty, we_bin, we_cmp, we_idx, we_chn, we_notq, we_neg, we_boo1, we_and, we_or, we_ite, we_tup, we_lst, we_dic0, we_slc, we_rev, we_bfn, we_own, we_mth, we_fld, we_isx, ws_rse, ws_rsx, ws_try, ws_trym, catP_t, catP_f, optP_some, wa_nil, wa_cons, wo_no, wo_so, wt_pl, wt_no, wt_bo1, wt_and, wt_or, wc_yes, wc_one, wi_seq, wi_rng1, wp_ok, setP_some, setX_some, putP_some, varP_some, blP_bl, truP_some, intP_int, revP_tup, wpO_some, o_slc_t, o_tupP, rpr_bl, t_bl, t_int, o_add_i, o_sub_i, o_mul_i, o_fdiv, o_mod, o_pow, o_lt_i, o_gt_i, o_le_i, o_ge_i, o_eq_i, o_ne_i, o_eq_s, o_ne_s, o_le_s, o_is_n, o_isn_n, o_is_b, o_in_s, o_len_t, o_len_s, o_max, o_min, o_in_t, star_1, consG, nilG, Option.bind_some, Option.map_some, inF, List.any_cons, List.any_nil, eqF, flatD, List.all_cons, List.all_nil, evG, evGs, lenGs, nameG, startG, BT.t, MT.T, asmD, List.map_cons, List.map_nil, List.append_nil, List.cons_append, List.nil_append, List.length_cons, List.length_nil, List.getElem?_cons_zero, List.getElem?_cons_succ, List.set_cons_zero, List.set_cons_succ, List.getD_cons_zero, List.getD_cons_succ, List.replicate_succ, List.replicate_zero, Nat.sub_self, Nat.zero_add, Nat.add_zero, Nat.reduceAdd, Nat.reduceSub, Nat.reduceLeDiff, Bool.not_true, Bool.not_false, Bool.and_true, Bool.true_and, Bool.false_and, Bool.and_false, Bool.or_true, Bool.true_or, Bool.false_or, Bool.or_false, if_true, if_false, true_and, and_true, and_self, decide_eq_true_eq, Bool.false_eq_true, reduceIte, decide_true, decide_false, eq_self, Mn.isNon]
        exact ⟨Kp.refl U, s_raised (n := 8) l ⟨Kp.refl U, rfl⟩⟩
      · have hU : U[T4.length]? = some (.lst (rs x)) := hU
        try simp only [wi_enm, ws_cons, ws_nil, ws_pass, ws_brk, ws_cnt, ws_retN, ws_ret, ws_expr, ws_asg, ws_asgX, ws_put, ws_ifs, ws_for, we_var, we_cst, we_glo, we_bty, we_bin, we_cmp, we_idx, we_chn, we_notq, we_neg, we_boo1, we_and, we_or, we_ite, we_tup, we_lst, we_dic0, we_slc, we_rev, we_bfn, we_own, we_mth, we_fld, we_isx, ws_rse, ws_rsx, ws_try, ws_trym, catP_t, catP_f, optP_some, wa_nil, wa_cons, wo_no, wo_so, wt_pl, wt_no, wt_bo1, wt_and, wt_or, wc_yes, wc_one, wi_seq, wi_rng1, wp_ok, setP_some, setX_some, putP_some, varP_some, blP_bl, truP_some, intP_int, revP_tup, wpO_some, o_slc_t, o_tupP, rpr_bl, t_bl, t_int, o_add_i, o_sub_i, o_mul_i, o_fdiv, o_mod, o_pow, o_lt_i, o_gt_i, o_le_i, o_ge_i, o_eq_i, o_ne_i, o_eq_s, o_ne_s, o_le_s, o_is_n, o_isn_n, o_is_b, o_in_s, o_len_t, o_len_s, o_max, o_min, o_in_t, star_1, consG, nilG, Option.bind_some, Option.map_some, inF, List.any_cons, List.any_nil, eqF, flatD, List.all_cons, List.all_nil, evG, evGs, lenGs, nameG, startG, BT.t, MT.T, asmD, List.map_cons, List.map_nil, List.append_nil, List.cons_append, List.nil_append, List.length_cons, List.length_nil, List.getElem?_cons_zero, List.getElem?_cons_succ, List.set_cons_zero, List.set_cons_succ, List.getD_cons_zero, List.getD_cons_succ, List.replicate_succ, List.replicate_zero, Nat.sub_self, Nat.zero_add, Nat.add_zero, Nat.reduceAdd, Nat.reduceSub, Nat.reduceLeDiff, Bool.not_true, Bool.not_false, Bool.and_true, Bool.true_and, Bool.false_and, Bool.and_false, Bool.or_true, Bool.true_or, Bool.false_or, Bool.or_false, if_true, if_false, true_and, and_true, and_self, decide_eq_true_eq, Bool.false_eq_true, reduceIte, decide_true, decide_false, eq_self, Mn.isNon]
        rw [wp_enm hU]
        refine for_enm (ds := rs x) (fun t e V => ∃ a g h, e = [some (scriptD ns), some (.loc p), a, some (.int i), some (.loc m), some x, some (.loc T4.length), g, h] ∧ V[T4.length]? = some (.lst (rs x)) ∧ Kp T4 V) (fun t e V he => ?_) (fun t e V y hy he => ?_) (fun e V he => ?_) ⟨_, _, _, rfl, hU, kU⟩
        · obtain ⟨_, _, _, _, h1, _⟩ := he
          exact h1
        · obtain ⟨a, g, h, rfl, h1, h2⟩ := he
          obtain ⟨t8, rfl⟩ := rs_at hy
          try simp only [ws_cons, ws_nil, ws_pass, ws_brk, ws_cnt, ws_retN, ws_ret, ws_expr, ws_asg, ws_asgX, ws_put, ws_ifs, ws_for, we_var, we_cst, we_glo, we_bty, we_bin, we_cmp, we_idx, we_chn, we_notq, we_neg, we_boo1, we_and, we_or, we_ite, we_tup, we_lst, we_dic0, we_slc, we_rev, we_bfn, we_own, we_mth, we_fld, we_isx, ws_rse, ws_rsx, ws_try, ws_trym, catP_t, catP_f, optP_some, wa_nil, wa_cons, wo_no, wo_so, wt_pl, wt_no, wt_bo1, wt_and, wt_or, wc_yes, wc_one, wi_seq, wi_rng1, wp_ok, setP_some, setX_some, putP_some, varP_some, blP_bl, truP_some, intP_int, revP_tup, wpO_some, o_slc_t, o_tupP, rpr_bl, t_bl, t_int, o_add_i, o_sub_i, o_mul_i, o_fdiv, o_mod, o_pow, o_lt_i, o_gt_i, o_le_i, o_ge_i, o_eq_i, o_ne_i, o_eq_s, o_ne_s, o_le_s, o_is_n, o_isn_n, o_is_b, o_in_s, o_len_t, o_len_s, o_max, o_min, o_in_t, star_1, consG, nilG, Option.bind_some, Option.map_some, inF, List.any_cons, List.any_nil, eqF, flatD, List.all_cons, List.all_nil, evG, evGs, lenGs, nameG, startG, BT.t, MT.T, asmD, List.map_cons, List.map_nil, List.append_nil, List.cons_append, List.nil_append, List.length_cons, List.length_nil, List.getElem?_cons_zero, List.getElem?_cons_succ, List.set_cons_zero, List.set_cons_succ, List.getD_cons_zero, List.getD_cons_succ, List.replicate_succ, List.replicate_zero, Nat.sub_self, Nat.zero_add, Nat.add_zero, Nat.reduceAdd, Nat.reduceSub, Nat.reduceLeDiff, Bool.not_true, Bool.not_false, Bool.and_true, Bool.true_and, Bool.false_and, Bool.and_false, Bool.or_true, Bool.true_or, Bool.false_or, Bool.or_false, if_true, if_false, true_and, and_true, and_self, decide_eq_true_eq, Bool.false_eq_true, reduceIte, decide_true, decide_false, eq_self, Mn.isNon]
          refine wp_mono (s_kind (n := 8) (show 9 + t < 17 by omega)) ?_
          rintro _ V1 ⟨rfl, k5⟩
          try simp only [ws_cons, ws_nil, ws_pass, ws_brk, ws_cnt, ws_retN, ws_ret, ws_expr, ws_asg, ws_asgX, ws_put, ws_ifs, ws_for, we_var, we_cst, we_glo, we_bty, we_bin, we_cmp, we_idx, we_chn, we_notq, we_neg, we_boo1, we_and, we_or, we_ite, we_tup, we_lst, we_dic0, we_slc, we_rev, we_bfn, we_own, we_mth, we_fld, we_isx, ws_rse, ws_rsx, ws_try, ws_trym, catP_t, catP_f, optP_some, wa_nil, wa_cons, wo_no, wo_so, wt_pl, wt_no, wt_bo1, wt_and, wt_or, wc_yes, wc_one, wi_seq, wi_rng1, wp_ok, setP_some, setX_some, putP_some, varP_some, blP_bl, truP_some, intP_int, revP_tup, wpO_some, o_slc_t, o_tupP, rpr_bl, t_bl, t_int, o_add_i, o_sub_i, o_mul_i, o_fdiv, o_mod, o_pow, o_lt_i, o_gt_i, o_le_i, o_ge_i, o_eq_i, o_ne_i, o_eq_s, o_ne_s, o_le_s, o_is_n, o_isn_n, o_is_b, o_in_s, o_len_t, o_len_s, o_max, o_min, o_in_t, star_1, consG, nilG, Option.bind_some, Option.map_some, inF, List.any_cons, List.any_nil, eqF, flatD, List.all_cons, List.all_nil, evG, evGs, lenGs, nameG, startG, BT.t, MT.T, asmD, List.map_cons, List.map_nil, List.append_nil, List.cons_append, List.nil_append, List.length_cons, List.length_nil, List.getElem?_cons_zero, List.getElem?_cons_succ, List.set_cons_zero, List.set_cons_succ, List.getD_cons_zero, List.getD_cons_succ, List.replicate_succ, List.replicate_zero, Nat.sub_self, Nat.zero_add, Nat.add_zero, Nat.reduceAdd, Nat.reduceSub, Nat.reduceLeDiff, Bool.not_true, Bool.not_false, Bool.and_true, Bool.true_and, Bool.false_and, Bool.and_false, Bool.or_true, Bool.true_or, Bool.false_or, Bool.or_false, if_true, if_false, true_and, and_true, and_self, decide_eq_true_eq, Bool.false_eq_true, reduceIte, decide_true, decide_false, eq_self, Mn.isNon]
          have ei : (9 : Int) + (t : Int) = ((9 + t : Nat) : Int) := by omega
          rw [ei, o_idx (items_loc (k5.at (h2.at hw4))) (wd_at (by omega))]
          try simp only [ws_cons, ws_nil, ws_pass, ws_brk, ws_cnt, ws_retN, ws_ret, ws_expr, ws_asg, ws_asgX, ws_put, ws_ifs, ws_for, we_var, we_cst, we_glo, we_bty, we_bin, we_cmp, we_idx, we_chn, we_notq, we_neg, we_boo1, we_and, we_or, we_ite, we_tup, we_lst, we_dic0, we_slc, we_rev, we_bfn, we_own, we_mth, we_fld, we_isx, ws_rse, ws_rsx, ws_try, ws_trym, catP_t, catP_f, optP_some, wa_nil, wa_cons, wo_no, wo_so, wt_pl, wt_no, wt_bo1, wt_and, wt_or, wc_yes, wc_one, wi_seq, wi_rng1, wp_ok, setP_some, setX_some, putP_some, varP_some, blP_bl, truP_some, intP_int, revP_tup, wpO_some, o_slc_t, o_tupP, rpr_bl, t_bl, t_int, o_add_i, o_sub_i, o_mul_i, o_fdiv, o_mod, o_pow, o_lt_i, o_gt_i, o_le_i, o_ge_i, o_eq_i, o_ne_i, o_eq_s, o_ne_s, o_le_s, o_is_n, o_isn_n, o_is_b, o_in_s, o_len_t, o_len_s, o_max, o_min, o_in_t, star_1, consG, nilG, Option.bind_some, Option.map_some, inF, List.any_cons, List.any_nil, eqF, flatD, List.all_cons, List.all_nil, evG, evGs, lenGs, nameG, startG, BT.t, MT.T, asmD, List.map_cons, List.map_nil, List.append_nil, List.cons_append, List.nil_append, List.length_cons, List.length_nil, List.getElem?_cons_zero, List.getElem?_cons_succ, List.set_cons_zero, List.set_cons_succ, List.getD_cons_zero, List.getD_cons_succ, List.replicate_succ, List.replicate_zero, Nat.sub_self, Nat.zero_add, Nat.add_zero, Nat.reduceAdd, Nat.reduceSub, Nat.reduceLeDiff, Bool.not_true, Bool.not_false, Bool.and_true, Bool.true_and, Bool.false_and, Bool.and_false, Bool.or_true, Bool.true_or, Bool.false_or, Bool.or_false, if_true, if_false, true_and, and_true, and_self, decide_eq_true_eq, Bool.false_eq_true, reduceIte, decide_true, decide_false, eq_self, Mn.isNon]
          refine s_bases (n := 8) (show 9 + t < 17 by omega) ?_
          try simp only [ws_cons, ws_nil, ws_pass, ws_brk, ws_cnt, ws_retN, ws_ret, ws_expr, ws_asg, ws_asgX, ws_put, ws_ifs, ws_for, we_var, we_cst, we_glo, we_bty, we_bin, we_cmp, we_idx, we_chn, we_notq, we_neg, we_boo1, we_and, we_or, we_ite, we_tup, we_lst, we_dic0, we_slc, we_rev, we_bfn, we_own, we_mth, we_fld, we_isx, ws_rse, ws_rsx, ws_try, ws_trym, catP_t, catP_f, optP_some, wa_nil, wa_cons, wo_no, wo_so, wt_pl, wt_no, wt_bo1, wt_and, wt_or, wc_yes, wc_one, wi_seq, wi_rng1, wp_ok, setP_some, setX_some, putP_some, varP_some, blP_bl, truP_some, intP_int, revP_tup, wpO_some, o_slc_t, o_tupP, rpr_bl, t_bl, t_int, o_add_i, o_sub_i, o_mul_i, o_fdiv, o_mod, o_pow, o_lt_i, o_gt_i, o_le_i, o_ge_i, o_eq_i, o_ne_i, o_eq_s, o_ne_s, o_le_s, o_is_n, o_isn_n, o_is_b, o_in_s, o_len_t, o_len_s, o_max, o_min, o_in_t, star_1, consG, nilG, Option.bind_some, Option.map_some, inF, List.any_cons, List.any_nil, eqF, flatD, List.all_cons, List.all_nil, evG, evGs, lenGs, nameG, startG, BT.t, MT.T, asmD, List.map_cons, List.map_nil, List.append_nil, List.cons_append, List.nil_append, List.length_cons, List.length_nil, List.getElem?_cons_zero, List.getElem?_cons_succ, List.set_cons_zero, List.set_cons_succ, List.getD_cons_zero, List.getD_cons_succ, List.replicate_succ, List.replicate_zero, Nat.sub_self, Nat.zero_add, Nat.add_zero, Nat.reduceAdd, Nat.reduceSub, Nat.reduceLeDiff, Bool.not_true, Bool.not_false, Bool.and_true, Bool.true_and, Bool.false_and, Bool.and_false, Bool.or_true, Bool.true_or, Bool.false_or, Bool.or_false, if_true, if_false, true_and, and_true, and_self, decide_eq_true_eq, Bool.false_eq_true, reduceIte, decide_true, decide_false, eq_self, Mn.isNon]
          exact ⟨_, _, _, rfl, k5.at h1, h2.trans k5⟩
        · obtain ⟨a, g, h, rfl, h1, h2⟩ := he
          try simp only [ws_cons, ws_nil, ws_pass, ws_brk, ws_cnt, ws_retN, ws_ret, ws_expr, ws_asg, ws_asgX, ws_put, ws_ifs, ws_for, we_var, we_cst, we_glo, we_bty, we_bin, we_cmp, we_idx, we_chn, we_notq, we_neg, we_boo1, we_and, we_or, we_ite, we_tup, we_lst, we_dic0, we_slc, we_rev, we_bfn, we_own, we_mth, we_fld, we_isx, ws_rse, ws_rsx, ws_try, ws_trym, catP_t, catP_f, optP_some, wa_nil, wa_cons, wo_no, wo_so, wt_pl, wt_no, wt_bo1, wt_and, wt_or, wc_yes, wc_one, wi_seq, wi_rng1, wp_ok, setP_some, setX_some, putP_some, varP_some, blP_bl, truP_some, intP_int, revP_tup, wpO_some, o_slc_t, o_tupP, rpr_bl, t_bl, t_int, o_add_i, o_sub_i, o_mul_i, o_fdiv, o_mod, o_pow, o_lt_i, o_gt_i, o_le_i, o_ge_i, o_eq_i, o_ne_i, o_eq_s, o_ne_s, o_le_s, o_is_n, o_isn_n, o_is_b, o_in_s, o_len_t, o_len_s, o_max, o_min, o_in_t, star_1, consG, nilG, Option.bind_some, Option.map_some, inF, List.any_cons, List.any_nil, eqF, flatD, List.all_cons, List.all_nil, evG, evGs, lenGs, nameG, startG, BT.t, MT.T, asmD, List.map_cons, List.map_nil, List.append_nil, List.cons_append, List.nil_append, List.length_cons, List.length_nil, List.getElem?_cons_zero, List.getElem?_cons_succ, List.set_cons_zero, List.set_cons_succ, List.getD_cons_zero, List.getD_cons_succ, List.replicate_succ, List.replicate_zero, Nat.sub_self, Nat.zero_add, Nat.add_zero, Nat.reduceAdd, Nat.reduceSub, Nat.reduceLeDiff, Bool.not_true, Bool.not_false, Bool.and_true, Bool.true_and, Bool.false_and, Bool.and_false, Bool.or_true, Bool.true_or, Bool.false_or, Bool.or_false, if_true, if_false, true_and, and_true, and_self, decide_eq_true_eq, Bool.false_eq_true, reduceIte, decide_true, decide_false, eq_self, Mn.isNon]
          rw [o_idx (items_loc h1) (x := .exo (xn 9) [fld 0] [x]) rfl, o_fld1 (by decide +kernel)]
          try simp only [ws_cons, ws_nil, ws_pass, ws_brk, ws_cnt, ws_retN, ws_ret, ws_expr, ws_asg, ws_asgX, ws_put, ws_ifs, ws_for, we_var, we_cst, we_glo, we_bty, we_bin, we_cmp, we_idx, we_chn, we_notq, we_neg, we_boo1, we_and, we_or, we_ite, we_tup, we_lst, we_dic0, we_slc, we_rev, we_bfn, we_own, we_mth, we_fld, we_isx, ws_rse, ws_rsx, ws_try, ws_trym, catP_t, catP_f, optP_some, wa_nil, wa_cons, wo_no, wo_so, wt_pl, wt_no, wt_bo1, wt_and, wt_or, wc_yes, wc_one, wi_seq, wi_rng1, wp_ok, setP_some, setX_some, putP_some, varP_some, blP_bl, truP_some, intP_int, revP_tup, wpO_some, o_slc_t, o_tupP, rpr_bl, t_bl, t_int, o_add_i, o_sub_i, o_mul_i, o_fdiv, o_mod, o_pow, o_lt_i, o_gt_i, o_le_i, o_ge_i, o_eq_i, o_ne_i, o_eq_s, o_ne_s, o_le_s, o_is_n, o_isn_n, o_is_b, o_in_s, o_len_t, o_len_s, o_max, o_min, o_in_t, star_1, consG, nilG, Option.bind_some, Option.map_some, inF, List.any_cons, List.any_nil, eqF, flatD, List.all_cons, List.all_nil, evG, evGs, lenGs, nameG, startG, BT.t, MT.T, asmD, List.map_cons, List.map_nil, List.append_nil, List.cons_append, List.nil_append, List.length_cons, List.length_nil, List.getElem?_cons_zero, List.getElem?_cons_succ, List.set_cons_zero, List.set_cons_succ, List.getD_cons_zero, List.getD_cons_succ, List.replicate_succ, List.replicate_zero, Nat.sub_self, Nat.zero_add, Nat.add_zero, Nat.reduceAdd, Nat.reduceSub, Nat.reduceLeDiff, Bool.not_true, Bool.not_false, Bool.and_true, Bool.true_and, Bool.false_and, Bool.and_false, Bool.or_true, Bool.true_or, Bool.false_or, Bool.or_false, if_true, if_false, true_and, and_true, and_self, decide_eq_true_eq, Bool.false_eq_true, reduceIte, decide_true, decide_false, eq_self, Mn.isNon]
          rw [o_idx (items_loc h1) (x := .exo (xn 10) [fld 1] [x]) rfl, o_fld1 (by decide +kernel)]
          try simp only [ws_cons, ws_nil, ws_pass, ws_brk, ws_cnt, ws_retN, ws_ret, ws_expr, ws_asg, ws_asgX, ws_put, ws_ifs, ws_for, we_var, we_cst, we_glo, we_bty, we_bin, we_cmp, we_idx, we_chn, we_notq, we_neg, we_boo1, we_and, we_or, we_ite, we_tup, we_lst, we_dic0, we_slc, we_rev, we_bfn, we_own, we_mth, we_fld, we_isx, ws_rse, ws_rsx, ws_try, ws_trym, catP_t, catP_f, optP_some, wa_nil, wa_cons, wo_no, wo_so, wt_pl, wt_no, wt_bo1, wt_and, wt_or, wc_yes, wc_one, wi_seq, wi_rng1, wp_ok, setP_some, setX_some, putP_some, varP_some, blP_bl, truP_some, intP_int, revP_tup, wpO_some, o_slc_t, o_tupP, rpr_bl, t_bl, t_int, o_add_i, o_sub_i, o_mul_i, o_fdiv, o_mod, o_pow, o_lt_i, o_gt_i, o_le_i, o_ge_i, o_eq_i, o_ne_i, o_eq_s, o_ne_s, o_le_s, o_is_n, o_isn_n, o_is_b, o_in_s, o_len_t, o_len_s, o_max, o_min, o_in_t, star_1, consG, nilG, Option.bind_some, Option.map_some, inF, List.any_cons, List.any_nil, eqF, flatD, List.all_cons, List.all_nil, evG, evGs, lenGs, nameG, startG, BT.t, MT.T, asmD, List.map_cons, List.map_nil, List.append_nil, List.cons_append, List.nil_append, List.length_cons, List.length_nil, List.getElem?_cons_zero, List.getElem?_cons_succ, List.set_cons_zero, List.set_cons_succ, List.getD_cons_zero, List.getD_cons_succ, List.replicate_succ, List.replicate_zero, Nat.sub_self, Nat.zero_add, Nat.add_zero, Nat.reduceAdd, Nat.reduceSub, Nat.reduceLeDiff, Bool.not_true, Bool.not_false, Bool.and_true, Bool.true_and, Bool.false_and, Bool.and_false, Bool.or_true, Bool.true_or, Bool.false_or, Bool.or_false, if_true, if_false, true_and, and_true, and_self, decide_eq_true_eq, Bool.false_eq_true, reduceIte, decide_true, decide_false, eq_self, Mn.isNon]
          rw [o_idx (items_loc h1) (x := .exo (xn 11) [fld 2] [x]) rfl, o_fld1 (by decide +kernel)]
          try simp only [ws_cons, ws_nil, ws_pass, ws_brk, ws_cnt, ws_retN, ws_ret, ws_expr, ws_asg, ws_asgX, ws_put, ws_ifs, ws_for, we_var, we_cst, we_glo, we_bty, we_bin, we_cmp, we_idx, we_chn, we_notq, we_neg, we_boo1, we_and, we_or, we_ite, we_tup, we_lst, we_dic0, we_slc, we_rev, we_bfn, we_own, we_mth, we_fld, we_isx, ws_rse, ws_rsx, ws_try, ws_trym, catP_t, catP_f, optP_some, wa_nil, wa_cons, wo_no, wo_so, wt_pl, wt_no, wt_bo1, wt_and, wt_or, wc_yes, wc_one, wi_seq, wi_rng1, wp_ok, setP_some, setX_some, putP_some, varP_some, blP_bl, truP_some, intP_int, revP_tup, wpO_some, o_slc_t, o_tupP, rpr_bl, t_bl, t_int, o_add_i, o_sub_i, o_mul_i, o_fdiv, o_mod, o_pow, o_lt_i, o_gt_i, o_le_i, o_ge_i, o_eq_i, o_ne_i, o_eq_s, o_ne_s, o_le_s, o_is_n, o_isn_n, o_is_b, o_in_s, o_len_t, o_len_s, o_max, o_min, o_in_t, star_1, consG, nilG, Option.bind_some, Option.map_some, inF, List.any_cons, List.any_nil, eqF, flatD, List.all_cons, List.all_nil, evG, evGs, lenGs, nameG, startG, BT.t, MT.T, asmD, List.map_cons, List.map_nil, List.append_nil, List.cons_append, List.nil_append, List.length_cons, List.length_nil, List.getElem?_cons_zero, List.getElem?_cons_succ, List.set_cons_zero, List.set_cons_succ, List.getD_cons_zero, List.getD_cons_succ, List.replicate_succ, List.replicate_zero, Nat.sub_self, Nat.zero_add, Nat.add_zero, Nat.reduceAdd, Nat.reduceSub, Nat.reduceLeDiff, Bool.not_true, Bool.not_false, Bool.and_true, Bool.true_and, Bool.false_and, Bool.and_false, Bool.or_true, Bool.true_or, Bool.false_or, Bool.or_false, if_true, if_false, true_and, and_true, and_self, decide_eq_true_eq, Bool.false_eq_true, reduceIte, decide_true, decide_false, eq_self, Mn.isNon]
          rw [o_idx (items_loc h1) (x := .exo (xn 12) [fld 3] [x]) rfl, o_fld1 (by decide +kernel)]
          try simp only [ws_cons, ws_nil, ws_pass, ws_brk, ws_cnt, ws_retN, ws_ret, ws_expr, ws_asg, ws_asgX, ws_put, ws_ifs, ws_for, we_var, we_cst, we_glo, we_bty, we_bin, we_cmp, we_idx, we_chn, we_notq, we_neg, we_boo1, we_and, we_or, we_ite, we_tup, we_lst, we_dic0, we_slc, we_rev, we_bfn, we_own, we_mth, we_fld, we_isx, ws_rse, ws_rsx, ws_try, ws_trym, catP_t, catP_f, optP_some, wa_nil, wa_cons, wo_no, wo_so, wt_pl, wt_no, wt_bo1, wt_and, wt_or, wc_yes, wc_one, wi_seq, wi_rng1, wp_ok, setP_some, setX_some, putP_some, varP_some, blP_bl, truP_some, intP_int, revP_tup, wpO_some, o_slc_t, o_tupP, rpr_bl, t_bl, t_int, o_add_i, o_sub_i, o_mul_i, o_fdiv, o_mod, o_pow, o_lt_i, o_gt_i, o_le_i, o_ge_i, o_eq_i, o_ne_i, o_eq_s, o_ne_s, o_le_s, o_is_n, o_isn_n, o_is_b, o_in_s, o_len_t, o_len_s, o_max, o_min, o_in_t, star_1, consG, nilG, Option.bind_some, Option.map_some, inF, List.any_cons, List.any_nil, eqF, flatD, List.all_cons, List.all_nil, evG, evGs, lenGs, nameG, startG, BT.t, MT.T, asmD, List.map_cons, List.map_nil, List.append_nil, List.cons_append, List.nil_append, List.length_cons, List.length_nil, List.getElem?_cons_zero, List.getElem?_cons_succ, List.set_cons_zero, List.set_cons_succ, List.getD_cons_zero, List.getD_cons_succ, List.replicate_succ, List.replicate_zero, Nat.sub_self, Nat.zero_add, Nat.add_zero, Nat.reduceAdd, Nat.reduceSub, Nat.reduceLeDiff, Bool.not_true, Bool.not_false, Bool.and_true, Bool.true_and, Bool.false_and, Bool.and_false, Bool.or_true, Bool.true_or, Bool.false_or, Bool.or_false, if_true, if_false, true_and, and_true, and_self, decide_eq_true_eq, Bool.false_eq_true, reduceIte, decide_true, decide_false, eq_self, Mn.isNon]
          rw [o_idx (items_loc h1) (x := .exo (xn 13) [fld 4] [x]) rfl, o_fld1 (by decide +kernel)]
          try simp only [ws_cons, ws_nil, ws_pass, ws_brk, ws_cnt, ws_retN, ws_ret, ws_expr, ws_asg, ws_asgX, ws_put, ws_ifs, ws_for, we_var, we_cst, we_glo, we_bty, we_bin, we_cmp, we_idx, we_chn, we_notq, we_neg, we_boo1, we_and, we_or, we_ite, we_tup, we_lst, we_dic0, we_slc, we_rev, we_bfn, we_own, we_mth, we_fld, we_isx, ws_rse, ws_rsx, ws_try, ws_trym, catP_t, catP_f, optP_some, wa_nil, wa_cons, wo_no, wo_so, wt_pl, wt_no, wt_bo1, wt_and, wt_or, wc_yes, wc_one, wi_seq, wi_rng1, wp_ok, setP_some, setX_some, putP_some, varP_some, blP_bl, truP_some, intP_int, revP_tup, wpO_some, o_slc_t, o_tupP, rpr_bl, t_bl, t_int, o_add_i, o_sub_i, o_mul_i, o_fdiv, o_mod, o_pow, o_lt_i, o_gt_i, o_le_i, o_ge_i, o_eq_i, o_ne_i, o_eq_s, o_ne_s, o_le_s, o_is_n, o_isn_n, o_is_b, o_in_s, o_len_t, o_len_s, o_max, o_min, o_in_t, star_1, consG, nilG, Option.bind_some, Option.map_some, inF, List.any_cons, List.any_nil, eqF, flatD, List.all_cons, List.all_nil, evG, evGs, lenGs, nameG, startG, BT.t, MT.T, asmD, List.map_cons, List.map_nil, List.append_nil, List.cons_append, List.nil_append, List.length_cons, List.length_nil, List.getElem?_cons_zero, List.getElem?_cons_succ, List.set_cons_zero, List.set_cons_succ, List.getD_cons_zero, List.getD_cons_succ, List.replicate_succ, List.replicate_zero, Nat.sub_self, Nat.zero_add, Nat.add_zero, Nat.reduceAdd, Nat.reduceSub, Nat.reduceLeDiff, Bool.not_true, Bool.not_false, Bool.and_true, Bool.true_and, Bool.false_and, Bool.and_false, Bool.or_true, Bool.true_or, Bool.false_or, Bool.or_false, if_true, if_false, true_and, and_true, and_self, decide_eq_true_eq, Bool.false_eq_true, reduceIte, decide_true, decide_false, eq_self, Mn.isNon]
          rw [o_idx (items_loc h1) (x := .exo (xn 14) [fld 5] [x]) rfl, o_fld1 (by decide +kernel)]
          try simp only [ws_cons, ws_nil, ws_pass, ws_brk, ws_cnt, ws_retN, ws_ret, ws_expr, ws_asg, ws_asgX, ws_put, ws_ifs, ws_for, we_var, we_cst, we_glo, we_bty, we_bin, we_cmp, we_idx, we_chn, we_notq, we_neg, we_boo1, we_and, we_or, we_ite, we_tup, we_lst, we_dic0, we_slc, we_rev, we_bfn, we_own, we_mth, we_fld, we_isx, ws_rse, ws_rsx, ws_try, ws_trym, catP_t, catP_f, optP_some, wa_nil, wa_cons, wo_no, wo_so, wt_pl, wt_no, wt_bo1, wt_and, wt_or, wc_yes, wc_one, wi_seq, wi_rng1, wp_ok, setP_some, setX_some, putP_some, varP_some, blP_bl, truP_some, intP_int, revP_tup, wpO_some, o_slc_t, o_tupP, rpr_bl, t_bl, t_int, o_add_i, o_sub_i, o_mul_i, o_fdiv, o_mod, o_pow, o_lt_i, o_gt_i, o_le_i, o_ge_i, o_eq_i, o_ne_i, o_eq_s, o_ne_s, o_le_s, o_is_n, o_isn_n, o_is_b, o_in_s, o_len_t, o_len_s, o_max, o_min, o_in_t, star_1, consG, nilG, Option.bind_some, Option.map_some, inF, List.any_cons, List.any_nil, eqF, flatD, List.all_cons, List.all_nil, evG, evGs, lenGs, nameG, startG, BT.t, MT.T, asmD, List.map_cons, List.map_nil, List.append_nil, List.cons_append, List.nil_append, List.length_cons, List.length_nil, List.getElem?_cons_zero, List.getElem?_cons_succ, List.set_cons_zero, List.set_cons_succ, List.getD_cons_zero, List.getD_cons_succ, List.replicate_succ, List.replicate_zero, Nat.sub_self, Nat.zero_add, Nat.add_zero, Nat.reduceAdd, Nat.reduceSub, Nat.reduceLeDiff, Bool.not_true, Bool.not_false, Bool.and_true, Bool.true_and, Bool.false_and, Bool.and_false, Bool.or_true, Bool.true_or, Bool.false_or, Bool.or_false, if_true, if_false, true_and, and_true, and_self, decide_eq_true_eq, Bool.false_eq_true, reduceIte, decide_true, decide_false, eq_self, Mn.isNon]
          refine ⟨by decide, ?_⟩
          have h6 : (V ++ [Cell.lst [x, x, x, x, x, x]])[T4.length]? = some (.lst (rs x)) := (Kp.push V _).at h1
          rw [o_idx (items_loc h6) (x := .exo (xn 15) [fld 6] [x]) rfl, o_fld1 (by decide +kernel), o_idx (items_loc h6) (x := .exo (xn 16) [fld 7] [x]) rfl, o_fld1 (by decide +kernel)]
          refine ⟨by decide, a_ap (push_at V _) (by simp) fun p' V2 h7 k7 => ?_⟩
          obtain ⟨z, hz⟩ := rpr8 one
          have kV2 : Kp T4 V2 := (h2.trans (Kp.push V _)).trans k7
          rw [o_rpr (hz V2 p' kV2 h7)]
          refine ⟨by decide, ?_⟩
          rw [o_rep8]
          have kV3 : Kp T4 (V2 ++ [Cell.lst [x]] ++ [Cell.lst (List.replicate 8 x)]) := (kV2.trans (Kp.push V2 _)).trans (Kp.push _ _)
          rw [o_rpr (hz _ _ kV3 (push_at _ _))]
          try simp only [ws_cons, ws_nil, ws_pass, ws_brk, ws_cnt, ws_retN, ws_ret, ws_expr, ws_asg, ws_asgX, ws_put, ws_ifs, ws_for, we_var, we_cst, we_glo, we_bty, we_bin, we_cmp, we_idx, we_chn, we_notq, we_neg, we_boo1, we_and, we_or, we_ite, we_tup, we_lst, we_dic0, we_slc, we_rev, we_bfn, we_own, we_mth, we_fld, we_isx, ws_rse, ws_rsx, ws_try, ws_trym, catP_t, catP_f, optP_some, wa_nil, wa_cons, wo_no, wo_so, wt_pl, wt_no, wt_bo1, wt_and, wt_or, wc_yes, wc_one, wi_seq, wi_rng1, wp_ok, setP_some, setX_some, putP_some, varP_some, blP_bl, truP_some, intP_int, revP_tup, wpO_some, o_slc_t, o_tupP, rpr_bl, t_bl, t_int, o_add_i, o_sub_i, o_mul_i, o_fdiv, o_mod, o_pow, o_lt_i, o_gt_i, o_le_i, o_ge_i, o_eq_i, o_ne_i, o_eq_s, o_ne_s, o_le_s, o_is_n, o_isn_n, o_is_b, o_in_s, o_len_t, o_len_s, o_max, o_min, o_in_t, star_1, consG, nilG, Option.bind_some, Option.map_some, inF, List.any_cons, List.any_nil, eqF, flatD, List.all_cons, List.all_nil, evG, evGs, lenGs, nameG, startG, BT.t, MT.T, asmD, List.map_cons, List.map_nil, List.append_nil, List.cons_append, List.nil_append, List.length_cons, List.length_nil, List.getElem?_cons_zero, List.getElem?_cons_succ, List.set_cons_zero, List.set_cons_succ, List.getD_cons_zero, List.getD_cons_succ, List.replicate_succ, List.replicate_zero, Nat.sub_self, Nat.zero_add, Nat.add_zero, Nat.reduceAdd, Nat.reduceSub, Nat.reduceLeDiff, Bool.not_true, Bool.not_false, Bool.and_true, Bool.true_and, Bool.false_and, Bool.and_false, Bool.or_true, Bool.true_or, Bool.false_or, Bool.or_false, if_true, if_false, true_and, and_true, and_self, decide_eq_true_eq, Bool.false_eq_true, reduceIte, decide_true, decide_false, eq_self, Mn.isNon]
          exact ⟨_, _, _, _, _, _, _, rfl, kV3.at hw4⟩
    · trivial
end K02

namespace K02
open PySem PySem.Spec PyProof.Rows L2 Mn
/-! the head, printed by gen.py -/
def top (i : Nat) : Stmt := PySem.Challenge.pw_trueheads_k02_refusals_apart.main.body.getD i (.Pass ⟨0, 0, 0, 0⟩)
def topM (i j : Nat) : Stmt := match top i with | .ClassDef _ _ _ b _ _ _ _ _ _ _ => b.getD j (.Pass ⟨0, 0, 0, 0⟩) | _ => .Pass ⟨0, 0, 0, 0⟩
def d__law_cell_at : He.DefD := ⟨("_law_cell_at", none), "_law_cell_at", "_law_cell_at", defArgs (top 20), defBody (top 20), defScope (top 20), [], []⟩
def d__law_pool : He.DefD := ⟨("_law_pool", none), "_law_pool", "_law_pool", defArgs (top 21), defBody (top 21), defScope (top 21), [], []⟩
def d__law_take : He.DefD := ⟨("_law_take", none), "_law_take", "_law_take", defArgs (top 22), defBody (top 22), defScope (top 22), [], []⟩
def d__law_kind : He.DefD := ⟨("_law_kind", none), "_law_kind", "_law_kind", defArgs (top 23), defBody (top 23), defScope (top 23), [], []⟩
def d__law_raised : He.DefD := ⟨("_law_raised", none), "_law_raised", "_law_raised", defArgs (top 24), defBody (top 24), defScope (top 24), [], []⟩
def d__law_texts : He.DefD := ⟨("_law_texts", none), "_law_texts", "_law_texts", defArgs (top 25), defBody (top 25), defScope (top 25), [], []⟩
def d__law_bases : He.DefD := ⟨("_law_bases", none), "_law_bases", "_law_bases", defArgs (top 26), defBody (top 26), defScope (top 26), [], []⟩
def d_law : He.DefD := ⟨("law", none), "law", "law", defArgs (top 27), defBody (top 27), defScope (top 27), [], []⟩
def dx_TooMany : He.DefD := ⟨("TooMany", some "__init__"), "__init__", "TooMany.__init__", defArgs (topM 18 0), defBody (topM 18 0), defScope (topM 18 0), [], []⟩
def dx_Forged : He.DefD := ⟨("Forged", some "__init__"), "__init__", "Forged.__init__", defArgs (topM 17 0), defBody (topM 17 0), defScope (topM 17 0), [], []⟩
def dx_Busy : He.DefD := ⟨("Busy", some "__init__"), "__init__", "Busy.__init__", defArgs (topM 16 0), defBody (topM 16 0), defScope (topM 16 0), [], []⟩
def dx_NoHouse : He.DefD := ⟨("NoHouse", some "__init__"), "__init__", "NoHouse.__init__", defArgs (topM 15 0), defBody (topM 15 0), defScope (topM 15 0), [], []⟩
def dx_NoAsker : He.DefD := ⟨("NoAsker", some "__init__"), "__init__", "NoAsker.__init__", defArgs (topM 14 0), defBody (topM 14 0), defScope (topM 14 0), [], []⟩
def dx_NoText : He.DefD := ⟨("NoText", some "__init__"), "__init__", "NoText.__init__", defArgs (topM 13 0), defBody (topM 13 0), defScope (topM 13 0), [], []⟩
def dx_NoWeaving : He.DefD := ⟨("NoWeaving", some "__init__"), "__init__", "NoWeaving.__init__", defArgs (topM 12 0), defBody (topM 12 0), defScope (topM 12 0), [], []⟩
def dx_NoNumber : He.DefD := ⟨("NoNumber", some "__init__"), "__init__", "NoNumber.__init__", defArgs (topM 11 0), defBody (topM 11 0), defScope (topM 11 0), [], []⟩
def ds : List He.DefD := [d__law_cell_at, d__law_pool, d__law_take, d__law_kind, d__law_raised, d__law_texts, d__law_bases, d_law, dx_TooMany, dx_Forged, dx_Busy, dx_NoHouse, dx_NoAsker, dx_NoText, dx_NoWeaving, dx_NoNumber]
def fa : List He.Fa := [.glo "_law_cell_at", .glo "_law_pool", .glo "_law_take", .glo "_law_kind", .glo "_law_raised", .glo "_law_texts", .glo "_law_bases", .glo "law", .free "len", .free "tuple", .free "list", .free "all", .free "any", .free "max", .free "min", .free "abs", .free "isinstance", .free "repr", .free "int", .free "bool", .free "str", .free "dict", .free "range", .free "enumerate", .free "zip", .glo "NoKind", .exc "NoKind", .glo "NoWorld", .exc "NoWorld", .glo "NoRow", .exc "NoRow", .glo "NoAsk", .exc "NoAsk", .glo "NoDeed", .exc "NoDeed", .glo "NoBegin", .exc "NoBegin", .glo "NoLetter", .exc "NoLetter", .glo "NoState", .exc "NoState", .glo "NoMembers", .exc "NoMembers", .glo "NoText", .glo "NoWeaving", .glo "NoNumber", .glo "Busy", .glo "NoHouse", .glo "NoAsker", .glo "TooMany", .glo "Forged", .glo "HeadError", .free "KeyError", .free "ValueError", .free "LookupError", .free "RuntimeError", .free "IndexError", .free "OverflowError"]
abbrev R : PySem.W.OpenRow := PySem.W.OpenLaw.row PySem.Challenge.rw_trueheads_k02_refusals_apart
abbrev hk : PySem.W.Hook := hookS 5 fa ds (exG G)
def ob (s : PySem.W.SharedT) : AlS := obsS 5 fa ds (exG G) (HandSHeadRun.getT s)
theorem ob_eq (s : PySem.W.SharedT) : ob s = hk.obs s.abs := obsS_eq (HandSHeadRun.getT_eq s)
def loose : List Str := (["HeadError", "NoMembers", "NoState", "NoLetter", "NoBegin", "NoDeed", "NoAsk", "NoRow", "NoWorld", "NoKind", "NoNumber", "NoWeaving", "NoText", "NoAsker", "NoHouse", "Busy", "Forged", "TooMany", "_law_cell_at", "_law_pool", "_law_take", "_law_kind", "_law_raised", "_law_texts", "_law_bases"] : List Str)
theorem run (w : World) : HandSHeadRun.RunEq R (PySem.W.view R.prog [27]) hk ob 6000 loose w := by
  intro os
  kernel_rfl
theorem gl_ok : glfL G fa = true := by kernel_rfl
section
variable {P : Program} {w : World} {K : PySem.W.Frag} {h : Heap} {mg : Str → Option Value}
theorem lk__law_cell_at (c : He.SaysD fa ds K) (X : K.In h) (Gn : h.Ns mainGlobals mg) : FnLk P K mg G f__law_cell_at := by
  refine lk_of c X Gn 0 f__law_cell_at _ _ _ _ _ _ rfl (show ds[0]? = some d__law_cell_at from rfl) (List.mem_of_getElem? (i := 0) rfl) (by kernel_rfl) fun a fd F => ?_
  exact List.forall_mem_cons.mpr ⟨(shp0 (n := 2) (ks := []) (is := [.p 0, .p 1]) F rfl rfl fun _ _ _ _ _ _ us ws l1 l2 => match us, ws, l1, l2 with | [_, _], [], _, _ => rfl), fun _ hq => by cases hq⟩
theorem lk__law_pool (c : He.SaysD fa ds K) (X : K.In h) (Gn : h.Ns mainGlobals mg) : FnLk P K mg G f__law_pool := by
  refine lk_of c X Gn 1 f__law_pool _ _ _ _ _ _ rfl (show ds[1]? = some d__law_pool from rfl) (List.mem_of_getElem? (i := 1) rfl) (by kernel_rfl) fun a fd F => ?_
  exact List.forall_mem_cons.mpr ⟨(shp0 (n := 2) (ks := []) (is := [.p 0, .p 1]) F rfl rfl fun _ _ _ _ _ _ us ws l1 l2 => match us, ws, l1, l2 with | [_, _], [], _, _ => rfl), fun _ hq => by cases hq⟩
theorem lk__law_take (c : He.SaysD fa ds K) (X : K.In h) (Gn : h.Ns mainGlobals mg) : FnLk P K mg G f__law_take := by
  refine lk_of c X Gn 2 f__law_take _ _ _ _ _ _ rfl (show ds[2]? = some d__law_take from rfl) (List.mem_of_getElem? (i := 2) rfl) (by kernel_rfl) fun a fd F => ?_
  exact List.forall_mem_cons.mpr ⟨(shp0 (n := 2) (ks := []) (is := [.p 0, .p 1]) F rfl rfl fun _ _ _ _ _ _ us ws l1 l2 => match us, ws, l1, l2 with | [_, _], [], _, _ => rfl), fun _ hq => by cases hq⟩
theorem lk__law_kind (c : He.SaysD fa ds K) (X : K.In h) (Gn : h.Ns mainGlobals mg) : FnLk P K mg G f__law_kind := by
  refine lk_of c X Gn 3 f__law_kind _ _ _ _ _ _ rfl (show ds[3]? = some d__law_kind from rfl) (List.mem_of_getElem? (i := 3) rfl) (by kernel_rfl) fun a fd F => ?_
  exact List.forall_mem_cons.mpr ⟨(shp0 (n := 1) (ks := []) (is := [.p 0]) F rfl rfl fun _ _ _ _ _ _ us ws l1 l2 => match us, ws, l1, l2 with | [_], [], _, _ => rfl), fun _ hq => by cases hq⟩
theorem lk__law_raised (c : He.SaysD fa ds K) (X : K.In h) (Gn : h.Ns mainGlobals mg) : FnLk P K mg G f__law_raised := by
  refine lk_of c X Gn 4 f__law_raised _ _ _ _ _ _ rfl (show ds[4]? = some d__law_raised from rfl) (List.mem_of_getElem? (i := 4) rfl) (by kernel_rfl) fun a fd F => ?_
  exact List.forall_mem_cons.mpr ⟨(shp0 (n := 2) (ks := []) (is := [.p 0, .p 1]) F rfl rfl fun _ _ _ _ _ _ us ws l1 l2 => match us, ws, l1, l2 with | [_, _], [], _, _ => rfl), fun _ hq => by cases hq⟩
theorem lk__law_texts (c : He.SaysD fa ds K) (X : K.In h) (Gn : h.Ns mainGlobals mg) : FnLk P K mg G f__law_texts := by
  refine lk_of c X Gn 5 f__law_texts _ _ _ _ _ _ rfl (show ds[5]? = some d__law_texts from rfl) (List.mem_of_getElem? (i := 5) rfl) (by kernel_rfl) fun a fd F => ?_
  exact List.forall_mem_cons.mpr ⟨(shp0 (n := 1) (ks := []) (is := [.p 0]) F rfl rfl fun _ _ _ _ _ _ us ws l1 l2 => match us, ws, l1, l2 with | [_], [], _, _ => rfl), fun _ hq => by cases hq⟩
theorem lk__law_bases (c : He.SaysD fa ds K) (X : K.In h) (Gn : h.Ns mainGlobals mg) : FnLk P K mg G f__law_bases := by
  refine lk_of c X Gn 6 f__law_bases _ _ _ _ _ _ rfl (show ds[6]? = some d__law_bases from rfl) (List.mem_of_getElem? (i := 6) rfl) (by kernel_rfl) fun a fd F => ?_
  exact List.forall_mem_cons.mpr ⟨(shp0 (n := 2) (ks := []) (is := [.p 0, .p 1]) F rfl rfl fun _ _ _ _ _ _ us ws l1 l2 => match us, ws, l1, l2 with | [_, _], [], _, _ => rfl), fun _ hq => by cases hq⟩
theorem lk_law (c : He.SaysD fa ds K) (X : K.In h) (Gn : h.Ns mainGlobals mg) : FnLk P K mg G f_law := by
  refine lk_of c X Gn 7 f_law _ _ _ _ _ _ rfl (show ds[7]? = some d_law from rfl) (List.mem_of_getElem? (i := 7) rfl) (by kernel_rfl) fun a fd F => ?_
  exact List.forall_mem_cons.mpr ⟨(shp0 (n := 1) (ks := []) (is := [.p 0]) F rfl rfl fun _ _ _ _ _ _ us ws l1 l2 => match us, ws, l1, l2 with | [_], [], _, _ => rfl), fun _ hq => by cases hq⟩
theorem rx_TooMany (c : He.SaysD fa ds K) (hx : exG G K = true) (X : K.In h) (Gn : h.Ns mainGlobals mg) : ∀ w base, RsxF P w K mg base ⟨"TooMany", "many", .O, "OverflowError"⟩ :=
  rsx_of c X Gn hx ⟨"TooMany", "many", .O, "OverflowError"⟩ (List.mem_of_getElem? (i := 0) rfl) 8 "self" "many" _ _ _ _ (show ds[8]? = some dx_TooMany from rfl) (by kernel_rfl) (by kernel_rfl) fun a fd F => (shp0 (n := 2) (ks := []) (is := [.p 0, .p 1]) F rfl rfl fun _ _ _ _ _ _ us ws l1 l2 => match us, ws, l1, l2 with | [_, _], [], _, _ => rfl)
theorem rx_Forged (c : He.SaysD fa ds K) (hx : exG G K = true) (X : K.In h) (Gn : h.Ns mainGlobals mg) : ∀ w base, RsxF P w K mg base ⟨"Forged", "letter", .L, "LookupError"⟩ :=
  rsx_of c X Gn hx ⟨"Forged", "letter", .L, "LookupError"⟩ (List.mem_of_getElem? (i := 1) rfl) 9 "self" "letter" _ _ _ _ (show ds[9]? = some dx_Forged from rfl) (by kernel_rfl) (by kernel_rfl) fun a fd F => (shp0 (n := 2) (ks := []) (is := [.p 0, .p 1]) F rfl rfl fun _ _ _ _ _ _ us ws l1 l2 => match us, ws, l1, l2 with | [_, _], [], _, _ => rfl)
theorem rx_Busy (c : He.SaysD fa ds K) (hx : exG G K = true) (X : K.In h) (Gn : h.Ns mainGlobals mg) : ∀ w base, RsxF P w K mg base ⟨"Busy", "asker", .R, "RuntimeError"⟩ :=
  rsx_of c X Gn hx ⟨"Busy", "asker", .R, "RuntimeError"⟩ (List.mem_of_getElem? (i := 2) rfl) 10 "self" "asker" _ _ _ _ (show ds[10]? = some dx_Busy from rfl) (by kernel_rfl) (by kernel_rfl) fun a fd F => (shp0 (n := 2) (ks := []) (is := [.p 0, .p 1]) F rfl rfl fun _ _ _ _ _ _ us ws l1 l2 => match us, ws, l1, l2 with | [_, _], [], _, _ => rfl)
theorem rx_NoHouse (c : He.SaysD fa ds K) (hx : exG G K = true) (X : K.In h) (Gn : h.Ns mainGlobals mg) : ∀ w base, RsxF P w K mg base ⟨"NoHouse", "house", .K, "KeyError"⟩ :=
  rsx_of c X Gn hx ⟨"NoHouse", "house", .K, "KeyError"⟩ (List.mem_of_getElem? (i := 3) rfl) 11 "self" "house" _ _ _ _ (show ds[11]? = some dx_NoHouse from rfl) (by kernel_rfl) (by kernel_rfl) fun a fd F => (shp0 (n := 2) (ks := []) (is := [.p 0, .p 1]) F rfl rfl fun _ _ _ _ _ _ us ws l1 l2 => match us, ws, l1, l2 with | [_, _], [], _, _ => rfl)
theorem rx_NoAsker (c : He.SaysD fa ds K) (hx : exG G K = true) (X : K.In h) (Gn : h.Ns mainGlobals mg) : ∀ w base, RsxF P w K mg base ⟨"NoAsker", "asker", .V, "HeadError"⟩ :=
  rsx_of c X Gn hx ⟨"NoAsker", "asker", .V, "HeadError"⟩ (List.mem_of_getElem? (i := 4) rfl) 12 "self" "asker" _ _ _ _ (show ds[12]? = some dx_NoAsker from rfl) (by kernel_rfl) (by kernel_rfl) fun a fd F => (shp0 (n := 2) (ks := []) (is := [.p 0, .p 1]) F rfl rfl fun _ _ _ _ _ _ us ws l1 l2 => match us, ws, l1, l2 with | [_, _], [], _, _ => rfl)
theorem rx_NoText (c : He.SaysD fa ds K) (hx : exG G K = true) (X : K.In h) (Gn : h.Ns mainGlobals mg) : ∀ w base, RsxF P w K mg base ⟨"NoText", "row", .V, "HeadError"⟩ :=
  rsx_of c X Gn hx ⟨"NoText", "row", .V, "HeadError"⟩ (List.mem_of_getElem? (i := 5) rfl) 13 "self" "row" _ _ _ _ (show ds[13]? = some dx_NoText from rfl) (by kernel_rfl) (by kernel_rfl) fun a fd F => (shp0 (n := 2) (ks := []) (is := [.p 0, .p 1]) F rfl rfl fun _ _ _ _ _ _ us ws l1 l2 => match us, ws, l1, l2 with | [_, _], [], _, _ => rfl)
theorem rx_NoWeaving (c : He.SaysD fa ds K) (hx : exG G K = true) (X : K.In h) (Gn : h.Ns mainGlobals mg) : ∀ w base, RsxF P w K mg base ⟨"NoWeaving", "number", .V, "HeadError"⟩ :=
  rsx_of c X Gn hx ⟨"NoWeaving", "number", .V, "HeadError"⟩ (List.mem_of_getElem? (i := 6) rfl) 14 "self" "number" _ _ _ _ (show ds[14]? = some dx_NoWeaving from rfl) (by kernel_rfl) (by kernel_rfl) fun a fd F => (shp0 (n := 2) (ks := []) (is := [.p 0, .p 1]) F rfl rfl fun _ _ _ _ _ _ us ws l1 l2 => match us, ws, l1, l2 with | [_, _], [], _, _ => rfl)
theorem rx_NoNumber (c : He.SaysD fa ds K) (hx : exG G K = true) (X : K.In h) (Gn : h.Ns mainGlobals mg) : ∀ w base, RsxF P w K mg base ⟨"NoNumber", "number", .V, "HeadError"⟩ :=
  rsx_of c X Gn hx ⟨"NoNumber", "number", .V, "HeadError"⟩ (List.mem_of_getElem? (i := 7) rfl) 15 "self" "number" _ _ _ _ (show ds[15]? = some dx_NoNumber from rfl) (by kernel_rfl) (by kernel_rfl) fun a fd F => (shp0 (n := 2) (ks := []) (is := [.p 0, .p 1]) F rfl rfl fun _ _ _ _ _ _ us ws l1 l2 => match us, ws, l1, l2 with | [_, _], [], _, _ => rfl)
theorem glo_of (c : He.SaysD fa ds K) (hx : exG G K = true) (X : K.In h) (Gn : h.Ns mainGlobals mg) : GloOk P ⟨K, mg, P, w⟩ G := by
  refine ⟨(List.forall_mem_cons.mpr ⟨lk__law_cell_at c X Gn, List.forall_mem_cons.mpr ⟨lk__law_pool c X Gn, List.forall_mem_cons.mpr ⟨lk__law_take c X Gn, List.forall_mem_cons.mpr ⟨lk__law_kind c X Gn, List.forall_mem_cons.mpr ⟨lk__law_raised c X Gn, List.forall_mem_cons.mpr ⟨lk__law_texts c X Gn, List.forall_mem_cons.mpr ⟨lk__law_bases c X Gn, List.forall_mem_cons.mpr ⟨lk_law c X Gn, fun _ hq => by cases hq⟩⟩⟩⟩⟩⟩⟩⟩), (fun _ hq => by cases hq), glf_of c X Gn hx gl_ok, (List.forall_mem_cons.mpr ⟨rx_TooMany c hx X Gn, List.forall_mem_cons.mpr ⟨rx_Forged c hx X Gn, List.forall_mem_cons.mpr ⟨rx_Busy c hx X Gn, List.forall_mem_cons.mpr ⟨rx_NoHouse c hx X Gn, List.forall_mem_cons.mpr ⟨rx_NoAsker c hx X Gn, List.forall_mem_cons.mpr ⟨rx_NoText c hx X Gn, List.forall_mem_cons.mpr ⟨rx_NoWeaving c hx X Gn, List.forall_mem_cons.mpr ⟨rx_NoNumber c hx X Gn, fun _ hq => by cases hq⟩⟩⟩⟩⟩⟩⟩⟩), blt_of c X Gn (List.forall_mem_cons.mpr ⟨List.mem_of_getElem? (i := 8) rfl, List.forall_mem_cons.mpr ⟨List.mem_of_getElem? (i := 9) rfl, List.forall_mem_cons.mpr ⟨List.mem_of_getElem? (i := 10) rfl, List.forall_mem_cons.mpr ⟨List.mem_of_getElem? (i := 11) rfl, List.forall_mem_cons.mpr ⟨List.mem_of_getElem? (i := 12) rfl, List.forall_mem_cons.mpr ⟨List.mem_of_getElem? (i := 13) rfl, List.forall_mem_cons.mpr ⟨List.mem_of_getElem? (i := 14) rfl, List.forall_mem_cons.mpr ⟨List.mem_of_getElem? (i := 15) rfl, List.forall_mem_cons.mpr ⟨List.mem_of_getElem? (i := 16) rfl, List.forall_mem_cons.mpr ⟨List.mem_of_getElem? (i := 17) rfl, List.forall_mem_cons.mpr ⟨List.mem_of_getElem? (i := 18) rfl, List.forall_mem_cons.mpr ⟨List.mem_of_getElem? (i := 19) rfl, List.forall_mem_cons.mpr ⟨List.mem_of_getElem? (i := 20) rfl, List.forall_mem_cons.mpr ⟨List.mem_of_getElem? (i := 21) rfl, List.forall_mem_cons.mpr ⟨List.mem_of_getElem? (i := 22) rfl, List.forall_mem_cons.mpr ⟨List.mem_of_getElem? (i := 23) rfl, List.forall_mem_cons.mpr ⟨List.mem_of_getElem? (i := 24) rfl, fun _ hq => by cases hq⟩⟩⟩⟩⟩⟩⟩⟩⟩⟩⟩⟩⟩⟩⟩⟩⟩)⟩
end
end K02
open PySem PySem.W PySem.Calls PyProof.Rows
theorem K02.holds_of {k : Nat} (hk : k ≤ 99) (says : Mn.LawSays K02.G k 7 63) : PySem.Challenge.rw_trueheads_k02_refusals_apart.Holds := by
  w_on; o_law
  refine HandSHeadRun.head_any (r := OpenLaw.row PySem.Challenge.rw_trueheads_k02_refusals_apart) (q := view (OpenLaw.row PySem.Challenge.rw_trueheads_k02_refusals_apart).prog [27]) (H := K02.hk) (ob := K02.ob) (M := 6000) (loose := K02.loose) (d := HandSHeadRun.topDef (OpenLaw.row PySem.Challenge.rw_trueheads_k02_refusals_apart).prog 27) (kwd := []) K02.ob_eq
    (by kernel_rfl) (fun s => by kernel_rfl) K02.run (by kernel_rfl) (by kernel_rfl) (by kernel_rfl) (by rfl) (by first | assumption | decide +kernel) (by decide +kernel) ⟨rfl, rfl, rfl, rfl, rfl, by decide +kernel⟩ ?hw ?hc
  case hw => w_witness2
  case hc =>
    refine Mn.walk_ofG (l := PySem.Challenge.rw_trueheads_k02_refusals_apart) (n := 63) (k := k) (i := 7) (f := K02.f_law) (G := K02.G) rfl (by decide) (by kernel_rfl) hk rfl rfl (by kernel_rfl) rfl (List.mem_of_getElem? (i := 0) rfl) ?F says
    intro w mg h Y Gn
    obtain ⟨K, KX, c, cx⟩ := Y
    exact ⟨K, KX, K02.glo_of c cx KX Gn⟩

theorem PySem.Challenge.cw_trueheads_k02_refusals_apart_holds : PySem.Challenge.rw_trueheads_k02_refusals_apart.Holds := by
  exact K02.holds_of (by decide) K02.says
