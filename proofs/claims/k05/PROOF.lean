import PyProof.Rows.All
import Wide.All
import OpenK.AllK
import Wide.FinOn
import KE.KStateDown
import HandS.ForMost
import HandS.ForExc
import HandS.Wide
import HandS.WideBits
import HandS.Defaults
import HandS.Lambda
import HandS.IsInst
import HandS.TupAny
import HandS.Deep
import HandS.TupMul
import HandS.SortInts
import PyProof.ReprRoads
import HandS.Dict
import HandS.ForDict
import PyProof.CallFns
import PyProof.AutoSeq1
import HandS.TryOnly
import KE.KUnpack
import PyProof.CollectIter
import KE.GoesMore
import HandS.Zip
import HandS.Style
import HandS.SetFor
import HandS.Strs
import HandS.CallRecv
import HandS.Property
import HandS.MakeKw
import HandS.Star
import HandS.FStr
import HandS.More
import HandS.OwnEq
import KE.KCallOwn
import HandS.ClsMeth
import HandS.Conv
import HandS.ExcInit
import HandS.ExcOwn
import HandS.ExcValue
import KE.KExcInit
import HandS.TryMany
import KE.KTryMore
import KE.KExcPX
import HandS.HotCalls
import HandS.ExcField
import HandS.ExcIs
import KE.KExcIs
import KE.KDflt
import HandS.Ends
import HandS.EndBits
import HandS.HeadNt
import HandS.Head2
import HandS.HeadEnd
import PySem.Challenge.RW_purepowers_k05_whole_products_with_integ
set_option Elab.async false
set_option linter.all false
set_option autoImplicit false
set_option maxRecDepth 100000
/-! Ev, part A: plain data, what represents it in the abstract heap, steps. -/
namespace Ev
open PySem PySem.Spec PyProof.Rows L2
/-- built-in classes that are named -/
inductive Ty where
  | int | bool | str | tuple | list | dict
  deriving DecidableEq
def Ty.nm : Ty → String
  | .int => "int"
  | .bool => "bool"
  | .str => "str"
  | .tuple => "tuple"
  | .list => "list"
  | .dict => "dict"
/-- plain data -/
inductive D where
  | non | bl (b : Bool) | int (i : Int) | str (s : Str)
  | tup (xs : List D) | lst (xs : List D) | dct (kvs : List (Key × D))
  | box (n : Nat) | obj (c : Nat) (fs : List (Str × D)) | ty (n : Ty) | cl (c : Nat) | scr (ns : List Int)
/-- a value in a slot or on the way: shared data, or a thing that nobody else holds -/
abbrev Xn := Nat × Option D
inductive T where
  | v (d : D) | o (d : D) | e (x : Xn)
def T.d : T → D
  | .v d => d
  | .o d => d
  | .e _ => .non
abbrev Sl := L2.St
abbrev En := List (Option T)
/-- the limit of digits of the texts of integers is the given one -/
def Digs (K : PySem.W.Frag) : Prop := ∀ h : Heap, K.In h → h.NoDigits
/-- the background: the written part, the classes' addresses -/
structure Bg where
  K : PySem.W.Frag
  cls : Nat → Addr
  nc : Nat
  fld : Nat → Str
  tabs : List (Addr × Str)
  ex : Option (Addr × Value × Option Addr)
  xcl : Nat → Addr
  nx : Nat
  dig : Digs K
mutual
def Rep (B : Bg) (F : Hp) (r : List Addr) : D → V → Prop
  | .non, v => v = .non
  | .bl b, v => v = .bl b
  | .int i, v => v = .int i
  | .str s, v => v = .str s
  | .tup ds, v => ∃ a vs, v = .ref a ∧ SqT B.K F a vs ∧ Reps B F r ds vs
  | .lst ds, v => ∃ a vs, v = .ref a ∧ F a = some (.lst vs) ∧ Reps B F r ds vs
  | .dct ks, v => ∃ a vs, v = .ref a ∧ F a = some (.dK vs) ∧ RepK B F r ks vs
  | .box n, v => ∃ a, r[n]? = some a ∧ v = .ref a
  | .obj c fs, v => c < B.nc ∧ ∃ a dx vs, v = .ref a ∧ F a = some (.ins (B.cls c) dx vs) ∧ RepF B F r fs vs
  | .ty n, v => v = .ty n.nm
  | .cl c, v => v = .ref (B.cls c) ∧ c < B.nc
  | .scr ns, v => ∃ a, v = .ref a ∧ SqL B.K F a (ns.map V.int)
def Reps (B : Bg) (F : Hp) (r : List Addr) : List D → List V → Prop
  | [], vs => vs = []
  | d :: ds, vs => ∃ v t, vs = v :: t ∧ Rep B F r d v ∧ Reps B F r ds t
def RepK (B : Bg) (F : Hp) (r : List Addr) : List (Key × D) → List (Key × V) → Prop
  | [], vs => vs = []
  | (k, d) :: ds, vs => ∃ v t, vs = (k, v) :: t ∧ Rep B F r d v ∧ RepK B F r ds t
def RepF (B : Bg) (F : Hp) (r : List Addr) : List (Str × D) → List (Str × V) → Prop
  | [], vs => vs = []
  | (k, d) :: ds, vs => ∃ v t, vs = (k, v) :: t ∧ Rep B F r d v ∧ RepF B F r ds t
end
def Sub (F H : Hp) : Prop := ∀ a o, F a = some o → H a = some o
theorem Sub.refl (F : Hp) : Sub F F := fun _ _ e => e
theorem Sub.trans {F G H : Hp} (a : Sub F G) (b : Sub G H) : Sub F H := fun x o e => b x o (a x o e)
theorem Sub.rd {F H : Hp} (s : Sub F H) {a : Addr} {u : HO} (h : Rd F a u) : Rd H a u := by
  rcases h with h | ⟨o, h⟩
  · exact .inl (s _ _ h)
  · exact .inr ⟨o, s _ _ h⟩
theorem Sub.sqL {K : PySem.W.Frag} {F H : Hp} (s : Sub F H) {a : Addr} {xs : List V} (h : SqL K F a xs) : SqL K H a xs := h.imp s.rd id
theorem Sub.sqT {K : PySem.W.Frag} {F H : Hp} (s : Sub F H) {a : Addr} {xs : List V} (h : SqT K F a xs) : SqT K H a xs := h.imp s.rd id
/-- the second list goes on the first -/
def Pre (r r' : List Addr) : Prop := ∃ t, r' = r ++ t
theorem Pre.refl (r : List Addr) : Pre r r := ⟨[], by simp⟩
theorem Pre.get {r r' : List Addr} (p : Pre r r') {n : Nat} {a : Addr} (h : r[n]? = some a) : r'[n]? = some a := by
  obtain ⟨t, rfl⟩ := p
  rw [List.getElem?_append_left (List.getElem?_eq_some_iff.mp h).1]
  exact h
mutual
theorem Rep.mono {B : Bg} {F F' : Hp} {r r' : List Addr} (s : Sub F F') (p : Pre r r') : ∀ (d : D) (v : V), Rep B F r d v → Rep B F' r' d v
  | .non, v, h => h
  | .bl b, v, h => h
  | .int i, v, h => h
  | .str s, v, h => h
  | .tup ds, v, ⟨a, vs, e, q, h⟩ => ⟨a, vs, e, s.sqT q, Reps.mono s p ds vs h⟩
  | .lst ds, v, ⟨a, vs, e, q, h⟩ => ⟨a, vs, e, s _ _ q, Reps.mono s p ds vs h⟩
  | .dct ks, v, ⟨a, vs, e, q, h⟩ => ⟨a, vs, e, s _ _ q, RepK.mono s p ks vs h⟩
  | .box n, v, ⟨a, e, h⟩ => ⟨a, p.get e, h⟩
  | .obj c fs, v, ⟨l, a, dx, vs, e, q, h⟩ => ⟨l, a, dx, vs, e, s _ _ q, RepF.mono s p fs vs h⟩
  | .ty n, v, h => h
  | .cl c, v, h => h
  | .scr ns, v, ⟨a, e, q⟩ => ⟨a, e, s.sqL q⟩
theorem Reps.mono {B : Bg} {F F' : Hp} {r r' : List Addr} (s : Sub F F') (p : Pre r r') : ∀ (ds : List D) (vs : List V), Reps B F r ds vs → Reps B F' r' ds vs
  | [], vs, h => h
  | d :: ds, vs, ⟨v, t, e, h1, h2⟩ => ⟨v, t, e, Rep.mono s p d v h1, Reps.mono s p ds t h2⟩
theorem RepK.mono {B : Bg} {F F' : Hp} {r r' : List Addr} (s : Sub F F') (p : Pre r r') : ∀ (ds : List (Key × D)) (vs : List (Key × V)), RepK B F r ds vs → RepK B F' r' ds vs
  | [], vs, h => h
  | (k, d) :: ds, vs, ⟨v, t, e, h1, h2⟩ => ⟨v, t, e, Rep.mono s p d v h1, RepK.mono s p ds t h2⟩
theorem RepF.mono {B : Bg} {F F' : Hp} {r r' : List Addr} (s : Sub F F') (p : Pre r r') : ∀ (ds : List (Str × D)) (vs : List (Str × V)), RepF B F r ds vs → RepF B F' r' ds vs
  | [], vs, h => h
  | (k, d) :: ds, vs, ⟨v, t, e, h1, h2⟩ => ⟨v, t, e, Rep.mono s p d v h1, RepF.mono s p ds t h2⟩
end
/-- an exception: its class, its attribute -/
def XRep (B : Bg) (F : Hp) (r : List Addr) : Xn → Value → Option Addr → Prop
  | (c, none), cls, d => c < B.nx ∧ cls = .ref (B.xcl c) ∧ d = none
  | (c, some x), cls, d => c < B.nx ∧ cls = .ref (B.xcl c) ∧ ∃ da v, d = some da ∧ F da = some (.xd [(B.fld c, v)]) ∧ Rep B F r x v
theorem XRep.mono {B : Bg} {F F' : Hp} {r r' : List Addr} (s : Sub F F') (p : Pre r r') : ∀ {x : Xn} {cls : Value} {d : Option Addr}, XRep B F r x cls d → XRep B F' r' x cls d
  | (c, none), _, _, h => h
  | (c, some x), _, _, ⟨h0, h1, da, v, h2, h3, h4⟩ => ⟨h0, h1, da, v, h2, s _ _ h3, Rep.mono s p _ _ h4⟩
/-- the exception at hand is no part of what data are -/
def Bg.at (B : Bg) (o : Option (Addr × Value × Option Addr)) : Bg := { B with ex := o }
mutual
theorem Rep.at {B : Bg} {o : Option (Addr × Value × Option Addr)} {F : Hp} {r : List Addr} : ∀ (d : D) (v : V), Rep (B.at o) F r d v ↔ Rep B F r d v
  | .non, v => Iff.rfl
  | .bl b, v => Iff.rfl
  | .int i, v => Iff.rfl
  | .str s, v => Iff.rfl
  | .tup ds, v => ⟨fun ⟨a, vs, e, q, h⟩ => ⟨a, vs, e, q, (Reps.at_ ds vs).mp h⟩, fun ⟨a, vs, e, q, h⟩ => ⟨a, vs, e, q, (Reps.at_ ds vs).mpr h⟩⟩
  | .lst ds, v => ⟨fun ⟨a, vs, e, q, h⟩ => ⟨a, vs, e, q, (Reps.at_ ds vs).mp h⟩, fun ⟨a, vs, e, q, h⟩ => ⟨a, vs, e, q, (Reps.at_ ds vs).mpr h⟩⟩
  | .dct ks, v => ⟨fun ⟨a, vs, e, q, h⟩ => ⟨a, vs, e, q, (RepK.at ks vs).mp h⟩, fun ⟨a, vs, e, q, h⟩ => ⟨a, vs, e, q, (RepK.at ks vs).mpr h⟩⟩
  | .box n, v => Iff.rfl
  | .obj c fs, v => ⟨fun ⟨l, a, dx, vs, e, q, h⟩ => ⟨l, a, dx, vs, e, q, (RepF.at fs vs).mp h⟩, fun ⟨l, a, dx, vs, e, q, h⟩ => ⟨l, a, dx, vs, e, q, (RepF.at fs vs).mpr h⟩⟩
  | .ty n, v => Iff.rfl
  | .cl c, v => Iff.rfl
  | .scr ns, v => Iff.rfl
theorem Reps.at_ {B : Bg} {o : Option (Addr × Value × Option Addr)} {F : Hp} {r : List Addr} : ∀ (ds : List D) (vs : List V), Reps (B.at o) F r ds vs ↔ Reps B F r ds vs
  | [], vs => Iff.rfl
  | d :: ds, vs => ⟨fun ⟨v, t, e, h1, h2⟩ => ⟨v, t, e, (Rep.at d v).mp h1, (Reps.at_ ds t).mp h2⟩, fun ⟨v, t, e, h1, h2⟩ => ⟨v, t, e, (Rep.at d v).mpr h1, (Reps.at_ ds t).mpr h2⟩⟩
theorem RepK.at {B : Bg} {o : Option (Addr × Value × Option Addr)} {F : Hp} {r : List Addr} : ∀ (ds : List (Key × D)) (vs : List (Key × V)), RepK (B.at o) F r ds vs ↔ RepK B F r ds vs
  | [], vs => Iff.rfl
  | (k, d) :: ds, vs => ⟨fun ⟨v, t, e, h1, h2⟩ => ⟨v, t, e, (Rep.at d v).mp h1, (RepK.at ds t).mp h2⟩, fun ⟨v, t, e, h1, h2⟩ => ⟨v, t, e, (Rep.at d v).mpr h1, (RepK.at ds t).mpr h2⟩⟩
theorem RepF.at {B : Bg} {o : Option (Addr × Value × Option Addr)} {F : Hp} {r : List Addr} : ∀ (ds : List (Str × D)) (vs : List (Str × V)), RepF (B.at o) F r ds vs ↔ RepF B F r ds vs
  | [], vs => Iff.rfl
  | (k, d) :: ds, vs => ⟨fun ⟨v, t, e, h1, h2⟩ => ⟨v, t, e, (Rep.at d v).mp h1, (RepF.at ds t).mp h2⟩, fun ⟨v, t, e, h1, h2⟩ => ⟨v, t, e, (Rep.at d v).mpr h1, (RepF.at ds t).mpr h2⟩⟩
end
theorem XRep.at {B : Bg} {o : Option (Addr × Value × Option Addr)} {F : Hp} {r : List Addr} : ∀ {x : Xn} {cls : Value} {d : Option Addr}, XRep (B.at o) F r x cls d ↔ XRep B F r x cls d
  | (c, none), _, _ => Iff.rfl
  | (c, some x), _, _ => ⟨fun ⟨h0, h1, da, v, h2, h3, h4⟩ => ⟨h0, h1, da, v, h2, h3, (Rep.at x v).mp h4⟩, fun ⟨h0, h1, da, v, h2, h3, h4⟩ => ⟨h0, h1, da, v, h2, h3, (Rep.at x v).mpr h4⟩⟩
/-- what an object of its own holds -/
def ORep (B : Bg) (F : Hp) (r : List Addr) : D → HO → Prop
  | .lst ds, o => ∃ vs, o = .lst vs ∧ Reps B F r ds vs
  | .dct ks, o => ∃ vs, o = .dK vs ∧ RepK B F r ks vs
  | .obj c fs, o => c < B.nc ∧ ∃ dx vs, o = .ins (B.cls c) dx vs ∧ RepF B F r fs vs
  | _, _ => False
theorem ORep.mono {B : Bg} {F F' : Hp} {r r' : List Addr} (s : Sub F F') (p : Pre r r') : ∀ {d : D} {o : HO}, ORep B F r d o → ORep B F' r' d o
  | .lst ds, o, ⟨vs, e, h⟩ => ⟨vs, e, Reps.mono s p _ _ h⟩
  | .dct ds, o, ⟨vs, e, h⟩ => ⟨vs, e, RepK.mono s p _ _ h⟩
  | .obj c ds, o, ⟨l, dx, vs, e, h⟩ => ⟨l, dx, vs, e, RepF.mono s p _ _ h⟩
/-- a thing frozen is data -/
theorem ORep.rep {B : Bg} {F : Hp} {r : List Addr} {a : Addr} : ∀ {d : D} {o : HO}, ORep B F r d o → F a = some o → Rep B F r d (.ref a)
  | .lst ds, o, ⟨vs, e, h⟩, q => ⟨a, vs, rfl, by rw [q, e], h⟩
  | .dct ds, o, ⟨vs, e, h⟩, q => ⟨a, vs, rfl, by rw [q, e], h⟩
  | .obj c ds, o, ⟨l, dx, vs, e, h⟩, q => ⟨l, a, dx, vs, rfl, by rw [q, e], h⟩
/-- a list, a dict or an instance: it may be changed -/
def isM : HO → Bool
  | .lst _ => true
  | .dK _ => true
  | .ins _ _ _ => true
  | _ => false
theorem ORep.isM {B : Bg} {F : Hp} {r : List Addr} : ∀ {d : D} {o : HO}, ORep B F r d o → isM o = true
  | .lst ds, o, ⟨vs, e, h⟩ => by rw [e]; rfl
  | .dct ds, o, ⟨vs, e, h⟩ => by rw [e]; rfl
  | .obj c ds, o, ⟨l, dx, vs, e, h⟩ => by rw [e]; rfl
theorem isM_tbl {o : HO} (h : isM o = true) (ps : Array Value) : o ≠ .tbl ps := fun z => by rw [z] at h; cases h
theorem isM_code {o : HO} (h : isM o = true) (c : Addr) (q : Str) : o ≠ LamX.CodeO c q := fun z => by rw [z] at h; cases h
theorem ORep.nt {B : Bg} {F : Hp} {r : List Addr} {d : D} {o : HO} (h : ORep B F r d o) (ps : Array Value) : o ≠ .tbl ps := isM_tbl h.isM ps
theorem tabs_upd {L : List (Addr × Str)} {H : Hp} {a : Addr} {o o' : HO} (t : LamX.Tabs L H) (h : H a = some o) (m : isM o = true) : LamX.Tabs L (upd H a o') := fun p hp => by
  obtain ⟨ps, h1, h2, h3⟩ := t p hp
  have n1 : p.1 ≠ a := fun z => by rw [z, h] at h1; exact isM_tbl m ps (Option.some.inj h1)
  refine ⟨ps, by rw [upd_ne n1]; exact h1, h2, fun pos cv hc => ?_⟩
  obtain ⟨c, e1, e2⟩ := h3 pos cv hc
  have n2 : c ≠ a := fun z => by rw [z, h] at e2; exact isM_code m _ _ (Option.some.inj e2)
  exact ⟨c, e1, by rw [upd_ne n2]; exact e2⟩
structure World (B : Bg) (F : Hp) (r : List Addr) (st : List D) (H : Hp) : Prop where
  sub : Sub F H
  tab : LamX.Tabs B.tabs H ∧ ∀ a ps, F a ≠ some (.tbl ps)
  nd : r.Nodup
  len : st.length = r.length
  box : ∀ (n : Nat) (a : Addr) (d : D), r[n]? = some a → st[n]? = some d → F a = none ∧ ∃ o, H a = some o ∧ ORep B F r d o
theorem ORep.at {B : Bg} {o : Option (Addr × Value × Option Addr)} {F : Hp} {r : List Addr} {d : D} {u : HO} : ORep (B.at o) F r d u ↔ ORep B F r d u := by
  cases d <;> first | exact Iff.rfl | skip
  · exact ⟨fun ⟨vs, e, h⟩ => ⟨vs, e, (Reps.at_ _ vs).mp h⟩, fun ⟨vs, e, h⟩ => ⟨vs, e, (Reps.at_ _ vs).mpr h⟩⟩
  · exact ⟨fun ⟨vs, e, h⟩ => ⟨vs, e, (RepK.at _ vs).mp h⟩, fun ⟨vs, e, h⟩ => ⟨vs, e, (RepK.at _ vs).mpr h⟩⟩
  · exact ⟨fun ⟨l, dx, vs, e, h⟩ => ⟨l, dx, vs, e, (RepF.at _ vs).mp h⟩, fun ⟨l, dx, vs, e, h⟩ => ⟨l, dx, vs, e, (RepF.at _ vs).mpr h⟩⟩
theorem World.at {B : Bg} {o : Option (Addr × Value × Option Addr)} {F : Hp} {r : List Addr} {st : List D} {H : Hp} : World (B.at o) F r st H ↔ World B F r st H :=
  ⟨fun W => ⟨W.sub, W.tab, W.nd, W.len, fun n a d e1 e2 => let ⟨q1, u, q2, q3⟩ := W.box n a d e1 e2; ⟨q1, u, q2, ORep.at.mp q3⟩⟩, fun W => ⟨W.sub, W.tab, W.nd, W.len, fun n a d e1 e2 => let ⟨q1, u, q2, q3⟩ := W.box n a d e1 e2; ⟨q1, u, q2, ORep.at.mpr q3⟩⟩⟩
def Own (B : Bg) (F : Hp) (r : List Addr) (H : Hp) (d : D) (a : Addr) : Prop := F a = none ∧ a ∉ r ∧ ∃ o, H a = some o ∧ ORep B F r d o
def OwnI (σ : Sl) (en : En) (i : Nat) (a : Addr) : Prop := ∃ d, en[i]? = some (some (.o d)) ∧ σ[i]? = some (some (.ref a))
def OwnAt (σ : Sl) (en : En) (a : Addr) : Prop := ∃ i, OwnI σ en i a
structure Rel (B : Bg) (F : Hp) (r : List Addr) (en : En) (st : List D) (σ : Sl) (H : Hp) : Prop where
  w : World B F r st H
  val : ∀ (i : Nat) (d : D), en[i]? = some (some (.v d)) → ∃ v, σ[i]? = some (some v) ∧ Rep B F r d v
  own : ∀ (i : Nat) (d : D), en[i]? = some (some (.o d)) → ∃ a, σ[i]? = some (some (.ref a)) ∧ Own B F r H d a
  dis : ∀ (i j : Nat) (a : Addr), OwnI σ en i a → OwnI σ en j a → i = j
  len : en.length = σ.length
  exc : ∀ (i : Nat) (x : Xn), en[i]? = some (some (.e x)) → ∃ a cls d, B.ex = some (a, cls, d) ∧ σ[i]? = some (some (.ref a)) ∧ XRep B F r x cls d
theorem Rel.ownH {B : Bg} {F : Hp} {r : List Addr} {en : En} {st : List D} {σ : Sl} {H : Hp} (R : Rel B F r en st σ H) {a : Addr} (h : OwnAt σ en a) : F a = none ∧ a ∉ r ∧ ∃ o, H a = some o := by
  obtain ⟨i, d, e1, e2⟩ := h
  obtain ⟨b, q1, q2, q3, o, q4, _⟩ := R.own i d e1
  rw [e2] at q1
  cases q1
  exact ⟨q2, q3, o, q4⟩
/-- from (σ, en, F, r, H) on -/
structure Step (σ : Sl) (en : En) (F : Hp) (r : List Addr) (H : Hp) (σ' : Sl) (en' : En) (F' : Hp) (r' : List Addr) (H' : Hp) : Prop where
  keep : ∀ a o, H a = some o → a ∉ r → ¬ OwnAt σ en a → (∀ ps, o ≠ .tbl ps) → H' a = some o
  there : ∀ a, H' a = none → H a = none
  grow : Sub F F'
  pre : ∃ t, r' = r ++ t ∧ ∀ a ∈ t, H a = none ∨ OwnAt σ en a
  new : ∀ a o, F' a = some o → F a = some o ∨ H a = none ∨ OwnAt σ en a
  owns : ∀ a, OwnAt σ' en' a → OwnAt σ en a ∨ H a = none
section
variable {σ σ1 σ2 : Sl} {en en1 en2 : En} {F F1 F2 : Hp} {r r1 r2 : List Addr} {H H1 H2 : Hp}
theorem Step.refl : Step σ en F r H σ en F r H := ⟨fun _ _ e _ _ _ => e, fun _ e => e, Sub.refl _, ⟨[], by simp, fun _ h => by cases h⟩, fun _ _ e => .inl e, fun _ h => .inl h⟩
theorem Step.prx (S : Step σ en F r H σ1 en1 F1 r1 H1) : Pre r r1 := let ⟨t, e, _⟩ := S.pre; ⟨t, e⟩
theorem Step.trans (S : Step σ en F r H σ1 en1 F1 r1 H1) (U : Step σ1 en1 F1 r1 H1 σ2 en2 F2 r2 H2) : Step σ en F r H σ2 en2 F2 r2 H2 where
  keep := fun a o e hr ho nt => by
    obtain ⟨t, e1, e2⟩ := S.pre
    refine U.keep a o (S.keep a o e hr ho nt) (fun z => ?_) (fun z => ?_) nt
    · rw [e1] at z
      rcases List.mem_append.mp z with z | z
      · exact hr z
      · rcases e2 a z with q | q
        · rw [q] at e; cases e
        · exact ho q
    · rcases S.owns a z with q | q
      · exact ho q
      · rw [q] at e; cases e
  there := fun a e => S.there a (U.there a e)
  grow := S.grow.trans U.grow
  pre := by
    obtain ⟨t, e1, e2⟩ := S.pre
    obtain ⟨u, f1, f2⟩ := U.pre
    refine ⟨t ++ u, by rw [f1, e1, List.append_assoc], fun a ha => ?_⟩
    rcases List.mem_append.mp ha with ha | ha
    · exact e2 a ha
    · rcases f2 a ha with q | q
      · exact .inl (S.there a q)
      · exact (S.owns a q).symm
  new := fun a o e => by
    rcases U.new a o e with q | q | q
    · exact S.new a o q
    · exact .inr (.inl (S.there a q))
    · exact .inr (S.owns a q).symm
  owns := fun a h => by
    rcases U.owns a h with q | q
    · exact S.owns a q
    · exact .inr (S.there a q)
end
theorem Rep.step {B : Bg} {σ σ1 : Sl} {en en1 : En} {F F1 : Hp} {r r1 : List Addr} {H H1 : Hp} {d : D} {v : V} (h : Rep B F r d v) (S : Step σ en F r H σ1 en1 F1 r1 H1) : Rep B F1 r1 d v := Rep.mono S.grow S.prx d v h
theorem Reps.step {B : Bg} {σ σ1 : Sl} {en en1 : En} {F F1 : Hp} {r r1 : List Addr} {H H1 : Hp} {d : List D} {v : List V} (h : Reps B F r d v) (S : Step σ en F r H σ1 en1 F1 r1 H1) : Reps B F1 r1 d v := Reps.mono S.grow S.prx d v h
/-- a value on the way; H0, en0: where the expression began -/
def TRep (B : Bg) (F : Hp) (r : List Addr) (H : Hp) (σ : Sl) (en : En) (H0 : Hp) (en0 : En) : T → V → Prop
  | .v d, v => Rep B F r d v
  | .o d, v => ∃ a, v = .ref a ∧ Own B F r H d a ∧ ¬ OwnAt σ en a ∧ (H0 a = none ∨ OwnAt σ en0 a)
  | .e _, _ => False
/-! ### moves of a state -/
section
variable {B : Bg} {σ : Sl} {en : En} {F : Hp} {r : List Addr} {H : Hp} {st : List D} {p : Addr} {o : HO}
theorem sub_upd {F : Hp} {p : Addr} {o : HO} (h : F p = none) : Sub F (upd F p o) := fun a u e => by
  by_cases q : a = p
  · subst q; rw [h] at e; cases e
  · rw [upd_ne q]; exact e
/-- an object is laid -/
theorem World.alloc (W : World B F r st H) (hp : H p = none) : World B F r st (upd H p o) where
  sub := W.sub.trans (sub_upd hp)
  tab := ⟨W.tab.1.ext (sub_upd hp), W.tab.2⟩
  nd := W.nd
  len := W.len
  box := fun n a d e1 e2 => by
    obtain ⟨q1, u, q2, q3⟩ := W.box n a d e1 e2
    exact ⟨q1, u, sub_upd hp _ _ q2, q3⟩
theorem Own.alloc {d : D} {a : Addr} (h : Own B F r H d a) (hp : H p = none) : Own B F r (upd H p o) d a := by
  obtain ⟨q1, q2, u, q3, q4⟩ := h
  exact ⟨q1, q2, u, sub_upd hp _ _ q3, q4⟩
theorem Rel.alloc (R : Rel B F r en st σ H) (hp : H p = none) : Rel B F r en st σ (upd H p o) where
  w := R.w.alloc hp
  val := R.val
  own := fun i d e => let ⟨a, e1, e2⟩ := R.own i d e; ⟨a, e1, e2.alloc hp⟩
  dis := R.dis
  len := R.len
  exc := R.exc
theorem Step.alloc (hp : H p = none) : Step σ en F r H σ en F r (upd H p o) where
  keep := fun a u e _ _ _ => sub_upd hp a u e
  there := fun a e => by
    by_cases q : a = p
    · subst q; exact hp
    · rw [upd_ne q] at e; exact e
  grow := Sub.refl _
  pre := ⟨[], by simp, fun _ h => by cases h⟩
  new := fun _ _ e => .inl e
  owns := fun _ h => .inl h
theorem World.fresh (W : World B F r st H) (hp : H p = none) : F p = none ∧ p ∉ r := by
  constructor
  · cases q : F p with
    | none => rfl
    | some u => rw [W.sub _ _ q] at hp; cases hp
  · intro z
    obtain ⟨n, hn⟩ := List.getElem?_of_mem z
    have hl : n < st.length := by rw [W.len]; exact (List.getElem?_eq_some_iff.mp hn).1
    obtain ⟨_, u, q, _⟩ := W.box n p st[n] hn (by simp [hl])
    rw [q] at hp; cases hp
theorem Rel.noOwn (R : Rel B F r en st σ H) (hp : H p = none) : ¬ OwnAt σ en p := fun z => by
  obtain ⟨_, _, u, q⟩ := R.ownH z
  rw [q] at hp; cases hp
/-- an object that nobody holds is frozen -/
theorem World.freeze (W : World B F r st H) (hp : H p = some o) (hF : F p = none) (hr : p ∉ r) (ht : ∀ ps, o ≠ .tbl ps := by intro _ z; cases z) : World B (upd F p o) r st H where
  sub := fun a u e => by
    by_cases q : a = p
    · subst q; rw [upd_same] at e; cases e; exact hp
    · rw [upd_ne q] at e; exact W.sub a u e
  tab := ⟨W.tab.1, fun a ps e => by
    by_cases q : a = p
    · subst q; rw [upd_same] at e; exact ht ps (Option.some.inj e)
    · rw [upd_ne q] at e; exact W.tab.2 a ps e⟩
  nd := W.nd
  len := W.len
  box := fun n a d e1 e2 => by
    obtain ⟨q1, u, q2, q3⟩ := W.box n a d e1 e2
    have ne : a ≠ p := fun z => hr (z ▸ List.mem_of_getElem? e1)
    exact ⟨by rw [upd_ne ne]; exact q1, u, q2, q3.mono (sub_upd hF) (Pre.refl _)⟩
theorem Rel.freeze (R : Rel B F r en st σ H) (hp : H p = some o) (hF : F p = none) (hr : p ∉ r) (ho : ¬ OwnAt σ en p) (ht : ∀ ps, o ≠ .tbl ps := by intro _ z; cases z) : Rel B (upd F p o) r en st σ H where
  w := R.w.freeze hp hF hr ht
  val := fun i d e => let ⟨v, e1, e2⟩ := R.val i d e; ⟨v, e1, e2.mono (sub_upd hF) (Pre.refl _)⟩
  own := fun i d e => by
    obtain ⟨a, e1, q1, q2, u, q3, q4⟩ := R.own i d e
    have ne : a ≠ p := fun z => ho ⟨i, d, e, z ▸ e1⟩
    exact ⟨a, e1, by rw [upd_ne ne]; exact q1, q2, u, q3, q4.mono (sub_upd hF) (Pre.refl _)⟩
  dis := R.dis
  len := R.len
  exc := fun i x e => let ⟨a, c, d, e1, e2, e3⟩ := R.exc i x e; ⟨a, c, d, e1, e2, e3.mono (sub_upd hF) (Pre.refl _)⟩
theorem Step.freeze {H0 : Hp} {σ0 : Sl} {en0 : En} {F0 : Hp} {r0 : List Addr} (S : Step σ0 en0 F0 r0 H0 σ en F r H) (hF : F p = none) (h0 : H0 p = none ∨ OwnAt σ0 en0 p) : Step σ0 en0 F0 r0 H0 σ en (upd F p o) r H where
  keep := S.keep
  there := S.there
  grow := S.grow.trans (sub_upd hF)
  pre := S.pre
  new := fun a u e => by
    by_cases q : a = p
    · subst q; exact .inr h0
    · rw [upd_ne q] at e; exact S.new a u e
  owns := S.owns
/-- a value on the way becomes shared data -/
theorem freezeT {H0 : Hp} {en0 : En} {F0 : Hp} {r0 : List Addr} {x : T} {v : V} (S : Step σ en0 F0 r0 H0 σ en F r H) (R : Rel B F r en st σ H) (t : TRep B F r H σ en H0 en0 x v) :
    ∃ F', Step σ en0 F0 r0 H0 σ en F' r H ∧ Rel B F' r en st σ H ∧ Rep B F' r x.d v ∧ Sub F F' := by
  cases x with
  | v d => exact ⟨F, S, R, t, Sub.refl _⟩
  | o d =>
    obtain ⟨a, rfl, ⟨q1, q2, u, q3, q4⟩, q5, q6⟩ := t
    exact ⟨upd F a u, S.freeze q1 q6, R.freeze q3 q1 q2 q5 q4.nt, (q4.mono (sub_upd q1) (Pre.refl _)).rep upd_same, sub_upd q1⟩
  | e x => exact t.elim
/-- a slot's thing becomes shared data -/
theorem Rel.freezeSlot {i : Nat} {d : D} (R : Rel B F r en st σ H) (h : en[i]? = some (some (.o d))) :
    ∃ F', Step σ en F r H σ (en.set i (some (.v d))) F' r H ∧ Rel B F' r (en.set i (some (.v d))) st σ H ∧ ∃ v, σ[i]? = some (some v) ∧ Rep B F' r d v := by
  obtain ⟨a, e1, q1, q2, u, q3, q4⟩ := R.own i d h
  have hi : i < en.length := (List.getElem?_eq_some_iff.mp h).1
  have own' : ∀ j b, OwnI σ (en.set i (some (.v d))) j b → OwnI σ en j b ∧ j ≠ i := fun j b ⟨d', z1, z2⟩ => by
    by_cases q : j = i
    · subst q
      rw [List.getElem?_set_self hi] at z1
      cases z1
    · rw [List.getElem?_set_ne (Ne.symm q)] at z1
      exact ⟨⟨d', z1, z2⟩, q⟩
  have hno : ¬ OwnAt σ (en.set i (some (.v d))) a := fun ⟨j, z⟩ => by
    obtain ⟨z1, z2⟩ := own' j a z
    exact z2 (R.dis j i a z1 ⟨d, h, e1⟩)
  have rep : Rep B (upd F a u) r d (.ref a) := (q4.mono (sub_upd q1) (Pre.refl _)).rep upd_same
  refine ⟨upd F a u, ⟨fun b w e hr ho _ => e, fun _ e => e, sub_upd q1, ⟨[], by simp, fun _ z => by cases z⟩, fun b w e => ?_, fun b ⟨j, z⟩ => .inl ⟨j, (own' j b z).1⟩⟩, ⟨R.w.freeze q3 q1 q2 q4.nt, fun j d' e => ?_, fun j d' e => ?_, fun j k b z1 z2 => R.dis j k b (own' j b z1).1 (own' k b z2).1, by rw [List.length_set]; exact R.len, fun j x e => ?_⟩, .ref a, e1, rep⟩
  · by_cases q : b = a
    · subst q; exact .inr (.inr ⟨i, d, h, e1⟩)
    · rw [upd_ne q] at e; exact .inl e
  · by_cases q : j = i
    · subst q
      rw [List.getElem?_set_self hi] at e
      cases e
      exact ⟨.ref a, e1, rep⟩
    · rw [List.getElem?_set_ne (Ne.symm q)] at e
      obtain ⟨v, e1, e2⟩ := R.val j d' e
      exact ⟨v, e1, e2.mono (sub_upd q1) (Pre.refl _)⟩
  · by_cases q : j = i
    · subst q
      rw [List.getElem?_set_self hi] at e
      cases e
    · rw [List.getElem?_set_ne (Ne.symm q)] at e
      obtain ⟨b, f1, f2, f3, w, f4, f5⟩ := R.own j d' e
      have ne : b ≠ a := fun z => q (R.dis j i a ⟨d', e, z ▸ f1⟩ ⟨d, h, e1⟩)
      exact ⟨b, f1, by rw [upd_ne ne]; exact f2, f3, w, f4, f5.mono (sub_upd q1) (Pre.refl _)⟩
  · by_cases q : j = i
    · subst q
      rw [List.getElem?_set_self hi] at e
      cases e
    · rw [List.getElem?_set_ne (Ne.symm q)] at e
      obtain ⟨b, c', d', f1, f2, f3⟩ := R.exc j x e
      exact ⟨b, c', d', f1, f2, f3.mono (sub_upd q1) (Pre.refl _)⟩
/-- what a call leaves -/
structure CStep (F : Hp) (r : List Addr) (H : Hp) (F' : Hp) (r' : List Addr) (H' : Hp) : Prop where
  keep : ∀ a o, H a = some o → a ∉ r → (∀ ps, o ≠ .tbl ps) → H' a = some o
  there : ∀ a, H' a = none → H a = none
  grow : Sub F F'
  pre : ∃ t, r' = r ++ t ∧ ∀ a ∈ t, H a = none
  new : ∀ a o, F' a = some o → F a = some o ∨ H a = none
theorem CStep.refl : CStep F r H F r H := ⟨fun _ _ e _ _ => e, fun _ e => e, Sub.refl _, ⟨[], by simp, fun _ h => by cases h⟩, fun _ _ e => .inl e⟩
theorem CStep.prx {F' : Hp} {r' : List Addr} {H' : Hp} (S : CStep F r H F' r' H') : Pre r r' := let ⟨t, e, _⟩ := S.pre; ⟨t, e⟩
theorem CStep.step {F' : Hp} {r' : List Addr} {H' : Hp} (S : CStep F r H F' r' H') : Step σ en F r H σ en F' r' H' where
  keep := fun a o e hr _ nt => S.keep a o e hr nt
  there := S.there
  grow := S.grow
  pre := let ⟨t, e, h⟩ := S.pre; ⟨t, e, fun a ha => .inl (h a ha)⟩
  new := fun a o e => (S.new a o e).imp id .inl
  owns := fun _ h => .inl h
theorem Step.cstep {F' : Hp} {r' : List Addr} {H' : Hp} {σ' : Sl} {en' : En} (S : Step σ en F r H σ' en' F' r' H') (h : ∀ a, ¬ OwnAt σ en a) : CStep F r H F' r' H' where
  keep := fun a o e hr nt => S.keep a o e hr (h a) nt
  there := S.there
  grow := S.grow
  pre := let ⟨t, e, q⟩ := S.pre; ⟨t, e, fun a ha => (q a ha).resolve_right (h a)⟩
  new := fun a o e => (S.new a o e).imp id fun q => q.resolve_right (h a)
theorem Rel.call {F' : Hp} {r' : List Addr} {H' : Hp} {st' : List D} (R : Rel B F r en st σ H) (S : CStep F r H F' r' H') (W : World B F' r' st' H') : Rel B F' r' en st' σ H' where
  w := W
  val := fun i d e => let ⟨v, e1, e2⟩ := R.val i d e; ⟨v, e1, e2.mono S.grow S.prx⟩
  own := fun i d e => by
    obtain ⟨a, e1, q1, q2, u, q3, q4⟩ := R.own i d e
    refine ⟨a, e1, ?_, ?_, u, S.keep a u q3 q2 q4.nt, q4.mono S.grow S.prx⟩
    · cases z : F' a with
      | none => rfl
      | some w =>
        rcases S.new a w z with y | y
        · rw [y] at q1; cases q1
        · rw [y] at q3; cases q3
    · obtain ⟨t, rfl, ht⟩ := S.pre
      intro z
      rcases List.mem_append.mp z with z | z
      · exact q2 z
      · rw [ht a z] at q3; cases q3
  dis := R.dis
  len := R.len
  exc := fun i x e => let ⟨a, c, d, e1, e2, e3⟩ := R.exc i x e; ⟨a, c, d, e1, e2, e3.mono S.grow S.prx⟩
/-- a new tuple (or other thing) that is data at once -/
theorem Rel.newF (R : Rel B F r en st σ H) (hp : H p = none) (ht : ∀ ps, o ≠ .tbl ps := by intro _ z; cases z) : Rel B (upd F p o) r en st σ (upd H p o) :=
  (R.alloc hp).freeze upd_same (R.w.fresh hp).1 (R.w.fresh hp).2 (R.noOwn hp) ht
theorem Step.newF (R : Rel B F r en st σ H) (hp : H p = none) : Step σ en F r H σ en (upd F p o) r (upd H p o) :=
  (Step.alloc hp).freeze (R.w.fresh hp).1 (.inl hp)
end
end Ev
set_option Elab.async false
set_option linter.all false
set_option autoImplicit false
set_option maxRecDepth 100000
/-! Ev, part B: readings over plain data, and what they say of the layer's readings. -/
namespace Ev
open PySem PySem.Spec PyProof.Rows L2
abbrev KT := T → En → List D → Prop
abbrev KB := Bool → En → List D → Prop
abbrev KA := List D → En → List D → Prop
abbrev KX := Xn → En → List D → Prop
abbrev DTE := En → List D → KT → KX → Prop
abbrev DTT := En → List D → KB → KX → Prop
abbrev DTA := En → List D → KA → KX → Prop
def MonoE (t : DTE) : Prop := ∀ (en : En) (st : List D) (k k' : KT) (e e' : KX), (∀ x n s, k x n s → k' x n s) → (∀ x n s, e x n s → e' x n s) → t en st k e → t en st k' e'
def MonoT (t : DTT) : Prop := ∀ (en : En) (st : List D) (k k' : KB) (e e' : KX), (∀ x n s, k x n s → k' x n s) → (∀ x n s, e x n s → e' x n s) → t en st k e → t en st k' e'
def MonoA (t : DTA) : Prop := ∀ (en : En) (st : List D) (k k' : KA) (e e' : KX), (∀ x n s, k x n s → k' x n s) → (∀ x n s, e x n s → e' x n s) → t en st k e → t en st k' e'
def Kpost (B : Bg) (σ : Sl) (Q : VK) (F : Hp) (r : List Addr) (en : En) (H : Hp) : KT := fun x en' st' =>
  ∀ F' r' H' v, Step σ en F r H σ en' F' r' H' → Rel B F' r' en' st' σ H' → TRep B F' r' H' σ en' H en x v → Q v H'
def Bpost (B : Bg) (σ : Sl) (Q : Bool → Hp → Prop) (F : Hp) (r : List Addr) (en : En) (H : Hp) : KB := fun b en' st' =>
  ∀ F' r' H', Step σ en F r H σ en' F' r' H' → Rel B F' r' en' st' σ H' → Q b H'
def Apost (B : Bg) (σ : Sl) (Q : List V → Hp → Prop) (F : Hp) (r : List Addr) (en : En) (H : Hp) : KA := fun ds en' st' =>
  ∀ F' r' H' vs, Step σ en F r H σ en' F' r' H' → Rel B F' r' en' st' σ H' → Reps B F' r' ds vs → Q vs H'
def Epost (B : Bg) (σ : Sl) (W : WX) (F : Hp) (r : List Addr) (en : En) (H : Hp) : KX := fun x en' st' =>
  ∀ F' r' H' cls d, Step σ en F r H σ en' F' r' H' → Rel B F' r' en' st' σ H' → XRep B F' r' x cls d → W cls d σ H'
def tM (B : Bg) (W : WX) (t : DTE) : TE := fun σ H Q => ∃ F r en st, Rel B F r en st σ H ∧ t en st (Kpost B σ Q F r en H) (Epost B σ W F r en H)
def tMT (B : Bg) (W : WX) (t : DTT) : TT := fun σ H Q => ∃ F r en st, Rel B F r en st σ H ∧ t en st (Bpost B σ Q F r en H) (Epost B σ W F r en H)
def tMA (B : Bg) (W : WX) (t : DTA) : TA := fun σ H Q => ∃ F r en st, Rel B F r en st σ H ∧ t en st (Apost B σ Q F r en H) (Epost B σ W F r en H)
section
variable {B : Bg} {σ : Sl} {W : WX} {F F1 : Hp} {r r1 : List Addr} {en en1 : En} {H H1 : Hp}
theorem TRep.shift {F' : Hp} {r' : List Addr} {H' : Hp} {en' : En} {x : T} {v : V} (S : Step σ en F r H σ en1 F1 r1 H1) (t : TRep B F' r' H' σ en' H1 en1 x v) : TRep B F' r' H' σ en' H en x v := by
  cases x with
  | v d => exact t
  | o d =>
    obtain ⟨a, e, q1, q2, q3⟩ := t
    refine ⟨a, e, q1, q2, ?_⟩
    rcases q3 with q | q
    · exact .inl (S.there a q)
    · exact (S.owns a q).symm
  | e x => exact t.elim
theorem Kpost.shift {Q : VK} (S : Step σ en F r H σ en1 F1 r1 H1) {x : T} {n : En} {s : List D} (h : Kpost B σ Q F r en H x n s) : Kpost B σ Q F1 r1 en1 H1 x n s :=
  fun F' r' H' v U R t => h F' r' H' v (S.trans U) R (t.shift S)
theorem Bpost.shift {Q : Bool → Hp → Prop} (S : Step σ en F r H σ en1 F1 r1 H1) {x : Bool} {n : En} {s : List D} (h : Bpost B σ Q F r en H x n s) : Bpost B σ Q F1 r1 en1 H1 x n s :=
  fun F' r' H' U R => h F' r' H' (S.trans U) R
theorem Apost.shift {Q : List V → Hp → Prop} (S : Step σ en F r H σ en1 F1 r1 H1) {x : List D} {n : En} {s : List D} (h : Apost B σ Q F r en H x n s) : Apost B σ Q F1 r1 en1 H1 x n s :=
  fun F' r' H' v U R t => h F' r' H' v (S.trans U) R t
theorem Epost.shift (S : Step σ en F r H σ en1 F1 r1 H1) {x : Xn} {n : En} {s : List D} (h : Epost B σ W F r en H x n s) : Epost B σ W F1 r1 en1 H1 x n s :=
  fun F' r' H' c d U R t => h F' r' H' c d (S.trans U) R t
/-- a first expression, then the rest: its value becomes data -/
theorem at_bind {st : List D} {ta : DTE} {k : D → KT} {Q : V → Hp → Prop} (ma : MonoE ta) (R : Rel B F r en st σ H) (h : ta en st (fun x en1 st1 => k x.d (.v x.d) en1 st1) (Epost B σ W F r en H))
    (hk : ∀ d en1 st1 F1 r1 H1 v, Step σ en F r H σ en1 F1 r1 H1 → Rel B F1 r1 en1 st1 σ H1 → Rep B F1 r1 d v → k d (.v d) en1 st1 → Q v H1) : tM B W ta σ H Q := by
  refine ⟨F, r, en, st, R, ma _ _ _ _ _ _ (fun x en1 st1 h1 => ?_) (fun _ _ _ h1 => h1) h⟩
  intro F1 r1 H1 v S1 R1 t1
  obtain ⟨F2, S2, R2, rep, _⟩ := freezeT S1 R1 t1
  exact hk _ _ _ F2 r1 H1 v S2 R2 rep h1
theorem at_bindA {st : List D} {ta : DTA} {k : KA} {Q : List V → Hp → Prop} (ma : MonoA ta) (R : Rel B F r en st σ H) (h : ta en st k (Epost B σ W F r en H))
    (hk : ∀ ds en1 st1 F1 r1 H1 vs, Step σ en F r H σ en1 F1 r1 H1 → Rel B F1 r1 en1 st1 σ H1 → Reps B F1 r1 ds vs → k ds en1 st1 → Q vs H1) : tMA B W ta σ H Q := by
  refine ⟨F, r, en, st, R, ma _ _ _ _ _ _ (fun x en1 st1 h1 => ?_) (fun _ _ _ h1 => h1) h⟩
  intro F1 r1 H1 v S1 R1 t1
  exact hk _ _ _ F1 r1 H1 v S1 R1 t1 h1
theorem at_bindT {st : List D} {ta : DTT} {k : KB} {Q : Bool → Hp → Prop} (ma : MonoT ta) (R : Rel B F r en st σ H) (h : ta en st k (Epost B σ W F r en H))
    (hk : ∀ b en1 st1 F1 r1 H1, Step σ en F r H σ en1 F1 r1 H1 → Rel B F1 r1 en1 st1 σ H1 → k b en1 st1 → Q b H1) : tMT B W ta σ H Q := by
  refine ⟨F, r, en, st, R, ma _ _ _ _ _ _ (fun x en1 st1 h1 => ?_) (fun _ _ _ h1 => h1) h⟩
  intro F1 r1 H1 S1 R1
  exact hk _ _ _ F1 r1 H1 S1 R1 h1
/-- ends of a value -/
theorem kp_val {Q : VK} {st : List D} {d : D} {v : V} (h : Kpost B σ Q F r en H (.v d) en st) (R : Rel B F r en st σ H) (q : Rep B F r d v) : Q v H := h F r H v Step.refl R q
theorem kp_tup {Q : VK} {st : List D} {ds : List D} {vs : List V} {p : Addr} (h : Kpost B σ Q F r en H (.v (.tup ds)) en st) (R : Rel B F r en st σ H) (hp : H p = none) (q : Reps B F r ds vs) : Q (.ref p) (upd H p (.tup vs)) :=
  h (upd F p (.tup vs)) r _ _ (Step.newF R hp) (R.newF hp) ⟨p, vs, rfl, .inl (.inl upd_same), Reps.mono (sub_upd (R.w.fresh hp).1) (Pre.refl _) _ _ q⟩
theorem kp_new {Q : VK} {st : List D} {d : D} {o : HO} {p : Addr} (h : Kpost B σ Q F r en H (.o d) en st) (R : Rel B F r en st σ H) (hp : H p = none) (q : ORep B F r d o) : Q (.ref p) (upd H p o) :=
  h F r _ _ (Step.alloc hp) (R.alloc hp) ⟨p, rfl, ⟨(R.w.fresh hp).1, (R.w.fresh hp).2, o, upd_same, q⟩, R.noOwn hp, .inl hp⟩
end
theorem PE.weak {X : Cx} {e : Expr} {t t' : TE} (h : PE X e t) (w : ∀ σ H Q, t' σ H Q → t σ H Q) : PE X e t' := ⟨fun pins s σ H Q I q => h.run pins s σ H Q I (w σ H Q q)⟩
theorem PT.weak {X : Cx} {e : Expr} {t t' : TT} (h : PT X e t) (w : ∀ σ H Q, t' σ H Q → t σ H Q) : PT X e t' := ⟨fun pins s σ H Q I q => h.run pins s σ H Q I (w σ H Q q)⟩
theorem PA.weak {X : Cx} {e : List Expr} {t t' : TA} (h : PA X e t) (w : ∀ σ H Q, t' σ H Q → t σ H Q) : PA X e t' := ⟨fun pos pins s σ H Q I q => h.run pos pins s σ H Q I (w σ H Q q)⟩
theorem PW.weak {X : Cx} {e : Expr} {t t' : TT} (h : PW X e t) (w : ∀ σ H Q, t' σ H Q → t σ H Q) : PW X e t' := ⟨fun wh pins s σ H Q I q => h.run wh pins s σ H Q I (w σ H Q q)⟩
/-! ### judgements -/
structure DE (B : Bg) (W : WX) (X : Cx) (e : Expr) (t : DTE) : Prop where
  mono : MonoE t
  run : PE X e (tM B W t)
structure DT (B : Bg) (W : WX) (X : Cx) (e : Expr) (t : DTT) : Prop where
  mono : MonoT t
  run : PT X e (tMT B W t)
structure DA (B : Bg) (W : WX) (X : Cx) (es : List Expr) (t : DTA) : Prop where
  mono : MonoA t
  run : PA X es (tMA B W t)
section
variable {B : Bg} {W : WX} {X : Cx} {e a b c : Expr} {es : List Expr} {pos : Pos} {te ta tb tc : DTE} {tA : DTA} {tt tu : DTT}
/-! ### constants, names -/
def dC (d : D) : DTE := fun en st k _ => k (.v d) en st
theorem dC_mono (d : D) : MonoE (dC d) := fun _ _ _ _ _ _ hk _ h => hk _ _ _ h
theorem de_const {v : V} {d : D} (h : PE X e (tC v)) (hd : ∀ F r, Rep B F r d v) : DE B W X e (dC d) := by
  refine ⟨dC_mono d, PE.weak h fun σ H Q ⟨F, r, en, st, R, q⟩ => ?_⟩
  exact kp_val q R (hd F r)
/-- a name: a thing that it holds becomes shared data -/
def dVar (i : Nat) : DTE := fun en st k _ => match en[i]? with
  | some (some (.v d)) => k (.v d) en st
  | some (some (.o d)) => k (.v d) (en.set i (some (.v d))) st
  | _ => False
theorem dVar_mono (i : Nat) : MonoE (dVar i) := fun en st k k' e e' hk _ h => by
  unfold dVar at h ⊢
  split at h
  · exact hk _ _ _ h
  · exact hk _ _ _ h
  · exact h.elim
theorem de_var {i : Nat} (h : PE X e (tVar i)) : DE B W X e (dVar i) := by
  refine ⟨dVar_mono i, PE.weak h fun σ H Q ⟨F, r, en, st, R, q⟩ => ?_⟩
  unfold dVar at q
  split at q
  · rename_i d hd
    obtain ⟨v, e1, e2⟩ := R.val i d hd
    exact ⟨v, e1, kp_val q R e2⟩
  · rename_i d hd
    obtain ⟨F', S, R', v, e1, e2⟩ := R.freezeSlot hd
    exact ⟨v, e1, q F' r H v S R' e2⟩
  · exact q.elim
/-! ### operators of two values -/
abbrev Op2 := D → D → (T → Prop) → Prop
def Mono2 (g : Op2) : Prop := ∀ x y (k k' : T → Prop), (∀ t, k t → k' t) → g x y k → g x y k'
def dOp (g : Op2) (ta tb : DTE) : DTE := fun en st k e => ta en st (fun x en1 st1 => tb en1 st1 (fun y en2 st2 => g x.d y.d fun t => k t en2 st2) e) e
theorem dOp_mono {g : Op2} (mg : Mono2 g) (ma : MonoE ta) (mb : MonoE tb) : MonoE (dOp g ta tb) := fun en st k k' e e' hk he h =>
  ma _ _ _ _ _ _ (fun x en1 st1 h1 => mb _ _ _ _ _ _ (fun y en2 st2 h2 => mg _ _ _ _ (fun t ht => hk _ _ _ ht) h2) he h1) he h
/-- what the operator's rule is to show -/
def rG (B : Bg) (g : Op2) : R2 := fun v u H Q => ∃ σ F r en st x y, Rel B F r en st σ H ∧ Rep B F r x v ∧ Rep B F r y u ∧ g x y fun t => Kpost B σ Q F r en H t en st
theorem op_two {r : R2} {g : Op2} {Q : VK} {σ : Sl} {H : Hp} (mg : Mono2 g) (mb : MonoE tb) (ma : MonoE ta) (hg : ∀ v u H Q, rG B g v u H Q → r v u H Q) (h : tM B W (dOp g ta tb) σ H Q) : tOp r (tM B W ta) (tM B W tb) σ H Q := by
  obtain ⟨F, rr, en, st, R, q⟩ := h
  refine at_bind (k := fun d _ en1 st1 => tb en1 st1 (fun y en2 st2 => g d y.d fun t => Kpost B σ Q F rr en H t en2 st2) (Epost B σ W F rr en H)) ma R q fun d en1 st1 F1 r1 H1 v S1 R1 rep1 h1 => ?_
  refine at_bind (k := fun d' _ en2 st2 => g d d' fun t => Kpost B σ Q F rr en H t en2 st2) mb R1 (mb _ _ _ _ _ _ (fun _ _ _ z => z) (fun _ _ _ z => z.shift S1) h1) fun d' en2 st2 F2 r2 H2 u S2 R2 rep2 h2 => ?_
  refine hg _ _ _ _ ⟨σ, F2, r2, en2, st2, d, d', R2, rep1.step S2, rep2, ?_⟩
  exact mg _ _ _ _ (fun t ht => ht.shift (S1.trans S2)) h2
end
end Ev
set_option Elab.async false
set_option linter.all false
set_option autoImplicit false
set_option maxRecDepth 100000
/-! Ev, part C: operators and comparisons over plain data. -/
namespace Ev
open PySem PySem.Spec PyProof.Rows L2
/-! ### data for the library's == and repr -/
mutual
def dat : D → Option PyData
  | .non => some .none
  | .bl b => some (.bool b)
  | .int i => some (.int i)
  | .str s => some (.str s)
  | .tup xs => (datL xs).map .tuple
  | .lst xs => (datL xs).map .list
  | _ => none
def datL : List D → Option (List PyData)
  | [] => some []
  | x :: xs => match dat x, datL xs with
    | some d, some ds => some (d :: ds)
    | _, _ => none
end
mutual
/-- == of data -/
def deq : D → D → Bool
  | .non, .non => true
  | .bl a, .bl b => a == b
  | .bl a, .int j => (if a then 1 else 0) == j
  | .int i, .bl b => i == (if b then 1 else 0)
  | .int i, .int j => i == j
  | .str x, .str y => x == y
  | .lst xs, .lst ys => deqL xs ys
  | .tup xs, .tup ys => deqL xs ys
  | _, _ => false
def deqL : List D → List D → Bool
  | [], [] => true
  | x :: xs, y :: ys => deq x y && deqL xs ys
  | _, _ => false
end
theorem datL_cons {x : D} {xs : List D} {d : List PyData} (h : datL (x :: xs) = some d) : ∃ y ys, dat x = some y ∧ datL xs = some ys ∧ d = y :: ys := by
  unfold datL at h
  cases h1 : dat x with
  | none => rw [h1] at h; cases h
  | some y =>
    cases h2 : datL xs with
    | none => rw [h1, h2] at h; cases h
    | some ys => rw [h1, h2] at h; exact ⟨y, ys, rfl, rfl, (Option.some.inj h).symm⟩
mutual
theorem deq_dat : ∀ (x y : D) (d e : PyData), dat x = some d → dat y = some e → PyData.eqv d e = deq x y
  | x, y, d, e, h1, h2 => by
    cases x <;> cases y <;> simp only [dat, Option.map_eq_some_iff, Option.some.injEq, reduceCtorEq] at h1 h2 <;> (try contradiction)
    all_goals first
      | (obtain ⟨d', h1, rfl⟩ := h1; obtain ⟨e', h2, rfl⟩ := h2; simp only [PyData.eqv, deq]; done)
      | (obtain ⟨d', h1, rfl⟩ := h1; obtain ⟨e', h2, rfl⟩ := h2; simp only [PyData.eqv, deq]; exact deqL_dat _ _ _ _ h1 h2)
      | (obtain ⟨d', h1, rfl⟩ := h1; subst h2; simp only [PyData.eqv, deq])
      | (obtain ⟨e', h2, rfl⟩ := h2; subst h1; simp only [PyData.eqv, deq])
      | (subst h1 h2; simp only [PyData.eqv, deq])
theorem deqL_dat : ∀ (x y : List D) (d e : List PyData), datL x = some d → datL y = some e → PyData.eqvAll d e = deqL x y
  | [], [], d, e, h1, h2 => by
    simp only [datL, Option.some.injEq] at h1 h2
    subst h1 h2
    simp only [PyData.eqvAll, deqL]
  | [], y :: ys, d, e, h1, h2 => by
    simp only [datL, Option.some.injEq] at h1
    subst h1
    obtain ⟨b, bs, e1, e2, rfl⟩ := datL_cons h2
    simp only [PyData.eqvAll, deqL]
  | x :: xs, [], d, e, h1, h2 => by
    simp only [datL, Option.some.injEq] at h2
    subst h2
    obtain ⟨b, bs, e1, e2, rfl⟩ := datL_cons h1
    simp only [PyData.eqvAll, deqL]
  | x :: xs, y :: ys, d, e, h1, h2 => by
    obtain ⟨a, as, f1, f2, rfl⟩ := datL_cons h1
    obtain ⟨b, bs, g1, g2, rfl⟩ := datL_cons h2
    simp only [PyData.eqvAll, deqL, deq_dat x y a b f1 g1, deqL_dat xs ys as bs f2 g2]
end
mutual
theorem dp_of {B : Bg} {F : Hp} {r : List Addr} {H : Hp} (s : Sub F H) : ∀ (x : D) (d : PyData) (v : V), dat x = some d → Rep B F r x v → Dp B.K H v d
  | .non, d, v, h, q => by cases h; cases q; exact .non
  | .bl b, d, v, h, q => by cases h; cases q; exact .bl b
  | .int b, d, v, h, q => by cases h; cases q; exact .int b
  | .str b, d, v, h, q => by cases h; cases q; exact .str b
  | .tup xs, d, v, h, ⟨a, vs, e, q, w⟩ => by
    unfold dat at h
    obtain ⟨ds, h1, rfl⟩ := Option.map_eq_some_iff.mp h
    subst e
    exact .tup (s.sqT q) (dpL_of s xs ds vs h1 w)
  | .lst xs, d, v, h, ⟨a, vs, e, q, w⟩ => by
    unfold dat at h
    obtain ⟨ds, h1, rfl⟩ := Option.map_eq_some_iff.mp h
    subst e
    exact .lst (.inl (.inl (s _ _ q))) (dpL_of s xs ds vs h1 w)
theorem dpL_of {B : Bg} {F : Hp} {r : List Addr} {H : Hp} (s : Sub F H) : ∀ (x : List D) (d : List PyData) (v : List V), datL x = some d → Reps B F r x v → DpAll B.K H v d
  | [], d, v, h, q => by
    unfold datL at h
    cases h
    cases q
    exact .nil
  | x :: xs, d, v, h, ⟨y, t, e, w1, w2⟩ => by
    obtain ⟨a, as, f1, f2, rfl⟩ := datL_cons h
    subst e
    exact .cons (dp_of s x a y f1 w1) (dpL_of s xs as t f2 w2)
end
def okD (x : D) : Bool := match dat x with
  | some d => SeqAt.shaped d
  | none => false
theorem okD_some {x : D} (h : okD x = true) : ∃ d, dat x = some d ∧ SeqAt.shaped d = true := by
  unfold okD at h
  split at h
  · exact ⟨_, by assumption, h⟩
  · cases h
/-- scalars that are compared at once -/
def scalD : D → D → Bool
  | .non, .non => true
  | .non, .int _ => true
  | .int _, .non => true
  | .non, .bl _ => true
  | .bl _, .non => true
  | .non, .str _ => true
  | .str _, .non => true
  | .int _, .int _ => true
  | .bl _, .bl _ => true
  | .str _, .str _ => true
  | .int _, .str _ => true
  | .str _, .int _ => true
  | _, _ => false
theorem scal_of {B : Bg} {F : Hp} {r : List Addr} {x y : D} {v u : V} (h : scalD x y = true) (p : Rep B F r x v) (q : Rep B F r y u) : scal v u = true ∧ decide (v = u) = deq x y := by
  cases x <;> cases y <;> simp only [scalD, reduceCtorEq] at h <;> cases p <;> cases q <;> refine ⟨rfl, ?_⟩ <;> simp [deq] <;> rfl
/-! ### the operators -/
def oAdd : Op2
  | .int a, .int b, k => k (.v (.int (a + b)))
  | .str a, .str b, k => a.length + b.length ≤ sizeLine ∧ k (.v (.str (a ++ b)))
  | .lst a, .lst b, k => a.length + b.length ≤ sizeLine ∧ k (.o (.lst (a ++ b)))
  | .tup a, .tup b, k => a.length + b.length ≤ sizeLine ∧ k (.v (.tup (a ++ b)))
  | _, _, _ => False
def oSub : Op2
  | .int a, .int b, k => k (.v (.int (a - b)))
  | _, _, _ => False
def oMul : Op2
  | .int a, .int b, k => IntMulOk a b ∧ k (.v (.int (a * b)))
  | .lst a, .int b, k => b < 2 ^ 62 ∧ -(2 ^ 62) ≤ b ∧ a.length * b.toNat ≤ sizeLine ∧ k (.o (.lst (List.replicate b.toNat a).flatten))
  | .tup a, .int b, k => (a ≠ [] ∧ a.length ≤ 1000) ∧ 2 ≤ b ∧ b ≤ 1000 ∧ k (.v (.tup (List.replicate b.toNat a).flatten))
  | .str a, .int b, k => 2 ≤ b ∧ b < 2 ^ 62 ∧ ((a.length == 0) = false ∧ a.length * b.toNat ≤ 1000000 ∧ (⟨(List.replicate b.toNat a.cps).foldl (· ++ ·) #[]⟩ : Str).length ≤ sizeLine) ∧ k (.v (.str ⟨(List.replicate b.toNat a.cps).foldl (· ++ ·) #[]⟩))
  | _, _, _ => False
def oDiv : Op2
  | .int a, .int b, k => CDivW a b ∧ k (.v (.int (a / b)))
  | _, _, _ => False
def oMod : Op2
  | .int a, .int b, k => 0 < b ∧ k (.v (.int (a % b)))
  | _, _, _ => False
def oPow : Op2
  | .int a, .int b, k => (0 ≤ b ∧ b ≤ 1000000 ∧ a.natAbs < 2 ^ 64) ∧ k (.v (.int (a ^ b.toNat)))
  | _, _, _ => False
def oEq : Op2 := fun x y k => (scalD x y = true ∨ (okD x = true ∧ okD y = true)) ∧ k (.v (.bl (deq x y)))
def oNe : Op2 := fun x y k => (scalD x y = true ∨ (okD x = true ∧ okD y = true)) ∧ k (.v (.bl (!deq x y)))
def oLt : Op2
  | .int a, .int b, k => k (.v (.bl (decide (a < b))))
  | _, _, _ => False
def oLe : Op2
  | .int a, .int b, k => k (.v (.bl (decide (a ≤ b))))
  | _, _, _ => False
def oGt : Op2
  | .int a, .int b, k => k (.v (.bl (decide (b < a))))
  | _, _, _ => False
def oGe : Op2
  | .int a, .int b, k => k (.v (.bl (decide (b ≤ a))))
  | _, _, _ => False
def flatD : D → Bool
  | .non => true
  | .bl _ => true
  | .int _ => true
  | .str _ => true
  | _ => false
def oIn : Op2
  | x, .lst ys, k => ((flatD x = true ∧ ys.all flatD = true) ∨ (okD x = true ∧ okD (.lst ys) = true)) ∧ k (.v (.bl (ys.any fun y => deq y x)))
  | x, .tup ys, k => (flatD x = true ∧ ys.all flatD = true) ∧ k (.v (.bl (ys.any fun y => deq y x)))
  | x, .str b, k => ∃ a, x = .str a ∧ k (.v (.bl (!(Builtin.Str.occurrences b a 0 b.length 1).isEmpty)))
  | _, _, _ => False
def oNotIn : Op2
  | x, .lst ys, k => ((flatD x = true ∧ ys.all flatD = true) ∨ (okD x = true ∧ okD (.lst ys) = true)) ∧ k (.v (.bl (!ys.any fun y => deq y x)))
  | x, .tup ys, k => (flatD x = true ∧ ys.all flatD = true) ∧ k (.v (.bl (!ys.any fun y => deq y x)))
  | x, .str b, k => ∃ a, x = .str a ∧ k (.v (.bl (!(!(Builtin.Str.occurrences b a 0 b.length 1).isEmpty))))
  | _, _, _ => False
/-- is None, is not None -/
def isNone : D → Bool
  | .non => true
  | _ => false
def oIs : Op2
  | x, .non, k => k (.v (.bl (isNone x)))
  | _, _, _ => False
def oIsNot : Op2
  | x, .non, k => k (.v (.bl (!isNone x)))
  | _, _, _ => False
theorem mono_oAdd : Mono2 oAdd := fun x y k k' hk h => by
  cases x <;> cases y <;> simp only [oAdd] at h ⊢ <;> first | exact hk _ h | exact ⟨h.1, hk _ h.2⟩ | exact h
theorem mono_oSub : Mono2 oSub := fun x y k k' hk h => by
  cases x <;> cases y <;> simp only [oSub] at h ⊢ <;> first | exact hk _ h | exact h
theorem mono_oMul : Mono2 oMul := fun x y k k' hk h => by
  cases x <;> cases y <;> simp only [oMul] at h ⊢ <;> first | exact ⟨h.1, hk _ h.2⟩ | exact ⟨h.1, h.2.1, h.2.2.1, hk _ h.2.2.2⟩ | exact h
theorem mono_oDiv : Mono2 oDiv := fun x y k k' hk h => by
  cases x <;> cases y <;> simp only [oDiv] at h ⊢ <;> first | exact ⟨h.1, hk _ h.2⟩ | exact h
theorem mono_oMod : Mono2 oMod := fun x y k k' hk h => by
  cases x <;> cases y <;> simp only [oMod] at h ⊢ <;> first | exact ⟨h.1, hk _ h.2⟩ | exact h
theorem mono_oPow : Mono2 oPow := fun x y k k' hk h => by
  cases x <;> cases y <;> simp only [oPow] at h ⊢ <;> first | exact ⟨h.1, hk _ h.2⟩ | exact h
theorem mono_oEq : Mono2 oEq := fun x y k k' hk h => ⟨h.1, hk _ h.2⟩
theorem mono_oNe : Mono2 oNe := fun x y k k' hk h => ⟨h.1, hk _ h.2⟩
theorem mono_oLt : Mono2 oLt := fun x y k k' hk h => by
  cases x <;> cases y <;> simp only [oLt] at h ⊢ <;> first | exact hk _ h | exact h
theorem mono_oLe : Mono2 oLe := fun x y k k' hk h => by
  cases x <;> cases y <;> simp only [oLe] at h ⊢ <;> first | exact hk _ h | exact h
theorem mono_oGt : Mono2 oGt := fun x y k k' hk h => by
  cases x <;> cases y <;> simp only [oGt] at h ⊢ <;> first | exact hk _ h | exact h
theorem mono_oGe : Mono2 oGe := fun x y k k' hk h => by
  cases x <;> cases y <;> simp only [oGe] at h ⊢ <;> first | exact hk _ h | exact h
theorem mono_oIn : Mono2 oIn := fun x y k k' hk h => by
  cases y <;> simp only [oIn] at h ⊢ <;> first | exact ⟨h.1, hk _ h.2⟩ | (obtain ⟨z, e, h⟩ := h; exact ⟨z, e, hk _ h⟩) | exact h
theorem mono_oNotIn : Mono2 oNotIn := fun x y k k' hk h => by
  cases y <;> simp only [oNotIn] at h ⊢ <;> first | exact ⟨h.1, hk _ h.2⟩ | (obtain ⟨z, e, h⟩ := h; exact ⟨z, e, hk _ h⟩) | exact h
theorem mono_oIs : Mono2 oIs := fun x y k k' hk h => by
  cases y <;> simp only [oIs] at h ⊢ <;> first | exact hk _ h | exact h
theorem mono_oIsNot : Mono2 oIsNot := fun x y k k' hk h => by
  cases y <;> simp only [oIsNot] at h ⊢ <;> first | exact hk _ h | exact h
theorem Reps.len {B : Bg} {F : Hp} {r : List Addr} : ∀ {ds : List D} {vs : List V}, Reps B F r ds vs → vs.length = ds.length
  | [], vs, h => by cases h; rfl
  | d :: ds, vs, ⟨v, t, e, _, h⟩ => by rw [e, List.length_cons, Reps.len h, List.length_cons]
theorem Reps.app {B : Bg} {F : Hp} {r : List Addr} {es : List D} {us : List V} (h' : Reps B F r es us) : ∀ {ds : List D} {vs : List V}, Reps B F r ds vs → Reps B F r (ds ++ es) (vs ++ us)
  | [], vs, h => by cases h; exact h'
  | d :: ds, vs, ⟨v, t, e, q, h⟩ => ⟨v, t ++ us, by rw [e]; rfl, q, Reps.app h' h⟩
theorem Reps.rep {B : Bg} {F : Hp} {r : List Addr} {ds : List D} {vs : List V} (h : Reps B F r ds vs) : ∀ n : Nat, Reps B F r (List.replicate n ds).flatten (List.replicate n vs).flatten
  | 0 => rfl
  | n + 1 => by
    rw [List.replicate_succ, List.replicate_succ, List.flatten_cons, List.flatten_cons]
    exact Reps.app (Reps.rep h n) h
theorem Reps.get {B : Bg} {F : Hp} {r : List Addr} : ∀ {ds : List D} {vs : List V} {i : Nat} {d : D}, Reps B F r ds vs → ds[i]? = some d → ∃ v, vs[i]? = some v ∧ Rep B F r d v
  | [], vs, i, d, h, e => by simp at e
  | x :: ds, vs, 0, d, ⟨v, t, e, q, h⟩, f => by
    simp at f
    subst f e
    exact ⟨v, rfl, q⟩
  | x :: ds, vs, i + 1, d, ⟨v, t, e, q, h⟩, f => by
    obtain ⟨u, g1, g2⟩ := Reps.get (i := i) (d := d) h (by simpa using f)
    subst e
    exact ⟨u, by simpa using g1, g2⟩
theorem Reps.take {B : Bg} {F : Hp} {r : List Addr} : ∀ {ds : List D} {vs : List V} (n : Nat), Reps B F r ds vs → Reps B F r (ds.take n) (vs.take n)
  | ds, vs, 0, h => rfl
  | [], vs, n + 1, h => by cases h; rfl
  | x :: ds, vs, n + 1, ⟨v, t, e, q, h⟩ => ⟨v, t.take n, by rw [e]; rfl, q, Reps.take n h⟩
theorem Reps.drop {B : Bg} {F : Hp} {r : List Addr} : ∀ {ds : List D} {vs : List V} (n : Nat), Reps B F r ds vs → Reps B F r (ds.drop n) (vs.drop n)
  | ds, vs, 0, h => h
  | [], vs, n + 1, h => by cases h; rfl
  | x :: ds, vs, n + 1, ⟨v, t, e, q, h⟩ => by rw [e]; exact Reps.drop n h
theorem Rep.flat {B : Bg} {F : Hp} {r : List Addr} {d : D} {v : V} (h : Rep B F r d v) (f : flatD d = true) : flatV v = true := by
  cases d <;> simp only [flatD, reduceCtorEq] at f <;> cases h <;> rfl
theorem Rep.eqV {B : Bg} {F : Hp} {r : List Addr} {d e : D} {v u : V} (h : Rep B F r d v) (h' : Rep B F r e u) (f : flatD d = true) (f' : flatD e = true) : eqV v u = deq d e := by
  cases d <;> cases e <;> simp only [flatD, reduceCtorEq] at f f' <;> cases h <;> cases h' <;> rfl
theorem Reps.flat {B : Bg} {F : Hp} {r : List Addr} : ∀ {ds : List D} {vs : List V}, Reps B F r ds vs → ds.all flatD = true → vs.all flatV = true
  | [], vs, h, _ => by cases h; rfl
  | x :: ds, vs, ⟨v, t, e, q, h⟩, f => by
    rw [List.all_cons, Bool.and_eq_true] at f
    rw [e, List.all_cons, q.flat f.1, Reps.flat h f.2]
    rfl
theorem Reps.any {B : Bg} {F : Hp} {r : List Addr} {x : D} {u : V} (hx : Rep B F r x u) (fx : flatD x = true) : ∀ {ds : List D} {vs : List V}, Reps B F r ds vs → ds.all flatD = true → inV u vs = ds.any fun y => deq y x
  | [], vs, h, _ => by cases h; rfl
  | d :: ds, vs, ⟨v, t, e, q, h⟩, f => by
    rw [List.all_cons, Bool.and_eq_true] at f
    have ih : inV u t = _ := Reps.any hx fx h f.2
    rw [e]
    show (L2.eqV v u || inV u t) = _
    rw [ih, q.eqV hx f.1 fx]
    rfl
section
variable {B : Bg} {X : Cx}
theorem or_add (hK : X.K = B.K) : OpR X (binaryOp .Add) (rG B oAdd) := by
  intro pins s σ' H v u a b Q I rv ru ⟨σ, F, r, en, st, x, y, R, p, q, h⟩
  cases x <;> cases y <;> simp only [oAdd] at h
  · cases p; cases q
    exact op_add pins s σ' H _ _ _ _ Q I rv ru ⟨_, _, rfl, rfl, kp_val h R rfl⟩
  · cases p; cases q
    exact op_add_str pins s σ' H _ _ _ _ Q I rv ru ⟨_, _, rfl, rfl, h.1, kp_val h.2 R rfl⟩
  · rename_i xs ys
    obtain ⟨c, vs, rfl, e1, w1⟩ := p
    obtain ⟨c', vs', rfl, e2, w2⟩ := q
    refine op_catA pins s σ' H _ _ _ _ Q I rv ru ⟨_, _, vs, vs', rfl, rfl, by rw [hK]; exact R.w.sub.sqT e1, by rw [hK]; exact R.w.sub.sqT e2, by rw [w1.len, w2.len]; exact h.1, fun z => ?_, fun _ z => ?_, fun _ _ p hp => ?_⟩
    · subst z
      have ez : xs = [] := List.eq_nil_of_length_eq_zero (by rw [← w1.len]; rfl)
      subst ez
      exact kp_val h.2 R ⟨c', vs', rfl, e2, w2⟩
    · subst z
      have ez : ys = [] := List.eq_nil_of_length_eq_zero (by rw [← w2.len]; rfl)
      subst ez
      rw [List.append_nil] at h
      exact kp_val h.2 R ⟨c, vs, rfl, e1, w1⟩
    · exact kp_tup h.2 R hp (Reps.app w2 w1)
  · obtain ⟨c, vs, rfl, e1, w1⟩ := p
    obtain ⟨c', vs', rfl, e2, w2⟩ := q
    exact op_cat pins s σ' H _ _ _ _ Q I rv ru ⟨_, _, vs, vs', rfl, rfl, R.w.sub _ _ e1, R.w.sub _ _ e2, by rw [w1.len, w2.len]; exact h.1, fun p hp => kp_new h.2 R hp ⟨_, rfl, Reps.app w2 w1⟩⟩
theorem or_sub : OpR X (binaryOp .Sub) (rG B oSub) := by
  intro pins s σ' H v u a b Q I rv ru ⟨σ, F, r, en, st, x, y, R, p, q, h⟩
  cases x <;> cases y <;> simp only [oSub] at h
  cases p; cases q
  exact op_sub pins s σ' H _ _ _ _ Q I rv ru ⟨_, _, rfl, rfl, kp_val h R rfl⟩
theorem or_mul (hK : X.K = B.K) : OpR X (binaryOp .Mult) (rG B oMul) := by
  intro pins s σ' H v u a b Q I rv ru ⟨σ, F, r, en, st, x, y, R, p, q, h⟩
  cases x <;> cases y <;> simp only [oMul] at h
  · cases p; cases q
    obtain ⟨t, rfl⟩ := rv
    obtain ⟨t', rfl⟩ := ru
    exact mul_int ⟨.int _, H, I.tok _, ⟨_, rfl⟩, kp_val h.2 R rfl⟩ h.1
  · cases p; cases q
    rename_i z n
    obtain ⟨t, rfl⟩ := rv
    obtain ⟨t', rfl⟩ := ru
    obtain ⟨h1, h2, ⟨h3, h4, h6⟩, h5⟩ := h
    have n1 : ¬ n < 1 := by omega
    have n2 : ((n == 1) || (z.length == 0)) = false := by rw [h3, Bool.or_false]; exact beq_eq_false_iff_ne.mpr (by omega)
    refine P.mul_str (by rw [decide_eq_false (by omega), decide_eq_false (by omega)]; rfl) (fun _ _ => ?_) (fun _ _ => ?_) ?_
    · have e0 : 1 ≤ z.length := Nat.pos_of_ne_zero (by simpa using h3)
      have e1 : ((z.length * n.toNat : Nat) : Int) ≤ 1000000 := by omega
      have e2 : (z.length : Int) * n ≤ 1000000 := by
        have : (n.toNat : Int) = n := Int.toNat_of_nonneg (by omega)
        rw [Int.natCast_mul, this] at e1
        exact e1
      have e3 : (z.length : Int) ≤ (2 ^ 63 - 1) / n := by
        rw [Int.le_ediv_iff_mul_le (by omega)]
        omega
      omega
    · show Builtin.Str.tooLong _ = false
      unfold Builtin.Str.tooLong
      have : z.length * n.toNat ≤ 1000000 := h4
      simp only [decide_eq_false_iff_not, sizeLine_eq]
      omega
    · rw [if_neg n1, if_neg (by rw [n2]; exact Bool.false_ne_true)]
      exact ⟨h6, .str _, H, I.tok _, ⟨_, rfl⟩, kp_val h5 R rfl⟩
  · cases q
    rename_i zs n
    obtain ⟨c, vs, rfl, e1, w1⟩ := p
    obtain ⟨⟨h1, h2⟩, h3, h4, h5⟩ := h
    refine op_repT pins s σ' H _ _ _ _ Q I rv ru ⟨_, _, vs, rfl, rfl, by rw [hK]; exact R.w.sub.sqT e1, fun z => h1 (List.eq_nil_of_length_eq_zero (by rw [← w1.len, z]; rfl)), h3, h4, by rw [w1.len]; exact h2, fun p hp => kp_tup h5 R hp (w1.rep _)⟩
  · cases q
    obtain ⟨c, vs, rfl, e1, w1⟩ := p
    obtain ⟨h1, h2, h3, h4⟩ := h
    refine op_rep pins s σ' H _ _ _ _ Q I rv ru ⟨_, _, vs, rfl, rfl, R.w.sub _ _ e1, by omega, by omega, by rw [w1.len]; exact h3, fun p hp => kp_new h4 R hp ⟨_, rfl, w1.rep _⟩⟩
theorem or_div : OpR X (binaryOp .FloorDiv) (rG B oDiv) := by
  intro pins s σ' H v u a b Q I rv ru ⟨σ, F, r, en, st, x, y, R, p, q, h⟩
  cases x <;> cases y <;> simp only [oDiv] at h
  cases p; cases q
  exact op_fdivW pins s σ' H _ _ _ _ Q I rv ru ⟨_, _, rfl, rfl, h.1, kp_val h.2 R rfl⟩
theorem or_mod : OpR X (binaryOp .Mod) (rG B oMod) := by
  intro pins s σ' H v u a b Q I rv ru ⟨σ, F, r, en, st, x, y, R, p, q, h⟩
  cases x <;> cases y <;> simp only [oMod] at h
  cases p; cases q
  exact op_mod pins s σ' H _ _ _ _ Q I rv ru ⟨_, _, rfl, rfl, h.1, kp_val h.2 R rfl⟩
theorem or_pow : OpR X (binaryOp .Pow) (rG B oPow) := by
  intro pins s σ' H v u a b Q I rv ru ⟨σ, F, r, en, st, x, y, R, p, q, h⟩
  cases x <;> cases y <;> simp only [oPow] at h
  cases p; cases q
  exact op_pow pins s σ' H _ _ _ _ Q I rv ru ⟨_, _, rfl, rfl, h.1, kp_val h.2 R rfl⟩
theorem or_eq (hK : X.K = B.K) (hu : X.A.units + 64 < cLine) : OpR X (compareOp .Eq) (rG B oEq) := by
  intro pins s σ' H v u a b Q I rv ru ⟨σ, F, r, en, st, x, y, R, p, q, h1, h2⟩
  rcases h1 with h1 | ⟨h1, h1'⟩
  · obtain ⟨e1, e2⟩ := scal_of h1 p q
    exact op_eq pins s σ' H _ _ _ _ Q I rv ru ⟨e1, by rw [e2]; exact kp_val h2 R rfl⟩
  · obtain ⟨d, e1, e2⟩ := okD_some h1
    obtain ⟨e, f1, f2⟩ := okD_some h1'
    exact op_eqD hu pins s σ' H _ _ _ _ Q I rv ru ⟨d, e, by rw [hK]; exact dp_of R.w.sub x d v e1 p, by rw [hK]; exact dp_of R.w.sub y e u f1 q, e2, f2, by rw [deq_dat x y d e e1 f1]; exact kp_val h2 R rfl⟩
theorem or_ne (hK : X.K = B.K) (hu : X.A.units + 64 < cLine) : OpR X (compareOp .NotEq) (rG B oNe) := by
  intro pins s σ' H v u a b Q I rv ru ⟨σ, F, r, en, st, x, y, R, p, q, h1, h2⟩
  rcases h1 with h1 | ⟨h1, h1'⟩
  · obtain ⟨e1, e2⟩ := scal_of h1 p q
    exact op_ne pins s σ' H _ _ _ _ Q I rv ru ⟨e1, by rw [e2]; exact kp_val h2 R rfl⟩
  · obtain ⟨d, e1, e2⟩ := okD_some h1
    obtain ⟨e, f1, f2⟩ := okD_some h1'
    exact op_neD hu pins s σ' H _ _ _ _ Q I rv ru ⟨d, e, by rw [hK]; exact dp_of R.w.sub x d v e1 p, by rw [hK]; exact dp_of R.w.sub y e u f1 q, e2, f2, by rw [deq_dat x y d e e1 f1]; exact kp_val h2 R rfl⟩
theorem or_lt : OpR X (compareOp .Lt) (rG B oLt) := by
  intro pins s σ' H v u a b Q I rv ru ⟨σ, F, r, en, st, x, y, R, p, q, h⟩
  cases x <;> cases y <;> simp only [oLt] at h
  cases p; cases q
  exact op_lt pins s σ' H _ _ _ _ Q I rv ru ⟨_, _, rfl, rfl, kp_val h R rfl⟩
theorem or_le : OpR X (compareOp .LtE) (rG B oLe) := by
  intro pins s σ' H v u a b Q I rv ru ⟨σ, F, r, en, st, x, y, R, p, q, h⟩
  cases x <;> cases y <;> simp only [oLe] at h
  cases p; cases q
  exact op_le pins s σ' H _ _ _ _ Q I rv ru ⟨_, _, rfl, rfl, kp_val h R rfl⟩
theorem or_gt : OpR X (compareOp .Gt) (rG B oGt) := by
  intro pins s σ' H v u a b Q I rv ru ⟨σ, F, r, en, st, x, y, R, p, q, h⟩
  cases x <;> cases y <;> simp only [oGt] at h
  cases p; cases q
  exact op_gt pins s σ' H _ _ _ _ Q I rv ru ⟨_, _, rfl, rfl, kp_val h R rfl⟩
theorem or_ge : OpR X (compareOp .GtE) (rG B oGe) := by
  intro pins s σ' H v u a b Q I rv ru ⟨σ, F, r, en, st, x, y, R, p, q, h⟩
  cases x <;> cases y <;> simp only [oGe] at h
  cases p; cases q
  exact op_ge pins s σ' H _ _ _ _ Q I rv ru ⟨_, _, rfl, rfl, kp_val h R rfl⟩
theorem any_dat {x : D} {d : PyData} (hx : dat x = some d) : ∀ (ys : List D) (ds : List PyData), datL ys = some ds → (ds.any fun z => PyData.eqv z d) = ys.any fun y => deq y x
  | [], ds, h => by
    unfold datL at h
    cases h
    rfl
  | y :: ys, ds, h => by
    obtain ⟨a, as, f1, f2, rfl⟩ := datL_cons h
    rw [List.any_cons, List.any_cons, any_dat hx ys as f2, deq_dat y x a d f1 hx]
theorem okD_list {ys : List D} (h : okD (.lst ys) = true) : ∃ ds, datL ys = some ds ∧ SeqAt.shaped (.list ds) = true := by
  obtain ⟨d, h1, h2⟩ := okD_some h
  unfold dat at h1
  obtain ⟨ds, h3, rfl⟩ := Option.map_eq_some_iff.mp h1
  exact ⟨ds, h3, h2⟩
theorem or_in (hK : X.K = B.K) (hu : X.A.units + 65 < cLine) : OpR X (compareOp .In) (rG B oIn) := by
  intro pins s σ' H v u a b Q I rv ru ⟨σ, F, r, en, st, x, y, R, p, q, h⟩
  cases y <;> simp only [oIn] at h
  · cases q
    obtain ⟨z, rfl, h⟩ := h
    cases p
    exact op_in_str pins s σ' H _ _ _ _ Q I rv ru ⟨_, _, rfl, rfl, kp_val h R rfl⟩
  · obtain ⟨c, vs, rfl, e1, w1⟩ := q
    obtain ⟨⟨h1, h2⟩, h3⟩ := h
    refine op_in_seq pins s σ' H _ _ _ _ Q I rv ru ⟨c, vs, rfl, .inr (by rw [hK]; exact R.w.sub.sqT e1), p.flat h1, w1.flat h2, ?_⟩
    rw [if_neg Bool.false_ne_true]
    rw [Reps.any p h1 w1 h2]
    exact kp_val h3 R rfl
  · obtain ⟨c, vs, rfl, e1, w1⟩ := q
    obtain ⟨⟨h1, h2⟩ | ⟨h1, h2⟩, h3⟩ := h
    · refine op_in_seq pins s σ' H _ _ _ _ Q I rv ru ⟨c, vs, rfl, .inl (.inl (.inl (R.w.sub _ _ e1))), p.flat h1, w1.flat h2, ?_⟩
      rw [if_neg Bool.false_ne_true]
      rw [Reps.any p h1 w1 h2]
      exact kp_val h3 R rfl
    · obtain ⟨d, d1, d2⟩ := okD_some h1
      obtain ⟨ds, d3, d4⟩ := okD_list h2
      refine op_inD hu pins s σ' H _ _ _ _ Q I rv ru ⟨d, ds, by rw [hK]; exact dp_of R.w.sub x d v d1 p, by rw [hK]; exact .lst (.inl (.inl (R.w.sub _ _ e1))) (dpL_of R.w.sub _ ds vs d3 w1), d2, d4, ?_⟩
      rw [any_dat d1 _ ds d3]
      exact kp_val h3 R rfl
theorem or_notin (hK : X.K = B.K) (hu : X.A.units + 65 < cLine) : OpR X (compareOp .NotIn) (rG B oNotIn) := by
  intro pins s σ' H v u a b Q I rv ru ⟨σ, F, r, en, st, x, y, R, p, q, h⟩
  cases y <;> simp only [oNotIn] at h
  · cases q
    obtain ⟨z, rfl, h⟩ := h
    cases p
    exact op_notin_str pins s σ' H _ _ _ _ Q I rv ru ⟨_, _, rfl, rfl, kp_val h R rfl⟩
  · obtain ⟨c, vs, rfl, e1, w1⟩ := q
    obtain ⟨⟨h1, h2⟩, h3⟩ := h
    refine op_notIn_seq pins s σ' H _ _ _ _ Q I rv ru ⟨c, vs, rfl, .inr (by rw [hK]; exact R.w.sub.sqT e1), p.flat h1, w1.flat h2, ?_⟩
    rw [if_pos rfl]
    rw [Reps.any p h1 w1 h2]
    exact kp_val h3 R rfl
  · obtain ⟨c, vs, rfl, e1, w1⟩ := q
    obtain ⟨⟨h1, h2⟩ | ⟨h1, h2⟩, h3⟩ := h
    · refine op_notIn_seq pins s σ' H _ _ _ _ Q I rv ru ⟨c, vs, rfl, .inl (.inl (.inl (R.w.sub _ _ e1))), p.flat h1, w1.flat h2, ?_⟩
      rw [if_pos rfl]
      rw [Reps.any p h1 w1 h2]
      exact kp_val h3 R rfl
    · obtain ⟨d, d1, d2⟩ := okD_some h1
      obtain ⟨ds, d3, d4⟩ := okD_list h2
      refine op_notInD hu pins s σ' H _ _ _ _ Q I rv ru ⟨d, ds, by rw [hK]; exact dp_of R.w.sub x d v d1 p, by rw [hK]; exact .lst (.inl (.inl (R.w.sub _ _ e1))) (dpL_of R.w.sub _ ds vs d3 w1), d2, d4, ?_⟩
      rw [any_dat d1 _ ds d3]
      exact kp_val h3 R rfl
theorem Rep.none_iff {F : Hp} {r : List Addr} {d : D} {v : V} (h : Rep B F r d v) : decide (v = .non) = isNone d := by
  cases d <;> simp only [Rep] at h
  case tup => obtain ⟨_, _, rfl, _⟩ := h; rfl
  case lst => obtain ⟨_, _, rfl, _⟩ := h; rfl
  case dct => obtain ⟨_, _, rfl, _⟩ := h; rfl
  case box => obtain ⟨_, _, rfl⟩ := h; rfl
  case obj => obtain ⟨_, _, _, _, rfl, _⟩ := h; rfl
  case cl => obtain ⟨rfl, _⟩ := h; rfl
  case scr => obtain ⟨_, rfl, _⟩ := h; rfl
  all_goals (cases h; rfl)
theorem or_is : OpR X (compareOp .Is) (rG B oIs) := by
  intro pins s σ' H v u a b Q I rv ru ⟨σ, F, r, en, st, x, y, R, p, q, h⟩
  cases y <;> simp only [oIs] at h
  cases q
  refine op_isN pins s σ' H _ _ _ _ Q I rv ru ⟨rfl, ?_⟩
  rw [p.none_iff]
  exact kp_val h R rfl
theorem or_isnot : OpR X (compareOp .IsNot) (rG B oIsNot) := by
  intro pins s σ' H v u a b Q I rv ru ⟨σ, F, r, en, st, x, y, R, p, q, h⟩
  cases y <;> simp only [oIsNot] at h
  cases q
  refine op_notN pins s σ' H _ _ _ _ Q I rv ru ⟨rfl, ?_⟩
  rw [p.none_iff]
  exact kp_val h R rfl
end
end Ev
set_option Elab.async false
set_option linter.all false
set_option autoImplicit false
set_option maxRecDepth 100000
/-! Ev, part D: expressions. -/
namespace Ev
open PySem PySem.Spec PyProof.Rows L2
theorem notStar_each {e : Expr} {es : List Expr} {env : PySem.Env} (h : ∀ x p, e ≠ .Starred x p) : starEach (e :: es) env = (false, eval e env) :: starEach es env := by
  cases e <;> first | rfl | exact absurd rfl (h _ _)
theorem noSet_marks {op : CmpOp} {e : Expr} (h : ∀ x k p, e ≠ .Set x k p) : behindInMarks op e = false := by
  cases e <;> first | rfl | exact absurd rfl (h _ _ _)
section
variable {B : Bg} {W : WX} {X : Cx} {e a b c : Expr} {es : List Expr} {pos : Pos} {te ta tb tc : DTE} {tA : DTA} {tt tu : DTT}
theorem de_bin {op : Operator} {g : Op2} (ho : OpR X (binaryOp op) (rG B g)) (mg : Mono2 g) (ha : DE B W X a ta) (hb : DE B W X b tb) : DE B W X (.BinOp a op b pos) (dOp g ta tb) :=
  ⟨dOp_mono mg ha.mono hb.mono, PE.weak (pe_op ho ha.run hb.run) fun _ _ _ h => op_two mg hb.mono ha.mono (fun _ _ _ _ z => z) h⟩
theorem de_cmp {op : CmpOp} {g : Op2} (ho : OpR X (compareOp op) (rG B g)) (mg : Mono2 g) (ha : DE B W X a ta) (hb : DE B W X b tb) (hm : behindInMarks op b = false) : DE B W X (.Compare a [op] [b] pos) (dOp g ta tb) :=
  ⟨dOp_mono mg ha.mono hb.mono, PE.weak (pe_cmpR ho ha.run hb.run hm) fun _ _ _ h => op_two mg hb.mono ha.mono (fun _ _ _ _ z => z) h⟩
/-! ### tests -/
def dTst (te : DTE) : DTT := fun en st k e => te en st (fun x en1 st1 => ∃ b, x.d = .bl b ∧ k b en1 st1) e
theorem dTst_mono (m : MonoE te) : MonoT (dTst te) := fun en st k k' e e' hk he h => m _ _ _ _ _ _ (fun x n s ⟨b, e1, e2⟩ => ⟨b, e1, hk _ _ _ e2⟩) he h
theorem tst {σ : Sl} {H : Hp} {Q : Bool → Hp → Prop} (m : MonoE te) (h : tMT B W (dTst te) σ H Q) : tM B W te σ H fun x H' => ∃ k, x = .bl k ∧ Q k H' := by
  obtain ⟨F, r, en, st, R, q⟩ := h
  refine at_bind (k := fun d _ en1 st1 => ∃ b, d = .bl b ∧ Bpost B σ Q F r en H b en1 st1) m R (m _ _ _ _ _ _ (fun _ _ _ z => z) (fun _ _ _ z => z) q) fun d en1 st1 F1 r1 H1 v S1 R1 rep1 h1 => ?_
  obtain ⟨b, rfl, h2⟩ := h1
  exact ⟨b, rep1, h2 F1 r1 H1 S1 R1⟩
theorem dt_val (h : DE B W X e te) (he : ∀ whole, isTrue e X.env whole = (do let v ← whole; standAt e.pos; holding [v] (truthy v))) : DT B W X e (dTst te) :=
  ⟨dTst_mono h.mono, PT.weak (pt_val h.run he) fun _ _ _ q => tst h.mono q⟩
theorem dt_cmp {op : CmpOp} {g : Op2} (ho : OpR X (compareOp op) (rG B g)) (mg : Mono2 g) (ha : DE B W X a ta) (hb : DE B W X b tb) (hm : behindInMarks op b = false) : DT B W X (.Compare a [op] [b] pos) (dTst (dOp g ta tb)) :=
  ⟨dTst_mono (dOp_mono mg ha.mono hb.mono), PT.weak (pt_cmpR ho ha.run hb.run hm) fun _ _ _ h => op_two mg hb.mono ha.mono (fun _ _ _ _ z => z) (tst (dOp_mono mg ha.mono hb.mono) h)⟩
/-! ### a < b < c -/
def dChain (g g' : Op2) (ta tb tc : DTE) : DTE := fun en st k e => ta en st (fun x en1 st1 => tb en1 st1 (fun y en2 st2 => g x.d y.d fun t => match t with
  | .v (.bl true) => tc en2 st2 (fun z en3 st3 => g' y.d z.d fun t' => k t' en3 st3) e
  | .v (.bl false) => k (.v (.bl false)) en2 st2
  | _ => False) e) e
theorem dChain_mono {g g' : Op2} (mg : Mono2 g) (mg' : Mono2 g') (ma : MonoE ta) (mb : MonoE tb) (mc : MonoE tc) : MonoE (dChain g g' ta tb tc) := fun en st k k' e e' hk he h =>
  ma _ _ _ _ _ _ (fun x en1 st1 h1 => mb _ _ _ _ _ _ (fun y en2 st2 h2 => mg _ _ _ _ (fun t ht => by
    split at ht
    · exact mc _ _ _ _ _ _ (fun z en3 st3 h3 => mg' _ _ _ _ (fun t' h' => hk _ _ _ h') h3) he ht
    · exact hk _ _ _ ht
    · exact ht.elim) h2) he h1) he h
theorem chain_three {r r' : R2} {g g' : Op2} {Q : VK} {σ : Sl} {H : Hp} (mg : Mono2 g) (mg' : Mono2 g') (ma : MonoE ta) (mb : MonoE tb) (mc : MonoE tc) (hg : ∀ v u H Q, rG B g v u H Q → r v u H Q) (hg' : ∀ v u H Q, rG B g' v u H Q → r' v u H Q)
    (h : tM B W (dChain g g' ta tb tc) σ H Q) : tChain r r' (tM B W ta) (tM B W tb) (tM B W tc) σ H Q := by
  obtain ⟨F, rr, en, st, R, q⟩ := h
  refine at_bind (k := fun d _ en1 st1 => tb en1 st1 (fun y en2 st2 => g d y.d fun t => match t with
    | .v (.bl true) => tc en2 st2 (fun z en3 st3 => g' y.d z.d fun t' => Kpost B σ Q F rr en H t' en3 st3) (Epost B σ W F rr en H)
    | .v (.bl false) => Kpost B σ Q F rr en H (.v (.bl false)) en2 st2
    | _ => False) (Epost B σ W F rr en H)) ma R q fun d en1 st1 F1 r1 H1 v S1 R1 rep1 h1 => ?_
  refine at_bind (k := fun d' _ en2 st2 => g d d' fun t => match t with
    | .v (.bl true) => tc en2 st2 (fun z en3 st3 => g' d' z.d fun t' => Kpost B σ Q F rr en H t' en3 st3) (Epost B σ W F rr en H)
    | .v (.bl false) => Kpost B σ Q F rr en H (.v (.bl false)) en2 st2
    | _ => False) mb R1 (mb _ _ _ _ _ _ (fun _ _ _ z => z) (fun _ _ _ z => z.shift S1) h1) fun d' en2 st2 F2 r2 H2 u S2 R2 rep2 h2 => ?_
  refine hg _ _ _ _ ⟨σ, F2, r2, en2, st2, d, d', R2, rep1.step S2, rep2, mg _ _ _ _ (fun t ht => ?_) h2⟩
  intro F3 r3 H3 z S3 R3 t3
  have S := (S1.trans S2).trans S3
  split at ht
  · have ez : z = .bl true := t3
    refine ⟨true, ez, ?_⟩
    rw [if_pos rfl]
    refine at_bind (k := fun d3 _ en3 st3 => g' d' d3 fun t' => Kpost B σ Q F rr en H t' en3 st3) mc R3 (mc _ _ _ _ _ _ (fun _ _ _ z => z) (fun _ _ _ z => z.shift S) ht) fun d3 en4 st4 F4 r4 H4 u' S4 R4 rep4 h4 => ?_
    exact hg' _ _ _ _ ⟨σ, F4, r4, en4, st4, d', d3, R4, (rep2.step S3).step S4, rep4, mg' _ _ _ _ (fun t' h' => h'.shift (S.trans S4)) h4⟩
  · have ez : z = .bl false := t3
    refine ⟨false, ez, ?_⟩
    rw [if_neg Bool.false_ne_true]
    exact kp_val (ht.shift S) R3 rfl
  · exact ht.elim
theorem de_chain {op op' : CmpOp} {g g' : Op2} (ho : OpR X (compareOp op) (rG B g)) (ho' : OpR X (compareOp op') (rG B g')) (mg : Mono2 g) (mg' : Mono2 g') (ha : DE B W X a ta) (hb : DE B W X b tb) (hc : DE B W X c tc) (hm : behindInMarks op' c = false) :
    DE B W X (.Compare a [op, op'] [b, c] pos) (dChain g g' ta tb tc) := by
  refine ⟨dChain_mono mg mg' ha.mono hb.mono hc.mono, PE.weak (pe_chain ho ho' ha.run hb.run hc.run ?_) fun _ _ _ h => chain_three mg mg' ha.mono hb.mono hc.mono (fun _ _ _ _ z => z) (fun _ _ _ _ z => z) h⟩
  all_goals exact hm
theorem dt_chain {op op' : CmpOp} {g g' : Op2} (ho : OpR X (compareOp op) (rG B g)) (ho' : OpR X (compareOp op') (rG B g')) (mg : Mono2 g) (mg' : Mono2 g') (ha : DE B W X a ta) (hb : DE B W X b tb) (hc : DE B W X c tc) (hm : behindInMarks op' c = false) :
    DT B W X (.Compare a [op, op'] [b, c] pos) (dTst (dChain g g' ta tb tc)) := by
  refine ⟨dTst_mono (dChain_mono mg mg' ha.mono hb.mono hc.mono), PT.weak (pt_chain ho ho' ha.run hb.run hc.run ?_) fun _ _ _ h => chain_three mg mg' ha.mono hb.mono hc.mono (fun _ _ _ _ z => z) (fun _ _ _ _ z => z) (tst (dChain_mono mg mg' ha.mono hb.mono hc.mono) h)⟩
  all_goals exact hm
/-! ### one value -/
def dNeg (ta : DTE) : DTE := fun en st k e => ta en st (fun x en1 st1 => ∃ i, x.d = .int i ∧ k (.v (.int (-i))) en1 st1) e
theorem dNeg_mono (m : MonoE ta) : MonoE (dNeg ta) := fun en st k k' e e' hk he h => m _ _ _ _ _ _ (fun x n s ⟨i, e1, e2⟩ => ⟨i, e1, hk _ _ _ e2⟩) he h
theorem de_neg (ha : DE B W X a ta) : DE B W X (.UnaryOp .USub a pos) (dNeg ta) := by
  refine ⟨dNeg_mono ha.mono, PE.weak (pe_un un_neg ha.run) fun σ H Q ⟨F, r, en, st, R, q⟩ => ?_⟩
  refine at_bind (k := fun d _ en1 st1 => ∃ i, d = .int i ∧ Kpost B σ Q F r en H (.v (.int (-i))) en1 st1) ha.mono R q fun d en1 st1 F1 r1 H1 v S1 R1 rep1 h1 => ?_
  obtain ⟨i, rfl, h2⟩ := h1
  exact ⟨i, rep1, kp_val (h2.shift S1) R1 rfl⟩
/-! ### and, or, not, a if t else b -/
def dNotT (t : DTT) : DTT := fun en st k e => t en st (fun b en1 st1 => k (!b) en1 st1) e
theorem dNotT_mono (m : MonoT tt) : MonoT (dNotT tt) := fun en st k k' e e' hk he h => m _ _ _ _ _ _ (fun x n s q => hk _ _ _ q) he h
theorem dt_not (h : DT B W X a tt) : DT B W X (.UnaryOp .Not a pos) (dNotT tt) := by
  refine ⟨dNotT_mono h.mono, PT.weak (pt_not h.run) fun σ H Q ⟨F, r, en, st, R, q⟩ => ?_⟩
  exact ⟨F, r, en, st, R, q⟩
def dNotV (te : DTE) : DTE := fun en st k e => te en st (fun x en1 st1 => ∃ b, x.d = .bl b ∧ k (.v (.bl (!b))) en1 st1) e
theorem dNotV_mono (m : MonoE te) : MonoE (dNotV te) := fun en st k k' e e' hk he h => m _ _ _ _ _ _ (fun x n s ⟨b, e1, e2⟩ => ⟨b, e1, hk _ _ _ e2⟩) he h
theorem de_not (ha : DE B W X a ta) : DE B W X (.UnaryOp .Not a pos) (dNotV ta) := by
  refine ⟨dNotV_mono ha.mono, PE.weak (pe_not ha.run) fun σ H Q ⟨F, r, en, st, R, q⟩ => ?_⟩
  refine at_bind (k := fun d _ en1 st1 => ∃ b, d = .bl b ∧ Kpost B σ Q F r en H (.v (.bl (!b))) en1 st1) ha.mono R q fun d en1 st1 F1 r1 H1 v S1 R1 rep1 h1 => ?_
  obtain ⟨i, rfl, h2⟩ := h1
  exact ⟨i, rep1, kp_val (h2.shift S1) R1 rfl⟩
def dAndT (t u : DTT) : DTT := fun en st k e => t en st (fun b en1 st1 => if b = true then u en1 st1 k e else k false en1 st1) e
def dOrT (t u : DTT) : DTT := fun en st k e => t en st (fun b en1 st1 => if b = true then k true en1 st1 else u en1 st1 k e) e
theorem dAndT_mono (m : MonoT tt) (m' : MonoT tu) : MonoT (dAndT tt tu) := fun en st k k' e e' hk he h => m _ _ _ _ _ _ (fun b n s q => by
  cases b
  · exact hk _ _ _ q
  · exact m' _ _ _ _ _ _ hk he q) he h
theorem dOrT_mono (m : MonoT tt) (m' : MonoT tu) : MonoT (dOrT tt tu) := fun en st k k' e e' hk he h => m _ _ _ _ _ _ (fun b n s q => by
  cases b
  · exact m' _ _ _ _ _ _ hk he q
  · exact hk _ _ _ q) he h
structure DW (B : Bg) (W : WX) (X : Cx) (e : Expr) (t : DTT) : Prop where
  mono : MonoT t
  run : PW X e (tMT B W t)
theorem DW.dt (h : DW B W X e tt) : DT B W X e tt := ⟨h.mono, h.run.pt⟩
theorem dw_and1 (h : DT B W X a tt) : DW B W X (.BoolOp .And [a] pos) tt := ⟨h.mono, pw_and1 h.run⟩
theorem dw_or1 (h : DT B W X a tt) : DW B W X (.BoolOp .Or [a] pos) tt := ⟨h.mono, pw_or1 h.run⟩
theorem dw_and {rest : List Expr} (h : DT B W X a tt) (h' : DW B W X (.BoolOp .And (b :: rest) pos) tu) : DW B W X (.BoolOp .And (a :: b :: rest) pos) (dAndT tt tu) := by
  refine ⟨dAndT_mono h.mono h'.mono, PW.weak (pw_and h.run h'.run) fun σ H Q ⟨F, r, en, st, R, q⟩ => ?_⟩
  refine at_bindT h.mono R q fun b en1 st1 F1 r1 H1 S1 R1 h1 => ?_
  cases b with
  | true =>
    rw [if_pos rfl] at h1 ⊢
    exact ⟨F1, r1, en1, st1, R1, h'.mono _ _ _ _ _ _ (fun _ _ _ z => z.shift S1) (fun _ _ _ z => z.shift S1) h1⟩
  | false =>
    rw [if_neg Bool.false_ne_true] at h1 ⊢
    exact h1 F1 r1 H1 S1 R1
theorem dw_or {rest : List Expr} (h : DT B W X a tt) (h' : DW B W X (.BoolOp .Or (b :: rest) pos) tu) : DW B W X (.BoolOp .Or (a :: b :: rest) pos) (dOrT tt tu) := by
  refine ⟨dOrT_mono h.mono h'.mono, PW.weak (pw_or h.run h'.run) fun σ H Q ⟨F, r, en, st, R, q⟩ => ?_⟩
  refine at_bindT h.mono R q fun b en1 st1 F1 r1 H1 S1 R1 h1 => ?_
  cases b with
  | true =>
    rw [if_pos rfl] at h1 ⊢
    exact h1 F1 r1 H1 S1 R1
  | false =>
    rw [if_neg Bool.false_ne_true] at h1 ⊢
    exact ⟨F1, r1, en1, st1, R1, h'.mono _ _ _ _ _ _ (fun _ _ _ z => z.shift S1) (fun _ _ _ z => z.shift S1) h1⟩
/-- .. as values: all but the last True or False -/
def dAndV (ta tb : DTE) : DTE := fun en st k e => ta en st (fun x en1 st1 => match x.d with
  | .bl true => tb en1 st1 k e
  | .bl false => k (.v (.bl false)) en1 st1
  | _ => False) e
def dOrV (ta tb : DTE) : DTE := fun en st k e => ta en st (fun x en1 st1 => match x.d with
  | .bl true => k (.v (.bl true)) en1 st1
  | .bl false => tb en1 st1 k e
  | _ => False) e
theorem dAndV_mono (m : MonoE ta) (m' : MonoE tb) : MonoE (dAndV ta tb) := fun en st k k' e e' hk he h => m _ _ _ _ _ _ (fun x n s q => by
  split at q
  · exact m' _ _ _ _ _ _ hk he q
  · exact hk _ _ _ q
  · exact q.elim) he h
theorem dOrV_mono (m : MonoE ta) (m' : MonoE tb) : MonoE (dOrV ta tb) := fun en st k k' e e' hk he h => m _ _ _ _ _ _ (fun x n s q => by
  split at q
  · exact hk _ _ _ q
  · exact m' _ _ _ _ _ _ hk he q
  · exact q.elim) he h
theorem de_one {op : BoolOp} (h : DE B W X a ta) : DE B W X (.BoolOp op [a] pos) ta := ⟨h.mono, pe_one h.run⟩
theorem de_and {rest : List Expr} (h : DE B W X a ta) (h' : DE B W X (.BoolOp .And (b :: rest) pos) tb) : DE B W X (.BoolOp .And (a :: b :: rest) pos) (dAndV ta tb) := by
  refine ⟨dAndV_mono h.mono h'.mono, PE.weak (pe_and h.run h'.run) fun σ H Q ⟨F, r, en, st, R, q⟩ => ?_⟩
  refine at_bind (k := fun d _ en1 st1 => match d with
    | .bl true => tb en1 st1 (Kpost B σ Q F r en H) (Epost B σ W F r en H)
    | .bl false => Kpost B σ Q F r en H (.v (.bl false)) en1 st1
    | _ => False) h.mono R q fun d en1 st1 F1 r1 H1 v S1 R1 rep1 h1 => ?_
  split at h1
  · refine ⟨true, rep1, ?_⟩
    rw [if_pos rfl]
    exact ⟨F1, r1, en1, st1, R1, h'.mono _ _ _ _ _ _ (fun _ _ _ z => z.shift S1) (fun _ _ _ z => z.shift S1) h1⟩
  · refine ⟨false, rep1, ?_⟩
    rw [if_neg Bool.false_ne_true]
    exact kp_val (h1.shift S1) R1 rfl
  · exact h1.elim
theorem de_or {rest : List Expr} (h : DE B W X a ta) (h' : DE B W X (.BoolOp .Or (b :: rest) pos) tb) : DE B W X (.BoolOp .Or (a :: b :: rest) pos) (dOrV ta tb) := by
  refine ⟨dOrV_mono h.mono h'.mono, PE.weak (pe_or h.run h'.run) fun σ H Q ⟨F, r, en, st, R, q⟩ => ?_⟩
  refine at_bind (k := fun d _ en1 st1 => match d with
    | .bl true => Kpost B σ Q F r en H (.v (.bl true)) en1 st1
    | .bl false => tb en1 st1 (Kpost B σ Q F r en H) (Epost B σ W F r en H)
    | _ => False) h.mono R q fun d en1 st1 F1 r1 H1 v S1 R1 rep1 h1 => ?_
  split at h1
  · refine ⟨true, rep1, ?_⟩
    rw [if_pos rfl]
    exact kp_val (h1.shift S1) R1 rfl
  · refine ⟨false, rep1, ?_⟩
    rw [if_neg Bool.false_ne_true]
    exact ⟨F1, r1, en1, st1, R1, h'.mono _ _ _ _ _ _ (fun _ _ _ z => z.shift S1) (fun _ _ _ z => z.shift S1) h1⟩
  · exact h1.elim
def dIf (t : DTT) (ta tb : DTE) : DTE := fun en st k e => t en st (fun b en1 st1 => if b = true then ta en1 st1 k e else tb en1 st1 k e) e
theorem dIf_mono (m : MonoT tt) (ma : MonoE ta) (mb : MonoE tb) : MonoE (dIf tt ta tb) := fun en st k k' e e' hk he h => m _ _ _ _ _ _ (fun b n s q => by
  cases b
  · exact mb _ _ _ _ _ _ hk he q
  · exact ma _ _ _ _ _ _ hk he q) he h
theorem de_if (ht : DT B W X c tt) (ha : DE B W X a ta) (hb : DE B W X b tb) : DE B W X (.IfExp c a b pos) (dIf tt ta tb) := by
  refine ⟨dIf_mono ht.mono ha.mono hb.mono, PE.weak (pe_ifExp ht.run ha.run hb.run) fun σ H Q ⟨F, r, en, st, R, q⟩ => ?_⟩
  refine at_bindT ht.mono R q fun b en1 st1 F1 r1 H1 S1 R1 h1 => ?_
  cases b with
  | true =>
    rw [if_pos rfl] at h1 ⊢
    exact ⟨F1, r1, en1, st1, R1, ha.mono _ _ _ _ _ _ (fun _ _ _ z => z.shift S1) (fun _ _ _ z => z.shift S1) h1⟩
  | false =>
    rw [if_neg Bool.false_ne_true] at h1 ⊢
    exact ⟨F1, r1, en1, st1, R1, hb.mono _ _ _ _ _ _ (fun _ _ _ z => z.shift S1) (fun _ _ _ z => z.shift S1) h1⟩
/-! ### lists of expressions, displays -/
def dNil : DTA := fun en st k _ => k [] en st
def dCons (te : DTE) (ta : DTA) : DTA := fun en st k e => te en st (fun x en1 st1 => ta en1 st1 (fun ds en2 st2 => k (x.d :: ds) en2 st2) e) e
theorem dNil_mono : MonoA dNil := fun _ _ _ _ _ _ hk _ h => hk _ _ _ h
theorem dCons_mono (m : MonoE te) (ma : MonoA tA) : MonoA (dCons te tA) := fun en st k k' e e' hk he h => m _ _ _ _ _ _ (fun x n s q => ma _ _ _ _ _ _ (fun _ _ _ z => hk _ _ _ z) he q) he h
theorem da_nil : DA B W X [] dNil := ⟨dNil_mono, PA.weak pa_nil fun σ H Q ⟨F, r, en, st, R, q⟩ => q F r H [] Step.refl R rfl⟩
theorem da_cons (h : DE B W X e te) (h' : DA B W X es tA) (hs : ∀ x p, e ≠ .Starred x p) : DA B W X (e :: es) (dCons te tA) := by
  refine ⟨dCons_mono h.mono h'.mono, PA.weak (pa_cons h.run h'.run (notStar_each hs)) fun σ H Q ⟨F, r, en, st, R, q⟩ => ?_⟩
  refine at_bind (k := fun d _ en1 st1 => tA en1 st1 (fun ds en2 st2 => Apost B σ Q F r en H (d :: ds) en2 st2) (Epost B σ W F r en H)) h.mono R q fun d en1 st1 F1 r1 H1 v S1 R1 rep1 h1 => ?_
  refine at_bindA (k := fun ds en2 st2 => Apost B σ Q F r en H (d :: ds) en2 st2) h'.mono R1 (h'.mono _ _ _ _ _ _ (fun _ _ _ z => z) (fun _ _ _ z => z.shift S1) h1) fun ds en2 st2 F2 r2 H2 vs S2 R2 rep2 h2 => ?_
  exact h2 F2 r2 H2 (v :: vs) (S1.trans S2) R2 ⟨v, vs, rfl, rep1.step S2, rep2⟩
def dTup (ta : DTA) : DTE := fun en st k e => ta en st (fun ds en1 st1 => ds.length ≤ sizeLine ∧ k (.v (.tup ds)) en1 st1) e
def dLst (ta : DTA) : DTE := fun en st k e => ta en st (fun ds en1 st1 => ds.length ≤ sizeLine ∧ k (.o (.lst ds)) en1 st1) e
theorem dTup_mono (m : MonoA tA) : MonoE (dTup tA) := fun en st k k' e e' hk he h => m _ _ _ _ _ _ (fun x n s ⟨q1, q2⟩ => ⟨q1, hk _ _ _ q2⟩) he h
theorem dLst_mono (m : MonoA tA) : MonoE (dLst tA) := fun en st k k' e e' hk he h => m _ _ _ _ _ _ (fun x n s ⟨q1, q2⟩ => ⟨q1, hk _ _ _ q2⟩) he h
theorem de_tup {j : Nat} (h : DA B W X es tA) : DE B W X (.Tuple es j pos) (dTup tA) := by
  refine ⟨dTup_mono h.mono, PE.weak (pe_tup h.run) fun σ H Q ⟨F, r, en, st, R, q⟩ => ?_⟩
  refine at_bindA h.mono R q fun ds en1 st1 F1 r1 H1 vs S1 R1 rep1 ⟨h1, h2⟩ => ⟨by rw [rep1.len]; exact h1, fun p hp => kp_tup (h2.shift S1) R1 hp rep1⟩
theorem de_lst (h : DA B W X es tA) : DE B W X (.List es pos) (dLst tA) := by
  refine ⟨dLst_mono h.mono, PE.weak (pe_lst h.run) fun σ H Q ⟨F, r, en, st, R, q⟩ => ?_⟩
  refine at_bindA h.mono R q fun ds en1 st1 F1 r1 H1 vs S1 R1 rep1 ⟨h1, h2⟩ => ⟨by rw [rep1.len]; exact h1, fun p hp => kp_new (h2.shift S1) R1 hp ⟨vs, rfl, rep1⟩⟩
/-! ### calls of built-ins, by values -/
abbrev OpN := List D → (T → Prop) → Prop
def MonoN (g : OpN) : Prop := ∀ x (k k' : T → Prop), (∀ t, k t → k' t) → g x k → g x k'
def rGN (B : Bg) (g : OpN) : List V → Hp → VK → Prop := fun vs H Q => ∃ σ F r en st ds, Rel B F r en st σ H ∧ Reps B F r ds vs ∧ g ds fun t => Kpost B σ Q F r en H t en st
def dCB (g : OpN) (ta : DTA) : DTE := fun en st k e => ta en st (fun ds en1 st1 => g ds fun t => k t en1 st1) e
theorem dCB_mono {g : OpN} (mg : MonoN g) (m : MonoA tA) : MonoE (dCB g tA) := fun en st k k' e e' hk he h => m _ _ _ _ _ _ (fun x n s q => mg _ _ _ (fun _ z => hk _ _ _ z) q) he h
theorem cb_one {g : OpN} {Q : VK} {σ : Sl} {H : Hp} (mg : MonoN g) (m : MonoA tA) (h : tM B W (dCB g tA) σ H Q) : tCB (rGN B g) (tMA B W tA) σ H Q := by
  obtain ⟨F, r, en, st, R, q⟩ := h
  exact at_bindA m R q fun ds en1 st1 F1 r1 H1 vs S1 R1 rep1 h1 => ⟨σ, F1, r1, en1, st1, ds, R1, rep1, mg _ _ _ (fun _ z => z.shift S1) h1⟩
theorem de_callB {x : Str} {id : String} {p : Pos} {g : OpN} (hc : CallR X (.builtin id) (rGN B g)) (mg : MonoN g) (hg : Gl X x) (hm : X.mg x = none) (hv : bootBuiltins x = some (.builtin id)) (ha : DA B W X (e :: es) tA) (hn : x ≠ "__name__") (hdb : (x == ("__debug__" : Str)) = false)
    (hs : ∀ x p, e ≠ .Starred x p) (hpl : (backTo pos (starEach es X.env)).any (·.1) = false) : DE B W X (.Call (.Name x p) (e :: es) [] pos) (dCB g tA) :=
  ⟨dCB_mono mg ha.mono, PE.weak (pe_callB hc hg hm hv ha.run hn hdb (notStar_each hs) hpl) fun _ _ _ h => cb_one mg ha.mono h⟩
theorem de_callTy {x : Str} {ty : String} {p : Pos} {g : OpN} (hc : CallR X (.type ty) (rGN B g)) (mg : MonoN g) (hg : Gl X x) (hm : X.mg x = none) (hv : bootBuiltins x = some (.type ty)) (ha : DA B W X (e :: es) tA) (hn : x ≠ "__name__") (hdb : (x == ("__debug__" : Str)) = false)
    (hs : ∀ x p, e ≠ .Starred x p) (hpl : (backTo pos (starEach es X.env)).any (·.1) = false) : DE B W X (.Call (.Name x p) (e :: es) [] pos) (dCB g tA) :=
  ⟨dCB_mono mg ha.mono, PE.weak (pe_callTy hc hg hm hv ha.run hn hdb (notStar_each hs) hpl) fun _ _ _ h => cb_one mg ha.mono h⟩
end
end Ev
set_option Elab.async false
set_option linter.all false
set_option autoImplicit false
set_option maxRecDepth 100000
/-! Ev, part E: subscripts, slices, built-ins. -/
namespace Ev
open PySem PySem.Spec PyProof.Rows L2
/-! ### o[i] -/
def oIx (st : List D) : Op2
  | .lst xs, .int i, k => ∃ d, atI xs i = some d ∧ k (.v d)
  | .tup xs, .int i, k => ∃ d, atI xs i = some d ∧ k (.v d)
  | .str z, .int i, k => z.length ≤ sizeLine ∧ ∃ c, atI z.cps.toList i = some c ∧ k (.v (.str ⟨#[c]⟩))
  | .scr ns, .int i, k => ∃ z, atI ns i = some z ∧ k (.v (.int z))
  | .box n, .int i, k => ∃ xs d, st[n]? = some (.lst xs) ∧ atI xs i = some d ∧ k (.v d)
  | _, _, _ => False
theorem mono_oIx (st : List D) : Mono2 (oIx st) := fun x y k k' hk h => by
  cases x <;> cases y <;> simp only [oIx] at h ⊢ <;> first
    | exact h
    | (obtain ⟨d, e, h⟩ := h; exact ⟨d, e, hk _ h⟩)
    | (obtain ⟨z, d, e, h⟩ := h; exact ⟨z, d, e, hk _ h⟩)
    | (obtain ⟨xs, d, z, e, h⟩ := h; exact ⟨xs, d, z, e, hk _ h⟩)
theorem atI_rep {B : Bg} {F : Hp} {r : List Addr} {ds : List D} {vs : List V} {i : Int} {d : D} (h : Reps B F r ds vs) (e : atI ds i = some d) : ∃ v, atI vs i = some v ∧ Rep B F r d v := by
  unfold atI at e ⊢
  rw [h.len]
  cases q : ixN ds.length i with
  | none => rw [q] at e; cases e
  | some j =>
    rw [q] at e
    obtain ⟨v, e1, e2⟩ := h.get (show ds[j]? = some d from e)
    exact ⟨v, e1, e2⟩
theorem atI_map {α β : Type} (f : α → β) (xs : List α) (i : Int) : atI (xs.map f) i = (atI xs i).map f := by
  unfold atI
  rw [List.length_map]
  cases ixN xs.length i with
  | none => rfl
  | some j =>
    show (xs.map f)[j]? = (xs[j]?).map f
    rw [List.getElem?_map]
section
variable {B : Bg} {W : WX} {X : Cx} {e a b c : Expr} {es : List Expr} {pos : Pos} {te ta tb tc : DTE} {tA : DTA} {tt tu : DTT}
def dIx (ta tb : DTE) : DTE := fun en st k e => ta en st (fun x en1 st1 => tb en1 st1 (fun y en2 st2 => oIx st2 x.d y.d fun t => k t en2 st2) e) e
theorem dIx_mono (ma : MonoE ta) (mb : MonoE tb) : MonoE (dIx ta tb) := fun en st k k' e e' hk he h =>
  ma _ _ _ _ _ _ (fun x en1 st1 h1 => mb _ _ _ _ _ _ (fun y en2 st2 h2 => mono_oIx _ _ _ _ _ (fun t ht => hk _ _ _ ht) h2) he h1) he h
def rGIx (B : Bg) : R2 := fun v u H Q => ∃ σ F r en st x y, Rel B F r en st σ H ∧ Rep B F r x v ∧ Rep B F r y u ∧ oIx st x y fun t => Kpost B σ Q F r en H t en st
theorem ix_all (hK : X.K = B.K) : IxR X (rGIx B) := by
  intro value slice pins s σ' H v u c d Q I rv ru ⟨σ, F, r, en, st, x, y, R, p, q, h⟩ hs
  cases x <;> cases y <;> simp only [oIx] at h
  · cases p; cases q
    obtain ⟨h1, z, h2, h3⟩ := h
    exact ix_str value slice pins s σ' H _ _ _ _ Q I rv ru ⟨_, _, z, rfl, rfl, h1, h2, kp_val h3 R rfl⟩ hs
  · cases q
    obtain ⟨l, vs, rfl, e1, w1⟩ := p
    obtain ⟨z, h2, h3⟩ := h
    obtain ⟨v, g1, g2⟩ := atI_rep w1 h2
    exact ix_tup value slice pins s σ' H _ _ _ _ Q I rv ru ⟨l, vs, _, v, rfl, rfl, by rw [hK]; exact R.w.sub.sqT e1, g1, kp_val h3 R g2⟩ hs
  · cases q
    obtain ⟨l, vs, rfl, e1, w1⟩ := p
    obtain ⟨z, h2, h3⟩ := h
    obtain ⟨v, g1, g2⟩ := atI_rep w1 h2
    exact ix_list value slice pins s σ' H _ _ _ _ Q I rv ru ⟨l, vs, _, v, rfl, rfl, SqL.of (R.w.sub _ _ e1), g1, kp_val h3 R g2⟩ hs
  · rename_i n j
    cases q
    obtain ⟨l, e1, rfl⟩ := p
    obtain ⟨xs, z, h2, h3, h4⟩ := h
    obtain ⟨_, o, e2, vs, rfl, w1⟩ := R.w.box n l _ e1 h2
    obtain ⟨v, g1, g2⟩ := atI_rep w1 h3
    exact ix_list value slice pins s σ' H _ _ _ _ Q I rv ru ⟨l, vs, _, v, rfl, rfl, SqL.of e2, g1, kp_val h4 R g2⟩ hs
  · cases q
    obtain ⟨l, rfl, e1⟩ := p
    obtain ⟨z, h2, h3⟩ := h
    exact ix_list value slice pins s σ' H _ _ _ _ Q I rv ru ⟨l, _, _, .int z, rfl, rfl, by rw [hK]; exact R.w.sub.sqL e1, by rw [atI_map, h2]; rfl, kp_val h3 R rfl⟩ hs
theorem de_ix (hK : X.K = B.K) (ha : DE B W X a ta) (hb : DE B W X b tb) (hs : PlainIx b) : DE B W X (.Subscript a b pos) (dIx ta tb) := by
  refine ⟨dIx_mono ha.mono hb.mono, PE.weak (pe_ix (ix_all hK) ha.run hb.run hs) fun σ H Q ⟨F, rr, en, st, R, q⟩ => ?_⟩
  refine at_bind (k := fun d _ en1 st1 => tb en1 st1 (fun y en2 st2 => oIx st2 d y.d fun t => Kpost B σ Q F rr en H t en2 st2) (Epost B σ W F rr en H)) ha.mono R q fun d en1 st1 F1 r1 H1 v S1 R1 rep1 h1 => ?_
  refine at_bind (k := fun d' _ en2 st2 => oIx st2 d d' fun t => Kpost B σ Q F rr en H t en2 st2) hb.mono R1 (hb.mono _ _ _ _ _ _ (fun _ _ _ z => z) (fun _ _ _ z => z.shift S1) h1) fun d' en2 st2 F2 r2 H2 u S2 R2 rep2 h2 => ?_
  exact ⟨σ, F2, r2, en2, st2, d, d', R2, rep1.step S2, rep2, mono_oIx _ _ _ _ _ (fun t ht => ht.shift (S1.trans S2)) h2⟩
/-! ### o[lo:hi] -/
def cut {α : Type} (xs : List α) (lo hi : Option Int) : List α := (xs.drop (HT.sIx xs.length 0 lo)).take (HT.sIx xs.length xs.length hi - HT.sIx xs.length 0 lo)
def oSl : D → Option Int → Option Int → (T → Prop) → Prop
  | .lst xs, lo, hi, k => k (.o (.lst (cut xs lo hi)))
  | .tup xs, lo, hi, k => k (.v (.tup (cut xs lo hi)))
  | .str z, lo, hi, k => z.length ≤ sizeLine ∧ k (.v (.str (cutS z lo hi)))
  | .scr ns, lo, hi, k => k (.o (.lst ((cut ns lo hi).map D.int)))
  | _, _, _, _ => False
theorem mono_oSl {d : D} {lo hi : Option Int} {k k' : T → Prop} (hk : ∀ t, k t → k' t) (h : oSl d lo hi k) : oSl d lo hi k' := by
  cases d <;> simp only [oSl] at h ⊢ <;> first | exact h | exact hk _ h | exact ⟨h.1, hk _ h.2⟩
abbrev KO := Option Int → En → List D → Prop
abbrev DTO := En → List D → KO → KX → Prop
def MonoO (t : DTO) : Prop := ∀ (en : En) (st : List D) (k k' : KO) (e e' : KX), (∀ x n s, k x n s → k' x n s) → (∀ x n s, e x n s → e' x n s) → t en st k e → t en st k' e'
def dNoPart : DTO := fun en st k _ => k none en st
def dPart (te : DTE) : DTO := fun en st k e => te en st (fun x en1 st1 => ∃ i, x.d = .int i ∧ k (some i) en1 st1) e
def tMO (B : Bg) (W : WX) (t : DTO) : TO := fun σ H Q => ∃ F r en st, Rel B F r en st σ H ∧ t en st (fun o en' st' => ∀ F' r' H', Step σ en F r H σ en' F' r' H' → Rel B F' r' en' st' σ H' → Q o H') (Epost B σ W F r en H)
structure DO (B : Bg) (W : WX) (X : Cx) (e : Option Expr) (t : DTO) : Prop where
  mono : MonoO t
  run : PO X e (tMO B W t)
theorem PO.weak {e : Option Expr} {t t' : TO} (h : PO X e t) (w : ∀ σ H Q, t' σ H Q → t σ H Q) : PO X e t' := ⟨fun pins s σ H Q I q => h.run pins s σ H Q I (w σ H Q q)⟩
theorem do_none : DO B W X none dNoPart := ⟨fun _ _ _ _ _ _ hk _ h => hk _ _ _ h, PO.weak po_none fun σ H Q ⟨F, r, en, st, R, q⟩ => q F r H Step.refl R⟩
theorem do_some (h : DE B W X e te) : DO B W X (some e) (dPart te) := by
  refine ⟨fun en st k k' e e' hk he q => h.mono _ _ _ _ _ _ (fun x n s ⟨i, e1, e2⟩ => ⟨i, e1, hk _ _ _ e2⟩) he q, PO.weak (po_some h.run) fun σ H Q ⟨F, r, en, st, R, q⟩ => ?_⟩
  refine at_bind (k := fun d _ en1 st1 => ∃ i, d = .int i ∧ ∀ F' r' H', Step σ en F r H σ en1 F' r' H' → Rel B F' r' en1 st1 σ H' → Q (some i) H') h.mono R q fun d en1 st1 F1 r1 H1 v S1 R1 rep1 h1 => ?_
  obtain ⟨i, rfl, h2⟩ := h1
  exact ⟨i, rep1, h2 F1 r1 H1 S1 R1⟩
def dSl (te : DTE) (tl th : DTO) : DTE := fun en st k e => te en st (fun x en1 st1 => tl en1 st1 (fun lo en2 st2 => th en2 st2 (fun hi en3 st3 => oSl x.d lo hi fun t => k t en3 st3) e) e) e
theorem dSl_mono {tl th : DTO} (m : MonoE te) (ml : MonoO tl) (mh : MonoO th) : MonoE (dSl te tl th) := fun en st k k' e e' hk he h =>
  m _ _ _ _ _ _ (fun x en1 st1 h1 => ml _ _ _ _ _ _ (fun lo en2 st2 h2 => mh _ _ _ _ _ _ (fun hi en3 st3 h3 => mono_oSl (fun t ht => hk _ _ _ ht) h3) he h2) he h1) he h
def rGSl (B : Bg) : V → Option Int → Option Int → Hp → VK → Prop := fun v lo hi H Q => ∃ σ F r en st x, Rel B F r en st σ H ∧ Rep B F r x v ∧ oSl x lo hi fun t => Kpost B σ Q F r en H t en st
theorem cut_rep {F : Hp} {r : List Addr} {ds : List D} {vs : List V} (lo hi : Option Int) (h : Reps B F r ds vs) : Reps B F r (cut ds lo hi) (cutV vs lo hi) := by
  unfold cut cutV
  rw [h.len]
  exact (h.drop _).take _
theorem cut_all {α : Type} {xs : List α} {lo hi : Option Int} (h1 : HT.sIx xs.length 0 lo = 0) (h2 : HT.sIx xs.length xs.length hi = xs.length) : cut xs lo hi = xs := by
  unfold cut
  rw [h1, h2]
  simp
theorem cut_map {α β : Type} (f : α → β) (xs : List α) (lo hi : Option Int) : cut (xs.map f) lo hi = (cut xs lo hi).map f := by
  unfold cut
  rw [List.length_map, List.map_take, List.map_drop]
theorem reps_ints {F : Hp} {r : List Addr} : ∀ (ns : List Int), Reps B F r (ns.map D.int) (ns.map V.int)
  | [] => rfl
  | n :: ns => ⟨_, _, rfl, rfl, reps_ints ns⟩
theorem reps_ints_inv {F : Hp} {r : List Addr} : ∀ {ns : List Int} {vs : List V}, Reps B F r (ns.map D.int) vs → vs = ns.map V.int
  | [], vs, h => h
  | n :: ns, vs, ⟨v, t, e, q, h⟩ => by
    have q' : v = .int n := q
    rw [e, q', reps_ints_inv h]
    rfl
theorem reps_bls_inv {F : Hp} {r : List Addr} : ∀ {ns : List Bool} {vs : List V}, Reps B F r (ns.map D.bl) vs → vs = ns.map V.bl
  | [], vs, h => h
  | n :: ns, vs, ⟨v, t, e, q, h⟩ => by
    have q' : v = .bl n := q
    rw [e, q', reps_bls_inv h]
    rfl
theorem reps_strs_inv {F : Hp} {r : List Addr} : ∀ {ns : List Str} {vs : List V}, Reps B F r (ns.map D.str) vs → vs = ns.map V.str
  | [], vs, h => h
  | n :: ns, vs, ⟨v, t, e, q, h⟩ => by
    have q' : v = .str n := q
    rw [e, q', reps_strs_inv h]
    rfl
theorem sl_all (hK : X.K = B.K) : SlR X (rGSl B) := by
  intro pins s σ' H v u vl vu lo hi sl Q I rv hs pl pu ⟨σ, F, r, en, st, x, R, p, h⟩
  cases x <;> simp only [oSl] at h
  · cases p
    exact sl_str pins s σ' H _ _ _ _ lo hi sl Q I rv hs pl pu ⟨_, rfl, h.1, kp_val h.2 R rfl⟩
  · rename_i xs
    obtain ⟨l, vs, rfl, e1, w1⟩ := p
    refine sl_tupA pins s σ' H _ _ _ _ lo hi sl Q I rv hs pl pu ⟨l, vs, rfl, by rw [hK]; exact R.w.sub.sqT e1, fun z => ?_, fun z p hp => kp_tup h R hp (cut_rep lo hi w1)⟩
    rw [w1.len] at z
    rw [cut_all z.1 z.2] at h
    exact kp_val h R ⟨l, vs, rfl, e1, w1⟩
  · obtain ⟨l, vs, rfl, e1, w1⟩ := p
    exact sl_list pins s σ' H _ _ _ _ lo hi sl Q I rv hs pl pu ⟨l, vs, rfl, SqL.of (R.w.sub _ _ e1), fun p hp => kp_new h R hp ⟨_, rfl, cut_rep lo hi w1⟩⟩
  · rename_i ns
    obtain ⟨l, rfl, e1⟩ := p
    refine sl_list pins s σ' H _ _ _ _ lo hi sl Q I rv hs pl pu ⟨l, _, rfl, by rw [hK]; exact R.w.sub.sqL e1, fun p hp => kp_new h R hp ⟨_, rfl, ?_⟩⟩
    rw [← cut_map]
    exact cut_rep lo hi (reps_ints ns)
theorem de_sl {lo hi : Option Expr} {tl th : DTO} {p2 : Pos} (hK : X.K = B.K) (h : DE B W X e te) (hl : DO B W X lo tl) (hh : DO B W X hi th) : DE B W X (.Subscript e (.Slice lo hi none p2) pos) (dSl te tl th) := by
  refine ⟨dSl_mono h.mono hl.mono hh.mono, PE.weak (pe_slice (sl_all hK) h.run hl.run hh.run) fun σ H Q ⟨F, rr, en, st, R, q⟩ => ?_⟩
  refine at_bind (k := fun d _ en1 st1 => tl en1 st1 (fun lo en2 st2 => th en2 st2 (fun hi en3 st3 => oSl d lo hi fun t => Kpost B σ Q F rr en H t en3 st3) (Epost B σ W F rr en H)) (Epost B σ W F rr en H)) h.mono R q fun d en1 st1 F1 r1 H1 v S1 R1 rep1 h1 => ?_
  refine ⟨F1, r1, en1, st1, R1, hl.mono _ _ _ _ _ _ (fun lo en2 st2 h2 => ?_) (fun _ _ _ z => z.shift S1) h1⟩
  intro F2 r2 H2 S2 R2
  refine ⟨F2, r2, en2, st2, R2, hh.mono _ _ _ _ _ _ (fun hi en3 st3 h3 => ?_) (fun _ _ _ z => z.shift (S1.trans S2)) h2⟩
  intro F3 r3 H3 S3 R3
  exact ⟨σ, F3, r3, en3, st3, d, R3, (rep1.step S2).step S3, mono_oSl (fun t ht => ht.shift ((S1.trans S2).trans S3)) h3⟩
end
/-! ### built-ins -/
def oLen : OpN
  | [.lst xs], k => k (.v (.int xs.length))
  | [.tup xs], k => k (.v (.int xs.length))
  | [.scr xs], k => k (.v (.int xs.length))
  | [.str z], k => z.length ≤ sizeLine ∧ k (.v (.int z.length))
  | [.dct kvs], k => k (.v (.int kvs.length))
  | _, _ => False
def oAbs : OpN
  | [.int i], k => k (.v (.int (if i < 0 then -i else i)))
  | _, _ => False
def oMin : OpN
  | [.int i, .int j], k => k (.v (.int (if j < i then j else i)))
  | [.lst xs], k => ∃ ns : List Int, xs = ns.map D.int ∧ 0 < ns.length ∧ ∀ m, m ∈ ns → (∀ y, y ∈ ns → m ≤ y) → k (.v (.int m))
  | [.tup xs], k => ∃ ns : List Int, xs = ns.map D.int ∧ 0 < ns.length ∧ ∀ m, m ∈ ns → (∀ y, y ∈ ns → m ≤ y) → k (.v (.int m))
  | _, _ => False
def oMax : OpN
  | [.int i, .int j], k => k (.v (.int (if j > i then j else i)))
  | [.lst xs], k => ∃ ns : List Int, xs = ns.map D.int ∧ 0 < ns.length ∧ ∀ m, m ∈ ns → (∀ y, y ∈ ns → y ≤ m) → k (.v (.int m))
  | [.tup xs], k => ∃ ns : List Int, xs = ns.map D.int ∧ 0 < ns.length ∧ ∀ m, m ∈ ns → (∀ y, y ∈ ns → y ≤ m) → k (.v (.int m))
  | _, _ => False
def oInt : OpN
  | [.int i], k => k (.v (.int i))
  | [.str z], k => ∃ n, PySem.intText? z = some n ∧ z.length ≤ 640 ∧ k (.v (.int n))
  | _, _ => False
def oAll : OpN
  | [.lst xs], k => ∃ bs : List Bool, xs = bs.map D.bl ∧ k (.v (.bl (bs.all id)))
  | _, _ => False
def oAny : OpN
  | [.lst xs], k => ∃ bs : List Bool, xs = bs.map D.bl ∧ k (.v (.bl (bs.any id)))
  | _, _ => False
def oSum : OpN
  | [.lst xs], k => ∃ ns : List Int, xs = ns.map D.int ∧ k (.v (.int ns.sum))
  | _, _ => False
def oSorted : OpN
  | [.lst xs], k => ∃ ns : List Int, xs = ns.map D.int ∧ ∀ ms : List Int, ms.Perm ns → ms.Pairwise (· ≤ ·) → k (.o (.lst (ms.map D.int)))
  | _, _ => False
def oTuple : OpN
  | [.lst xs], k => k (.v (.tup xs))
  | [.tup xs], k => k (.v (.tup xs))
  | _, _ => False
def oList : OpN
  | [.lst xs], k => k (.o (.lst xs))
  | [.tup xs], k => k (.o (.lst xs))
  | _, _ => False
def oDivmod : OpN
  | [.int i, .int j], k => CDivW i j ∧ k (.v (.tup [.int (i / j), .int (i % j)]))
  | _, _ => False
def oStr : OpN
  | [.int i], k => i.natAbs.log2 < 1920 ∧ k (.v (.str (toString i)))
  | _, _ => False
/-- repr: some text of the data -/
def shownD (d : D) : Str := match dat d with
  | some p => p.shown
  | none => Str.empty
/-- what repr can write: integers of up to four thousand digits -/
def showB : PyData → Bool
  | .int i => decide (i.natAbs.log2 < 12900)
  | p => p.showable
def okRepr (d : D) : Prop := ∃ p, dat d = some p ∧ showB p = true ∧ p.depth ≤ 64 ∧ p.shown.length ≤ sizeLine ∧ p.hasDict = false
/-- dicts of plain values: what repr writes -/
def sclP : D → Option PyData
  | .non => some .none
  | .bl b => some (.bool b)
  | .int i => some (.int i)
  | .str s => some (.str s)
  | _ => none
def keyP : Key → PyData
  | .inl i => .int i
  | .inr s => .str s
def datK : List (Key × D) → Option (List (PyData × PyData))
  | [] => some []
  | (k, d) :: r => match sclP d, datK r with
    | some p, some ps => some ((keyP k, p) :: ps)
    | _, _ => none
def okDct (kvs : List (Key × D)) : Prop := ∃ ps, datK kvs = some ps ∧ (PyData.dict ps).showable = true ∧ (PyData.dict ps).depth ≤ 64 ∧ (PyData.dict ps).shown.length ≤ sizeLine
def shownK (kvs : List (Key × D)) : Str := match datK kvs with
  | some ps => (PyData.dict ps).shown
  | none => Str.empty
def oRepr : OpN
  | [.dct kvs], k => okDct kvs ∧ k (.v (.str (shownK kvs)))
  | [d], k => okRepr d ∧ k (.v (.str (shownD d)))
  | _, _ => False
def isTy : D → Ty → Bool
  | .bl _, .int => true
  | .bl _, .bool => true
  | .int _, .int => true
  | .str _, .str => true
  | .tup _, .tuple => true
  | .lst _, .list => true
  | .scr _, .list => true
  | .dct _, .dict => true
  | _, _ => false
def hasTy : D → Bool
  | .non => true
  | .bl _ => true
  | .int _ => true
  | .str _ => true
  | .tup _ => true
  | .lst _ => true
  | .dct _ => true
  | _ => false
/-- whether data is an instance of an own class -/
def isCl : D → Nat → Bool
  | .obj c _, c' => decide (c = c')
  | _, _ => false
def hasTyO : D → Bool
  | .obj _ _ => true
  | d => hasTy d
def oIsi : OpN
  | [d, .ty t], k => hasTyO d = true ∧ k (.v (.bl (isTy d t)))
  | [d, .cl c], k => hasTyO d = true ∧ k (.v (.bl (isCl d c)))
  | _, _ => False
/-- what the written part says of own classes and isinstance -/
structure InsF (K : PySem.W.Frag) (C : Addr) : Prop where
  cl : Cls K C
  ha : PySem.W.findIn K (.ref C) "__class__" = some (some (.builtin "object.__class__"))
  hn : PySem.W.specialIn K (.builtin "object.__class__") "__get__" = some (some (.builtin "getset_descriptor.__get__"))
  ht : PySem.W.takesIn K (.builtin "object.__class__") = some true
  hm : PySem.W.mroIn K C (.type "object") = some true
def kitTys : List String := ["NoneType", "bool", "int", "str", "tuple", "list", "dict"]
structure KitF (B : Bg) : Prop where
  ins : ∀ c, c < B.nc → InsF B.K (B.cls c)
  ty : ∀ c, c < B.nc → ∀ t ∈ kitTys, PySem.W.kitOne B.K (.type t) (.ref (B.cls c)) = some false
  cl : ∀ c c', c < B.nc → c' < B.nc → PySem.W.kitOne B.K (.ref (B.cls c)) (.ref (B.cls c')) = some (decide (c = c'))
  no : ∀ c, c < B.nc → ∀ t : Ty, PySem.W.kitOne B.K (.ref (B.cls c)) (.type t.nm) = some false
end Ev
set_option Elab.async false
set_option linter.all false
set_option autoImplicit false
set_option maxRecDepth 100000
/-! Ev, part F: the built-ins' rules. -/
namespace Ev
open PySem PySem.Spec PyProof.Rows L2
theorem reps1 {B : Bg} {F : Hp} {r : List Addr} {d : D} {vs : List V} (h : Reps B F r [d] vs) : ∃ v, vs = [v] ∧ Rep B F r d v := by
  obtain ⟨v, t, e, q, h⟩ := h
  cases h
  exact ⟨v, e, q⟩
theorem reps2 {B : Bg} {F : Hp} {r : List Addr} {d d' : D} {vs : List V} (h : Reps B F r [d, d'] vs) : ∃ v u, vs = [v, u] ∧ Rep B F r d v ∧ Rep B F r d' u := by
  obtain ⟨v, t, e, q, h⟩ := h
  obtain ⟨u, rfl, q'⟩ := reps1 h
  exact ⟨v, u, e, q, q'⟩
theorem mono_oLen : MonoN oLen := fun x k k' hk => by
  unfold oLen
  split <;> intro h <;> first | exact hk _ h | exact ⟨h.1, hk _ h.2⟩ | exact h
theorem mono_oAbs : MonoN oAbs := fun x k k' hk => by
  unfold oAbs
  split <;> intro h <;> first | exact hk _ h | exact h
theorem mono_oMin : MonoN oMin := fun x k k' hk => by
  unfold oMin
  split <;> intro h <;> first | exact hk _ h | exact h | (obtain ⟨ns, e1, e2, h⟩ := h; exact ⟨ns, e1, e2, fun m h1 h2 => hk _ (h m h1 h2)⟩)
theorem mono_oMax : MonoN oMax := fun x k k' hk => by
  unfold oMax
  split <;> intro h <;> first | exact hk _ h | exact h | (obtain ⟨ns, e1, e2, h⟩ := h; exact ⟨ns, e1, e2, fun m h1 h2 => hk _ (h m h1 h2)⟩)
theorem mono_oInt : MonoN oInt := fun x k k' hk => by
  unfold oInt
  split <;> intro h <;> first | exact hk _ h | exact h | (obtain ⟨ns, e1, e2, h⟩ := h; exact ⟨ns, e1, e2, hk _ h⟩)
theorem mono_oAll : MonoN oAll := fun x k k' hk => by
  unfold oAll
  split <;> intro h <;> first | exact h | (obtain ⟨ns, e1, h⟩ := h; exact ⟨ns, e1, hk _ h⟩)
theorem mono_oAny : MonoN oAny := fun x k k' hk => by
  unfold oAny
  split <;> intro h <;> first | exact h | (obtain ⟨ns, e1, h⟩ := h; exact ⟨ns, e1, hk _ h⟩)
theorem mono_oSum : MonoN oSum := fun x k k' hk => by
  unfold oSum
  split <;> intro h <;> first | exact h | (obtain ⟨ns, e1, h⟩ := h; exact ⟨ns, e1, hk _ h⟩)
theorem mono_oSorted : MonoN oSorted := fun x k k' hk => by
  unfold oSorted
  split <;> intro h <;> first | exact h | (obtain ⟨ns, e1, h⟩ := h; exact ⟨ns, e1, fun m h1 h2 => hk _ (h m h1 h2)⟩)
theorem mono_oTuple : MonoN oTuple := fun x k k' hk => by
  unfold oTuple
  split <;> intro h <;> first | exact hk _ h | exact h
theorem mono_oList : MonoN oList := fun x k k' hk => by
  unfold oList
  split <;> intro h <;> first | exact hk _ h | exact h
theorem mono_oDivmod : MonoN oDivmod := fun x k k' hk => by
  unfold oDivmod
  split <;> intro h <;> first | exact ⟨h.1, hk _ h.2⟩ | exact h
theorem mono_oStr : MonoN oStr := fun x k k' hk => by
  unfold oStr
  split <;> intro h <;> first | exact ⟨h.1, hk _ h.2⟩ | exact h
theorem mono_oRepr : MonoN oRepr := fun x k k' hk => by
  unfold oRepr
  split <;> intro h <;> first | exact ⟨h.1, hk _ h.2⟩ | exact h
theorem mono_oIsi : MonoN oIsi := fun x k k' hk => by
  unfold oIsi
  split <;> intro h <;> first | exact ⟨h.1, hk _ h.2⟩ | exact h
section
variable {B : Bg} {X : Cx}
theorem cr_len (hK : X.K = B.K) : CallR X (.builtin "len") (rGN B oLen) := by
  intro pins s σ' H vs us Q I rv ⟨σ, F, r, en, st, ds, R, p, h⟩
  unfold oLen at h
  split at h
  · obtain ⟨v, rfl, l, ws, rfl, e1, w1⟩ := reps1 p
    exact call_len pins s σ' H _ us Q I rv ⟨_, ws.length, rfl, .inl ⟨ws, SqL.of (R.w.sub _ _ e1), rfl⟩, by rw [w1.len]; exact kp_val h R rfl⟩
  · obtain ⟨v, rfl, l, ws, rfl, e1, w1⟩ := reps1 p
    exact call_len pins s σ' H _ us Q I rv ⟨_, ws.length, rfl, .inr ⟨ws, by rw [hK]; exact R.w.sub.sqT e1, rfl⟩, by rw [w1.len]; exact kp_val h R rfl⟩
  · obtain ⟨v, rfl, l, rfl, e1⟩ := reps1 p
    exact call_len pins s σ' H _ us Q I rv ⟨_, _, rfl, .inl ⟨_, by rw [hK]; exact R.w.sub.sqL e1, rfl⟩, by rw [List.length_map]; exact kp_val h R rfl⟩
  · obtain ⟨v, rfl, rfl⟩ := reps1 p
    exact call_len pins s σ' H _ us Q I rv ⟨_, _, rfl, ⟨h.1, rfl⟩, kp_val h.2 R rfl⟩
  · obtain ⟨v, rfl, l, ws, rfl, e1, w1⟩ := reps1 p
    refine call_lenD pins s σ' H _ us Q I rv ⟨_, _, rfl, R.w.sub _ _ e1, ?_⟩
    have el : ws.length = _ := repK_len w1
    rw [el]
    exact kp_val h R rfl
  · exact h.elim
where
  repK_len {F : Hp} {r : List Addr} : ∀ {ks : List (Key × D)} {ws : List (Key × V)}, RepK B F r ks ws → ws.length = ks.length
  | [], ws, h => by cases h; rfl
  | (k, d) :: ks, ws, ⟨v, t, e, q, h⟩ => by rw [e, List.length_cons, List.length_cons, repK_len h]
theorem cr_abs : CallR X (.builtin "abs") (rGN B oAbs) := by
  intro pins s σ' H vs us Q I rv ⟨σ, F, r, en, st, ds, R, p, h⟩
  unfold oAbs at h
  split at h
  · obtain ⟨v, rfl, rfl⟩ := reps1 p
    exact call_abs pins s σ' H _ us Q I rv ⟨_, rfl, kp_val h R rfl⟩
  · exact h.elim
/-- the greatest, the least of a tuple of ints -/
theorem kept_tup {s : Shared} {l : Addr} {h' : Heap} (hk : ∀ b o, b ∉ [s.heap.objs.size] → (s.heap.push { cls := .type "tuple_iterator", data := .fields #[.ref l, .int 0 0] }).get? b = some o → h'.get? b = some o) : ∀ b o, s.heap.get? b = some o → h'.get? b = some o := fun b o e => by
  refine hk b o (fun hm => ?_) (Heap.get?_push_of_some _ e)
  rw [List.mem_singleton] at hm
  rw [hm] at e
  exact Nat.lt_irrefl _ (Heap.lt_size e)
theorem max_tup {prog : Program} {w : PySem.World} {A : Around} {E : Value → Shared → Prop} {s : Shared} {Q : Value → Shared → Prop} {l : Addr} {its : List Value} {ns : List Int} (hh : A.handled = none) (hl : s.heap.IsTuple l its.toArray) (hi : IntsAre its ns) (hne : 0 < ns.length)
    (h : ∀ h' tk M t', (∀ b o, s.heap.get? b = some o → h'.get? b = some o) → M ∈ ns → (∀ a, a ∈ ns → a ≤ M) → Q (.int M t') { s with heap := h', toks := tk }) : wpAny (model prog w) A (call (.builtin "max") [.ref l]) Q E s := by
  obtain ⟨xs, e⟩ := hi.allInts.items
  have hn : numsOf (intItems xs).toList = ns := by rw [← e]; exact hi.numsOf
  rw [nums_intItems] at hn
  subst hn
  rw [e] at hl
  have hsz : 0 < xs.size := by simpa using hne
  have hlt : l < s.heap.objs.size := by obtain ⟨_, e, _⟩ := hl; exact Heap.lt_size e
  refine call_max_walk (wpAny_pyIter_tuple hl ?_)
  refine ⟨_, _, _, _, _, _, _, rfl, Walks.tuple (A := A.in1) hh _ l (Nat.ne_of_lt hlt) (intItems xs), ⟨⟨_, Heap.get?_push_size _ rfl, rfl, rfl⟩, hl.push _⟩, fun b hb => ?_, by simpa [intItems] using hsz, CmpOf.ints_gt (numAt xs) (fun _ _ => intItems_at), fun v h' tk hP hk => ?_⟩
  · show b < (s.heap.push _).objs.size
    rw [Heap.size_push]
    rcases List.mem_cons.mp hb with z | z
    · rw [z]; exact Nat.lt_succ_self _
    · rw [List.mem_singleton.mp z]; exact Nat.lt_succ_of_lt hlt
  · obtain ⟨t, rfl⟩ := intItems_at hP
    obtain ⟨h1, h2⟩ := argBest_gt (numAt xs) (xs.size - 1)
    have es : (intItems xs).size - 1 = xs.size - 1 := by simp [intItems]
    rw [es]
    refine h h' tk _ t (kept_tup hk) ?_ fun a ha => ?_
    · rw [numAt_eq]; exact PySem.getD_mem (by rw [List.length_map, Array.length_toList]; omega)
    · obtain ⟨j, hj, rfl⟩ := mem_getD ha
      rw [List.length_map, Array.length_toList] at hj
      rw [← numAt_eq]; exact h2 j (by omega)
theorem min_tup {prog : Program} {w : PySem.World} {A : Around} {E : Value → Shared → Prop} {s : Shared} {Q : Value → Shared → Prop} {l : Addr} {its : List Value} {ns : List Int} (hh : A.handled = none) (hl : s.heap.IsTuple l its.toArray) (hi : IntsAre its ns) (hne : 0 < ns.length)
    (h : ∀ h' tk M t', (∀ b o, s.heap.get? b = some o → h'.get? b = some o) → M ∈ ns → (∀ a, a ∈ ns → M ≤ a) → Q (.int M t') { s with heap := h', toks := tk }) : wpAny (model prog w) A (call (.builtin "min") [.ref l]) Q E s := by
  obtain ⟨xs, e⟩ := hi.allInts.items
  have hn : numsOf (intItems xs).toList = ns := by rw [← e]; exact hi.numsOf
  rw [nums_intItems] at hn
  subst hn
  rw [e] at hl
  have hsz : 0 < xs.size := by simpa using hne
  have hlt : l < s.heap.objs.size := by obtain ⟨_, e, _⟩ := hl; exact Heap.lt_size e
  refine call_min_walk (wpAny_pyIter_tuple hl ?_)
  refine ⟨_, _, _, _, _, _, _, rfl, Walks.tuple (A := A.in1) hh _ l (Nat.ne_of_lt hlt) (intItems xs), ⟨⟨_, Heap.get?_push_size _ rfl, rfl, rfl⟩, hl.push _⟩, fun b hb => ?_, by simpa [intItems] using hsz, CmpOf.ints_lt (numAt xs) (fun _ _ => intItems_at), fun v h' tk hP hk => ?_⟩
  · show b < (s.heap.push _).objs.size
    rw [Heap.size_push]
    rcases List.mem_cons.mp hb with z | z
    · rw [z]; exact Nat.lt_succ_self _
    · rw [List.mem_singleton.mp z]; exact Nat.lt_succ_of_lt hlt
  · obtain ⟨t, rfl⟩ := intItems_at hP
    obtain ⟨h1, h2⟩ := argBest_lt (numAt xs) (xs.size - 1)
    have es : (intItems xs).size - 1 = xs.size - 1 := by simp [intItems]
    rw [es]
    refine h h' tk _ t (kept_tup hk) ?_ fun a ha => ?_
    · rw [numAt_eq]; exact PySem.getD_mem (by rw [List.length_map, Array.length_toList]; omega)
    · obtain ⟨j, hj, rfl⟩ := mem_getD ha
      rw [List.length_map, Array.length_toList] at hj
      rw [← numAt_eq]; exact h2 j (by omega)
theorem cr_minD (hK : X.K = B.K) (hc : X.calm = true) : CallR X (.builtin "min") (rGN B oMin) := by
  intro pins s σ' H vs us Q I rv ⟨σ, F, r, en, st, ds, R, p, h⟩
  unfold oMin at h
  split at h
  · obtain ⟨v, u, rfl, rfl, rfl⟩ := reps2 p
    exact call_min2 hc pins s σ' H _ us Q I rv ⟨_, _, rfl, kp_val h R rfl⟩
  · obtain ⟨ns, rfl, h1, h2⟩ := h
    obtain ⟨v, rfl, l, ws, rfl, e1, w1⟩ := reps1 p
    have e2 := reps_ints_inv w1
    subst e2
    exact cr_min hc pins s σ' H _ us Q I rv ⟨l, ns, rfl, SqL.of (R.w.sub _ _ e1), h1, fun m h3 h4 => kp_val (h2 m h3 h4) R rfl⟩
  · obtain ⟨ns, rfl, h1, h2⟩ := h
    obtain ⟨v, rfl, l, ws, rfl, e1, w1⟩ := reps1 p
    have e2 := reps_ints_inv w1
    subst e2
    obtain ⟨its, rv2, hl, _⟩ := I.tuple (show SqT X.K H l (ns.map V.int) by rw [hK]; exact R.w.sub.sqT e1)
    rw [Vals.ref1 rv]
    exact min_tup (I.ok.hd hc) hl rv2.ints h1 fun h' tk m t' hk h3 h4 => ⟨.int _, H, I.kept hk, ⟨_, rfl⟩, kp_val (h2 m h3 h4) R rfl⟩
  · exact h.elim
theorem cr_maxD (hK : X.K = B.K) (hc : X.calm = true) : CallR X (.builtin "max") (rGN B oMax) := by
  intro pins s σ' H vs us Q I rv ⟨σ, F, r, en, st, ds, R, p, h⟩
  unfold oMax at h
  split at h
  · obtain ⟨v, u, rfl, rfl, rfl⟩ := reps2 p
    exact call_max2 hc pins s σ' H _ us Q I rv ⟨_, _, rfl, kp_val h R rfl⟩
  · obtain ⟨ns, rfl, h1, h2⟩ := h
    obtain ⟨v, rfl, l, ws, rfl, e1, w1⟩ := reps1 p
    have e2 := reps_ints_inv w1
    subst e2
    exact cr_max hc pins s σ' H _ us Q I rv ⟨l, ns, rfl, SqL.of (R.w.sub _ _ e1), h1, fun m h3 h4 => kp_val (h2 m h3 h4) R rfl⟩
  · obtain ⟨ns, rfl, h1, h2⟩ := h
    obtain ⟨v, rfl, l, ws, rfl, e1, w1⟩ := reps1 p
    have e2 := reps_ints_inv w1
    subst e2
    obtain ⟨its, rv2, hl, _⟩ := I.tuple (show SqT X.K H l (ns.map V.int) by rw [hK]; exact R.w.sub.sqT e1)
    rw [Vals.ref1 rv]
    exact max_tup (I.ok.hd hc) hl rv2.ints h1 fun h' tk m t' hk h3 h4 => ⟨.int _, H, I.kept hk, ⟨_, rfl⟩, kp_val (h2 m h3 h4) R rfl⟩
  · exact h.elim
theorem cr_int : CallR X (.type "int") (rGN B oInt) := by
  intro pins s σ' H vs us Q I rv ⟨σ, F, r, en, st, ds, R, p, h⟩
  unfold oInt at h
  split at h
  · obtain ⟨v, rfl, rfl⟩ := reps1 p
    exact call_int1 pins s σ' H _ us Q I rv (.inl ⟨_, rfl, kp_val h R rfl⟩)
  · obtain ⟨v, rfl, rfl⟩ := reps1 p
    obtain ⟨n, h1, h2, h3⟩ := h
    exact call_int_str pins s σ' H _ us Q I rv ⟨_, n, rfl, h1, h2, kp_val h3 R rfl⟩
  · exact h.elim
theorem cr_allD (hc : X.calm = true) : CallR X (.builtin "all") (rGN B oAll) := by
  intro pins s σ' H vs us Q I rv ⟨σ, F, r, en, st, ds, R, p, h⟩
  unfold oAll at h
  split at h
  · obtain ⟨ns, rfl, h1⟩ := h
    obtain ⟨v, rfl, l, ws, rfl, e1, w1⟩ := reps1 p
    have e2 := reps_bls_inv w1
    subst e2
    exact cr_all hc pins s σ' H _ us Q I rv ⟨l, ns, rfl, SqL.of (R.w.sub _ _ e1), kp_val h1 R rfl⟩
  · exact h.elim
theorem cr_anyD (hc : X.calm = true) : CallR X (.builtin "any") (rGN B oAny) := by
  intro pins s σ' H vs us Q I rv ⟨σ, F, r, en, st, ds, R, p, h⟩
  unfold oAny at h
  split at h
  · obtain ⟨ns, rfl, h1⟩ := h
    obtain ⟨v, rfl, l, ws, rfl, e1, w1⟩ := reps1 p
    have e2 := reps_bls_inv w1
    subst e2
    exact cr_any hc pins s σ' H _ us Q I rv ⟨l, ns, rfl, SqL.of (R.w.sub _ _ e1), kp_val h1 R rfl⟩
  · exact h.elim
theorem cr_sumD (hc : X.calm = true) : CallR X (.builtin "sum") (rGN B oSum) := by
  intro pins s σ' H vs us Q I rv ⟨σ, F, r, en, st, ds, R, p, h⟩
  unfold oSum at h
  split at h
  · obtain ⟨ns, rfl, h1⟩ := h
    obtain ⟨v, rfl, l, ws, rfl, e1, w1⟩ := reps1 p
    have e2 := reps_ints_inv w1
    subst e2
    exact cr_sum hc pins s σ' H _ us Q I rv ⟨l, ns, rfl, SqL.of (R.w.sub _ _ e1), kp_val h1 R rfl⟩
  · exact h.elim
theorem cr_sortedD : CallR X (.builtin "sorted") (rGN B oSorted) := by
  intro pins s σ' H vs us Q I rv ⟨σ, F, r, en, st, ds, R, p, h⟩
  unfold oSorted at h
  split at h
  · obtain ⟨ns, rfl, h1⟩ := h
    obtain ⟨v, rfl, l, ws, rfl, e1, w1⟩ := reps1 p
    have e2 := reps_ints_inv w1
    subst e2
    exact cr_sortedI pins s σ' H _ us Q I rv ⟨l, ns, rfl, SqL.of (R.w.sub _ _ e1), fun ms p h3 h4 hp => kp_new (h1 ms h3 h4) R hp ⟨_, rfl, reps_ints ms⟩⟩
  · exact h.elim
theorem cr_tuple (hK : X.K = B.K) : CallR X (.type "tuple") (rGN B oTuple) := by
  intro pins s σ' H vs us Q I rv ⟨σ, F, r, en, st, ds, R, p, h⟩
  unfold oTuple at h
  split at h
  · obtain ⟨v, rfl, l, ws, rfl, e1, w1⟩ := reps1 p
    exact call_tuple_of pins s σ' H _ us Q I rv ⟨l, ws, rfl, .inl ⟨SqL.of (R.w.sub _ _ e1), fun q hq => kp_tup h R hq w1⟩⟩
  · obtain ⟨v, rfl, l, ws, rfl, e1, w1⟩ := reps1 p
    exact call_tuple_of pins s σ' H _ us Q I rv ⟨l, ws, rfl, .inr ⟨by rw [hK]; exact R.w.sub.sqT e1, kp_val h R ⟨l, ws, rfl, e1, w1⟩⟩⟩
  · exact h.elim
theorem cr_list (hK : X.K = B.K) : CallR X (.type "list") (rGN B oList) := by
  intro pins s σ' H vs us Q I rv ⟨σ, F, r, en, st, ds, R, p, h⟩
  unfold oList at h
  split at h
  · obtain ⟨v, rfl, l, ws, rfl, e1, w1⟩ := reps1 p
    exact call_list_of pins s σ' H _ us Q I rv ⟨l, ws, rfl, .inl (SqL.of (R.w.sub _ _ e1)), fun q hq => kp_new h R hq ⟨_, rfl, w1⟩⟩
  · obtain ⟨v, rfl, l, ws, rfl, e1, w1⟩ := reps1 p
    exact call_list_of pins s σ' H _ us Q I rv ⟨l, ws, rfl, .inr (by rw [hK]; exact R.w.sub.sqT e1), fun q hq => kp_new h R hq ⟨_, rfl, w1⟩⟩
  · exact h.elim
theorem cr_divmod : CallR X (.builtin "divmod") (rGN B oDivmod) := by
  intro pins s σ' H vs us Q I rv ⟨σ, F, r, en, st, ds, R, p, h⟩
  unfold oDivmod at h
  split at h
  · obtain ⟨v, u, rfl, rfl, rfl⟩ := reps2 p
    exact call_divmodW pins s σ' H _ us Q I rv ⟨_, _, rfl, ⟨h.1.1, PyProof.noPylong_of_log2 h.1.2⟩, fun q hq => kp_tup h.2 R hq ⟨_, _, rfl, rfl, _, _, rfl, rfl, rfl⟩⟩
  · exact h.elim
theorem cr_str : CallR X (.type "str") (rGN B oStr) := by
  intro pins s σ' H vs us Q I rv ⟨σ, F, r, en, st, ds, R, p, h⟩
  unfold oStr at h
  split at h
  · obtain ⟨v, rfl, rfl⟩ := reps1 p
    exact call_str_int pins s σ' H _ us Q I rv ⟨_, rfl, h.1, kp_val h.2 R rfl⟩
  · exact h.elim
theorem vals_one {x : V} {us : List Value} (h : Vals [x] us) : ∃ u, us = [u] ∧ RelV x u := by
  cases h with
  | cons r t => cases t; exact ⟨_, rfl, r⟩
/-- repr of an integer of up to four thousand digits -/
theorem repr_big {prog : Program} {w : PySem.World} {A : Around} {E : Value → Shared → Prop} {s : Shared} {a : Int} {t : Tok} {Q : Value → Shared → Prop} (hn : s.heap.NoDigits) (ha : a.natAbs.log2 < 12900) (h : Q (.str (toString a) s.toks) { s with toks := s.toks + 1 }) : wpAny (model prog w) A (call (.builtin "repr") [.int a t]) Q E s := by
  have few : a.natAbs < 10 ^ 4300 := Nat.lt_of_lt_of_le (lt_of_log2 ha) pow_lo
  have ty := typeIs_int s a t
  have inner : ∀ {A' : Around} {E' : Value → Shared → Prop} {Q' : Value → Shared → Prop}, Q' (.str (toString a) s.toks) { s with toks := s.toks + 1 } → wpAny (model prog w) A' (call (.builtin "int.__repr__") [.int a t]) Q' E' s := fun {A' E' Q'} hq => by
    refine wpAny_call_entry F.slot_int_repr ty F.entry_int_repr ?_ (F.args_int_repr_1 _)
    unfold Builtin.«int.__repr__»
    show wpAny _ _ (Builtin.overDigitLimit? a >>= _) _ _ s
    exact wpAny_bind (overDigitLimit_any hn (fun _ => wpAny_bind (wpAny_mkStr (wpAny_pure ⟨_, rfl, hq⟩) (int_text_fits10 few))) fun z => absurd few (Nat.not_lt.mpr z))
  refine Calls.call_function_entry F.kind_repr F.plain_repr F.entry_repr (F.args_repr1 (.int a t)) ?_
  unfold Builtin.«repr»
  refine wpAny_bind (m := oneArg "repr" ⟨[.int a t], []⟩) (wpAny_pure ?_)
  simp only [cRoomFor, show [Value.int a t].any Value.onHeap = false from rfl, Bool.false_eq_true, if_false, pure_bind]
  refine wpAny_bind (wpAny_specialOf (name := Str.ofString "__repr__") ty F.slot_int_repr.lookup (wpAny_bind (m := callSpecialIfBound? (.int a t) (Str.ofString "__repr__")) ?_))
  exact wpAny_callSpecialIfBound?_slot (name := Str.ofString "__repr__") ty F.slot_int_repr (inner (wpAny_bind (wpAny_isInstance (T := "str") (b := true) rfl isSubtype_str_str (wpAny_pure ⟨_, rfl, h⟩))))
theorem reads_scl {h : Heap} {F : Hp} {r : List Addr} {d : D} {v : V} {u : Value} {p : PyData} (e : sclP d = some p) (q : Rep B F r d v) (ru : RelV v u) : Reads h u p [] := by
  cases d <;> simp only [sclP, reduceCtorEq, Option.some.injEq] at e <;> subst e <;> cases q
  · cases (show u = Value.none from ru); exact .none
  · cases (show u = Value.bool _ from ru); exact .bool _
  · obtain ⟨t, e⟩ := ru; cases e; exact .int _ t
  · obtain ⟨t, e⟩ := ru; cases e; exact .str _ t
theorem reads_kv {h : Heap} {P : Program} {w : PySem.World} {F : Hp} {r : List Addr} : ∀ (kvs : List (Key × D)) {es : List DictEntry} {ws : List (Key × Value)} {vs : List (Key × V)} {ps : List (PyData × PyData)}, Pairs (mixKind P w) es ws → KV vs ws → RepK B F r kvs vs → datK kvs = some ps →
    ReadsAll h (es.map (·.key)) (ps.map (·.1)) [] ∧ ReadsAll h (es.map (·.val)) (ps.map (·.2)) []
  | [], es, ws, vs, ps, hp, kv, rk, e => by
    cases rk
    cases kv
    cases hp
    cases e
    exact ⟨.nil, .nil⟩
  | (k, d) :: kvs, es, ws, vs, ps, hp, kv, rk, e => by
    obtain ⟨v, t, rfl, r1, r2⟩ := rk
    rw [datK] at e
    split at e
    · rename_i p ps' e1 e2
      cases e
      cases kv with
      | cons hkv kv' =>
        cases hp with
        | cons hk hv hp' =>
          obtain ⟨i1, i2⟩ := reads_kv kvs hp' kv' r2 e2
          have ek : k = _ := hkv.1
          refine ⟨?_, ?_⟩
          · refine ReadsAll.cons (as := []) (bs := []) ?_ i1
            dsimp only
            rcases keyIs_shape hk with ⟨i, t, z1, z2⟩ | ⟨x, t, z1, z2⟩
            · rw [ek, z1, z2]; exact .int i t
            · rw [ek, z1, z2]; exact .str x t
          · refine ReadsAll.cons (as := []) (bs := []) ?_ i2
            dsimp only
            rw [hv]
            exact reads_scl e1 r1 hkv.2
    · cases e
theorem cr_repr (hK : X.K = B.K) (hg : X.A.guards = some []) (hu : X.A.units + 66 < cLine) : CallR X (.builtin "repr") (rGN B oRepr) := by
  intro pins s σ' H vs us Q I rv ⟨σ, F, r, en, st, ds, R, p, h⟩
  unfold oRepr at h
  split at h
  · rename_i kvs
    obtain ⟨v, rfl, a, vs, rfl, e1, w1⟩ := reps1 p
    obtain ⟨⟨ps, h1, h2, h3, h4⟩, h6⟩ := h
    have es : shownK kvs = (PyData.dict ps).shown := by unfold shownK; rw [h1]
    rw [es] at h6
    obtain ⟨u, rfl, ru⟩ := vals_one rv
    cases (show u = Value.ref a from ru)
    obtain ⟨_, na, ws, kv, o, es', ep, ho, hx, hd, _, hp, _⟩ := dk_of I.hok (R.w.sub _ _ e1)
    obtain ⟨k1, k2⟩ := reads_kv (h := s.heap) kvs hp kv w1 h1
    have rd : Reads s.heap (.ref a) (.dict ps) (a :: [] ++ []) := .dict ho hx.1 hd k1 k2
    exact PySem.repr_of_reads' rd h2 (fun _ z => by
      rw [List.append_nil, List.mem_singleton] at z
      rw [z] at na
      simp at na) hg (by omega) (fun _ _ z => z) (fun h' t tk k => ⟨.str (PyData.dict ps).shown, H, I.kept k, ⟨t, rfl⟩, kp_val h6 R rfl⟩) h4
  · rename_i d nd
    obtain ⟨v, rfl, q⟩ := reps1 p
    obtain ⟨⟨pd, h1, h2, h3, h4, h5⟩, h6⟩ := h
    have es : shownD d = pd.shown := by unfold shownD; rw [h1]
    rw [es] at h6
    have dp := dp_of R.w.sub d pd v h1 q
    obtain ⟨u, rfl, ru⟩ := vals_one rv
    rw [← hK] at dp
    obtain ⟨as, rd⟩ := Dp.reads I pd v u dp ru
    have fin : ∀ (h' : Heap) (t : Tok) (tk : Nat), (∀ b o, s.heap.get? b = some o → h'.get? b = some o) → EP X pins σ' Q (.str pd.shown t) { s with heap := h', toks := tk } := fun h' t tk k => ⟨.str pd.shown, H, I.kept k, ⟨t, rfl⟩, kp_val h6 R rfl⟩
    have h2' : (∀ i, pd ≠ .int i) → pd.showable = true := fun z => by
      cases pd with
      | int i => exact absurd rfl (z i)
      | _ => exact h2
    have nd : s.heap.NoDigits := (B.dig X.base (by rw [← hK]; exact I.mod.kin)).keeps I.bk
    cases dp with
    | non => cases (show u = Value.none from ru); exact PySem.P.repr_of_none (fin s.heap _ _ fun _ _ z => z)
    | bl b => cases (show u = Value.bool b from ru); exact PySem.P.repr_of_bool (by have := fin s.heap s.toks (s.toks + 1) fun _ _ z => z; cases b <;> exact this)
    | int i => obtain ⟨t, e⟩ := ru; cases e; exact repr_big nd (of_decide_eq_true h2) (fin s.heap _ _ fun _ _ z => z)
    | str z => obtain ⟨t, e⟩ := ru; cases e; exact PySem.P.repr_of_str (fin s.heap _ _ fun _ _ z => z) h4
    | lst hq ha => cases (show u = Value.ref _ from ru); exact PySem.repr_of_reads' rd (h2' fun _ z => nomatch z) (fun z => by rw [h5] at z; cases z) hg (by omega) (fun _ _ z => z) (fun h' t tk k => fin h' t tk k) h4
    | tup hq ha => cases (show u = Value.ref _ from ru); exact PySem.repr_of_reads' rd (h2' fun _ z => nomatch z) (fun z => by rw [h5] at z; cases z) hg (by omega) (fun _ _ z => z) (fun h' t tk k => fin h' t tk k) h4
  · exact h.elim
theorem kitOk (d : D) (t : Ty) : ∀ n, (match d with | .non => some "NoneType" | .bl _ => some "bool" | .int _ => some "int" | .str _ => some "str" | .tup _ => some "tuple" | .lst _ => some "list" | .dct _ => some "dict" | _ => none) = some n → kitB n t.nm = some (isTy d t) := by
  intro n h
  cases d <;> simp only [reduceCtorEq, Option.some.injEq] at h <;> subst h <;> cases t <;> simp only [isTy, Ty.nm] <;> decide +kernel
def tyV (B : Bg) : D → Value
  | .non => .type "NoneType"
  | .bl _ => .type "bool"
  | .int _ => .type "int"
  | .str _ => .type "str"
  | .tup _ => .type "tuple"
  | .lst _ => .type "list"
  | .dct _ => .type "dict"
  | .obj c _ => .ref (B.cls c)
  | _ => .none
theorem tyX_of {σ : Sl} {F : Hp} {r : List Addr} {en : En} {st : List D} {H : Hp} {v : V} (hK : X.K = B.K) (kf : KitF B) (R : Rel B F r en st σ H) : ∀ {d : D}, hasTyO d = true → Rep B F r d v → TyX X.K H v (tyV B d)
  | .non, _, q => by cases q; exact .base .non
  | .bl _, _, q => by cases q; exact .base (.bl _)
  | .int _, _, q => by cases q; exact .base (.int _)
  | .str _, _, q => by cases q; exact .base (.str _)
  | .tup _, _, q => by
    obtain ⟨l, ws, rfl, e1, w1⟩ := q
    rcases e1 with (e1 | ⟨o, e1⟩) | ⟨o, its, n, e1, e2, _⟩
    · exact .base (.tup (R.w.sub _ _ e1))
    · exact .fTuple (R.w.sub _ _ e1)
    · exact .kTuple (by rw [hK]; exact e1) e2
  | .lst _, _, q => by
    obtain ⟨l, ws, rfl, e1, w1⟩ := q
    exact .base (.lst (R.w.sub _ _ e1))
  | .dct _, _, q => by
    obtain ⟨l, ws, rfl, e1, w1⟩ := q
    exact .base (.dK (R.w.sub _ _ e1))
  | .obj c _, _, q => by
    obtain ⟨hl, l, dx, ws, rfl, e1, w1⟩ := q
    have f := kf.ins c hl
    rw [hK]
    exact .base (.ins (R.w.sub _ _ e1) f.cl f.ha f.hn f.ht f.hm)
theorem kit_cl {F : Hp} {r : List Addr} {v : V} (kf : KitF B) : ∀ {d : D} {c : Nat}, hasTyO d = true → c < B.nc → Rep B F r d v → PySem.W.kitOne B.K (tyV B d) (.ref (B.cls c)) = some (isCl d c)
  | .non, c, _, hc, q => kf.ty c hc _ (by decide)
  | .bl _, c, _, hc, q => kf.ty c hc _ (by decide)
  | .int _, c, _, hc, q => kf.ty c hc _ (by decide)
  | .str _, c, _, hc, q => kf.ty c hc _ (by decide)
  | .tup _, c, _, hc, q => kf.ty c hc _ (by decide)
  | .lst _, c, _, hc, q => kf.ty c hc _ (by decide)
  | .dct _, c, _, hc, q => kf.ty c hc _ (by decide)
  | .obj c' _, c, _, hc, q => kf.cl c' c q.1 hc
theorem kit_tyO {F : Hp} {r : List Addr} {v : V} (kf : KitF B) (t : Ty) : ∀ {d : D}, hasTyO d = true → Rep B F r d v → PySem.W.kitOne B.K (tyV B d) (.type t.nm) = some (isTy d t)
  | .non, _, q => kit_ty (kitOk .non t _ rfl)
  | .bl b, _, q => kit_ty (kitOk (.bl b) t _ rfl)
  | .int i, _, q => kit_ty (kitOk (.int i) t _ rfl)
  | .str i, _, q => kit_ty (kitOk (.str i) t _ rfl)
  | .tup i, _, q => kit_ty (kitOk (.tup i) t _ rfl)
  | .lst i, _, q => kit_ty (kitOk (.lst i) t _ rfl)
  | .dct i, _, q => kit_ty (kitOk (.dct i) t _ rfl)
  | .obj c fs, _, q => by
    have e : isTy (.obj c fs) t = false := by cases t <;> rfl
    rw [e]
    exact kf.no c q.1 t
theorem cr_isi (hK : X.K = B.K) (kf : KitF B) : CallR X (.builtin "isinstance") (rGN B oIsi) := by
  intro pins s σ' H vs us Q I rv ⟨σ, F, r, en, st, ds, R, p, h⟩
  unfold oIsi at h
  split at h
  · rename_i d t
    obtain ⟨v, u, rfl, q, rfl⟩ := reps2 p
    exact call_isi pins s σ' H _ us Q I rv ⟨_, _, _, _, _, rfl, .ty _, tyX_of hK kf R h.1 q, by rw [hK]; exact kit_tyO kf t h.1 q, kp_val h.2 R rfl⟩
  · rename_i d c
    obtain ⟨v, u, rfl, q, rfl, hl⟩ := reps2 p
    exact call_isi pins s σ' H _ us Q I rv ⟨_, _, _, _, _, rfl, .own _, tyX_of hK kf R h.1 q, by rw [hK]; exact kit_cl kf h.1 hl q, kp_val h.2 R rfl⟩
  · exact h.elim
end
end Ev
set_option Elab.async false
set_option linter.all false
set_option autoImplicit false
set_option maxRecDepth 100000
/-! Ev, part G: statements. -/
namespace Ev
open PySem PySem.Spec PyProof.Rows L2
structure Post where
  nx : En → List D → Prop
  rt : T → List D → Prop
  bk : En → List D → Prop
  ct : En → List D → Prop
  ex : KX
structure Post.le (P P' : Post) : Prop where
  nx : ∀ n s, P.nx n s → P'.nx n s
  rt : ∀ x s, P.rt x s → P'.rt x s
  bk : ∀ n s, P.bk n s → P'.bk n s
  ct : ∀ n s, P.ct n s → P'.ct n s
  ex : ∀ x n s, P.ex x n s → P'.ex x n s
theorem Post.le.refl (P : Post) : Post.le P P := ⟨fun _ _ h => h, fun _ _ h => h, fun _ _ h => h, fun _ _ h => h, fun _ _ _ h => h⟩
theorem Post.le.nxs {P P' : Post} (h : Post.le P P') {n n' : En → List D → Prop} (hn : ∀ a b, n a b → n' a b) : Post.le { P with nx := n } { P' with nx := n' } := ⟨hn, h.rt, h.bk, h.ct, h.ex⟩
abbrev DTS := En → List D → Post → Prop
def MonoS (t : DTS) : Prop := ∀ (en : En) (st : List D) (P P' : Post), Post.le P P' → t en st P → t en st P'
theorem MonoS.app {t : DTS} {en : En} {st : List D} {P P' : Post} (m : MonoS t) (q : t en st P) (h : Post.le P P') : t en st P' := m _ _ _ _ h q
def RRep (B : Bg) (F : Hp) (r : List Addr) (H : Hp) (σ0 : Sl) (en0 : En) (H0 : Hp) : T → V → Prop
  | .v d, v => Rep B F r d v
  | .o d, v => ∃ a, v = .ref a ∧ Own B F r H d a ∧ (H0 a = none ∨ OwnAt σ0 en0 a)
  | .e _, _ => False
def postOf (B : Bg) (W : WX) (D : Ends) (σ : Sl) (F : Hp) (r : List Addr) (en : En) (H : Hp) : Post where
  nx := fun en' st' => ∀ σ' F' r' H', Step σ en F r H σ' en' F' r' H' → Rel B F' r' en' st' σ' H' → D.nx σ' H'
  rt := fun x st' => ∀ F' r' H' v, (∃ σ' en', Step σ en F r H σ' en' F' r' H') → World B F' r' st' H' → RRep B F' r' H' σ en H x v → D.rt v H'
  bk := fun en' st' => ∀ σ' F' r' H', Step σ en F r H σ' en' F' r' H' → Rel B F' r' en' st' σ' H' → D.bk σ' H'
  ct := fun en' st' => ∀ σ' F' r' H', Step σ en F r H σ' en' F' r' H' → Rel B F' r' en' st' σ' H' → D.ct σ' H'
  ex := fun x en' st' => ∀ σ' F' r' H' cls d, Step σ en F r H σ' en' F' r' H' → Rel B F' r' en' st' σ' H' → XRep B F' r' x cls d → W cls d σ' H'
def tS (B : Bg) (W : WX) (t : DTS) : TS := fun D σ H => ∃ F r en st, Rel B F r en st σ H ∧ t en st (postOf B W D σ F r en H)
section
variable {B : Bg} {W : WX} {σ σ1 : Sl} {F F1 : Hp} {r r1 : List Addr} {en en1 : En} {H H1 : Hp} {D : Ends}
theorem postOf.shift (S : Step σ en F r H σ1 en1 F1 r1 H1) : Post.le (postOf B W D σ F r en H) (postOf B W D σ1 F1 r1 en1 H1) where
  nx := fun _ _ h σ' F' r' H' U R => h σ' F' r' H' (S.trans U) R
  rt := fun x _ h F' r' H' v ⟨σ', en', U⟩ R q => h F' r' H' v ⟨σ', en', S.trans U⟩ R (by
    cases x with
    | v d => exact q
    | o d =>
      obtain ⟨a, e, q1, q3⟩ := q
      refine ⟨a, e, q1, ?_⟩
      rcases q3 with q | q
      · exact .inl (S.there a q)
      · exact (S.owns a q).symm
    | e x => exact q.elim)
  bk := fun _ _ h σ' F' r' H' U R => h σ' F' r' H' (S.trans U) R
  ct := fun _ _ h σ' F' r' H' U R => h σ' F' r' H' (S.trans U) R
  ex := fun _ _ _ h σ' F' r' H' c d U R q => h σ' F' r' H' c d (S.trans U) R q
theorem TRep.rr {H0 : Hp} {en0 : En} {x : T} {v : V} (h : TRep B F r H σ en H0 en0 x v) : RRep B F r H σ en0 H0 x v := by
  cases x with
  | v d => exact h
  | o d => obtain ⟨a, e, q1, _, q3⟩ := h; exact ⟨a, e, q1, q3⟩
  | e x => exact h.elim
/-- an exception in an expression, in a statement -/
theorem ex_of {x : Xn} {n : En} {s : List Ev.D} (h : (postOf B W D σ F r en H).ex x n s) : Epost B σ W F r en H x n s := fun F' r' H' c d U R q => h σ F' r' H' c d U R q
end
theorem PS.weak {X : Cx} {s : Stmt} {t t' : TS} (h : PS X s t) (w : ∀ D σ H, t' D σ H → t D σ H) : PS X s t' := ⟨fun pins s σ H D I q => h.run pins s σ H D I (w D σ H q)⟩
theorem PSs.weak {X : Cx} {s : List Stmt} {t t' : TS} (h : PSs X s t) (w : ∀ D σ H, t' D σ H → t D σ H) : PSs X s t' := ⟨fun pins s σ H D I q => h.run pins s σ H D I (w D σ H q)⟩
structure DS (B : Bg) (W : WX) (X : Cx) (s : Stmt) (t : DTS) : Prop where
  mono : MonoS t
  run : PS X s (tS B W t)
structure DSs (B : Bg) (W : WX) (X : Cx) (s : List Stmt) (t : DTS) : Prop where
  mono : MonoS t
  run : PSs X s (tS B W t)
section
variable {B : Bg} {W : WX} {X : Cx} {e a b c : Expr} {es : List Expr} {pos : Pos} {te ta tb tc : DTE} {tA : DTA} {tt tu : DTT} {s : Stmt} {ss sr : List Stmt} {t u : DTS}
/-! ### blocks -/
def dNext : DTS := fun en st P => P.nx en st
def dBreak : DTS := fun en st P => P.bk en st
def dCont : DTS := fun en st P => P.ct en st
def dSeq (t u : DTS) : DTS := fun en st P => t en st { P with nx := fun en1 st1 => u en1 st1 P }
def dNever : DTS := fun _ _ _ => False
theorem dNext_mono : MonoS dNext := fun _ _ _ _ h q => h.nx _ _ q
theorem dSeq_mono (m : MonoS t) (m' : MonoS u) : MonoS (dSeq t u) := fun en st P P' h q => m _ _ _ _ (h.nxs fun _ _ z => m' _ _ _ _ h z) q
theorem dss_nil : DSs B W X [] dNext := ⟨dNext_mono, PSs.weak pss_nil fun D σ H ⟨F, r, en, st, R, q⟩ => q σ F r H Step.refl R⟩
theorem dss_cons (h : DS B W X s t) (h' : DSs B W X ss u) : DSs B W X (s :: ss) (dSeq t u) := by
  refine ⟨dSeq_mono h.mono h'.mono, PSs.weak (pss_cons h.run h'.run) fun D σ H ⟨F, r, en, st, R, q⟩ => ?_⟩
  have q' : t en st { postOf B W D σ F r en H with nx := fun en1 st1 => u en1 st1 (postOf B W D σ F r en H) } := q
  refine ⟨F, r, en, st, R, h.mono.app q' ⟨fun n s z => ?_, fun _ _ z => z, fun _ _ z => z, fun _ _ z => z, fun _ _ _ z => z⟩⟩
  intro σ' F' r' H' S R'
  exact ⟨F', r', n, s, R', h'.mono _ _ _ _ (postOf.shift S) z⟩
theorem ds_pass : DS B W X (.Pass pos) dNext := ⟨dNext_mono, PS.weak ps_pass fun D σ H ⟨F, r, en, st, R, q⟩ => q σ F r H Step.refl R⟩
theorem ds_break : DS B W X (.Break pos) dBreak := ⟨fun _ _ _ _ h q => h.bk _ _ q, PS.weak ps_break fun D σ H ⟨F, r, en, st, R, q⟩ => q σ F r H Step.refl R⟩
theorem ds_cont : DS B W X (.Continue pos) dCont := ⟨fun _ _ _ _ h q => h.ct _ _ q, PS.weak ps_continue fun D σ H ⟨F, r, en, st, R, q⟩ => q σ F r H Step.refl R⟩
theorem ds_never : DS B W X s dNever := ⟨fun _ _ _ _ _ q => q, PS.weak ps_never fun D σ H ⟨F, r, en, st, R, q⟩ => q⟩
theorem ds_doc {x : Str} {j : Nat} {pos' : Pos} : DS B W X (.Expr (.Constant (.str x) j pos) pos') dNext := ⟨dNext_mono, PS.weak ps_doc fun D σ H ⟨F, r, en, st, R, q⟩ => q σ F r H Step.refl R⟩
/-! ### e, return e -/
def dDrop (te : DTE) : DTS := fun en st P => te en st (fun _ en1 st1 => P.nx en1 st1) P.ex
theorem dDrop_mono (m : MonoE te) : MonoS (dDrop te) := fun _ _ _ _ h q => m _ _ _ _ _ _ (fun _ _ _ z => h.nx _ _ z) h.ex q
theorem ds_expr (h : DE B W X e te) (hs : swapsWith e none pos.line X.env = pure false) : DS B W X (.Expr e pos) (dDrop te) := by
  refine ⟨dDrop_mono h.mono, PS.weak (ps_expr h.run hs) fun D σ H ⟨F, r, en, st, R, q⟩ => ?_⟩
  exact ⟨F, r, en, st, R, h.mono _ _ _ _ _ _ (fun x n s z F' r' H' v S R' _ => z σ F' r' H' S R') (fun _ _ _ z => ex_of z) q⟩
def dRet (te : DTE) : DTS := fun en st P => te en st (fun x _ st1 => P.rt x st1) P.ex
theorem dRet_mono (m : MonoE te) : MonoS (dRet te) := fun _ _ _ _ h q => m _ _ _ _ _ _ (fun _ _ _ z => h.rt _ _ z) h.ex q
theorem ds_ret (h : DE B W X e te) : DS B W X (.Return (some e) pos) (dRet te) := by
  refine ⟨dRet_mono h.mono, PS.weak (ps_ret h.run) fun D σ H ⟨F, r, en, st, R, q⟩ => ?_⟩
  exact ⟨F, r, en, st, R, h.mono _ _ _ _ _ _ (fun x n s z F' r' H' v S R' t => z F' r' H' v ⟨σ, n, S⟩ R'.w t.rr) (fun _ _ _ z => ex_of z) q⟩
/-- return x: a thing goes out as it is -/
def dRetV (i : Nat) : DTS := fun en st P => match en[i]? with
  | some (some (.v d)) => P.rt (.v d) st
  | some (some (.o d)) => P.rt (.o d) st
  | _ => False
theorem ds_retv {i : Nat} (h : PE X e (tVar i)) : DS B W X (.Return (some e) pos) (dRetV i) := by
  refine ⟨fun en st P P' h q => ?_, PS.weak (ps_ret h) fun D σ H ⟨F, r, en, st, R, q⟩ => ?_⟩
  · unfold dRetV at q ⊢
    split at q
    · exact h.rt _ _ q
    · exact h.rt _ _ q
    · exact q.elim
  · unfold dRetV at q
    split at q
    · rename_i d hx
      obtain ⟨v, e1, e2⟩ := R.val i d hx
      exact ⟨v, e1, q F r H v ⟨σ, en, Step.refl⟩ R.w e2⟩
    · rename_i d hx
      obtain ⟨c, e1, e2⟩ := R.own i d hx
      exact ⟨.ref c, e1, q F r H _ ⟨σ, en, Step.refl⟩ R.w ⟨c, rfl, e2, .inr ⟨i, d, hx, e1⟩⟩⟩
    · exact q.elim
def dRetN : DTS := fun _ st P => P.rt (.v .non) st
theorem ds_retN : DS B W X (.Return none pos) dRetN := ⟨fun _ _ _ _ h q => h.rt _ _ q, PS.weak ps_retN fun D σ H ⟨F, r, en, st, R, q⟩ => q F r H .non ⟨σ, en, Step.refl⟩ R.w rfl⟩
/-! ### if, while -/
def dIfS (c : DTT) (t u : DTS) : DTS := fun en st P => c en st (fun b en1 st1 => if b = true then t en1 st1 P else u en1 st1 P) P.ex
theorem dIfS_mono (m : MonoT tt) (m1 : MonoS t) (m2 : MonoS u) : MonoS (dIfS tt t u) := fun _ _ _ _ h q => m _ _ _ _ _ _ (fun b n s z => by
  cases b
  · exact m2 _ _ _ _ h z
  · exact m1 _ _ _ _ h z) h.ex q
theorem ds_if (hc : DT B W X c tt) (h1 : DSs B W X ss t) (h2 : DSs B W X sr u) : DS B W X (.If c ss sr pos) (dIfS tt t u) := by
  refine ⟨dIfS_mono hc.mono h1.mono h2.mono, PS.weak (ps_if hc.run h1.run h2.run) fun D σ H ⟨F, r, en, st, R, q⟩ => ?_⟩
  refine ⟨F, r, en, st, R, hc.mono _ _ _ _ _ _ (fun b n s z => ?_) (fun _ _ _ z => ex_of z) q⟩
  intro F' r' H' S R'
  cases b with
  | true =>
    rw [if_pos rfl] at z ⊢
    exact ⟨F', r', n, s, R', h1.mono _ _ _ _ (postOf.shift S) z⟩
  | false =>
    rw [if_neg Bool.false_ne_true] at z ⊢
    exact ⟨F', r', n, s, R', h2.mono _ _ _ _ (postOf.shift S) z⟩
def dWhile (c : DTT) (t : DTS) : DTS := fun en st P => ∃ I : Nat → En → List D → Prop, (∃ m, I m en st) ∧ ∀ m en st, I m en st →
  c en st (fun b en1 st1 => if b = true then t en1 st1 { P with nx := fun n s => ∃ m', m' < m ∧ I m' n s, ct := fun n s => ∃ m', m' < m ∧ I m' n s, bk := P.nx } else P.nx en1 st1) P.ex
theorem dWhile_mono (m : MonoT tt) (m1 : MonoS t) : MonoS (dWhile tt t) := fun _ _ _ _ h ⟨I, i0, q⟩ => ⟨I, i0, fun k n s z => m _ _ _ _ _ _ (fun b n s z => by
  cases b
  · exact h.nx _ _ z
  · exact m1.app z ⟨fun _ _ y => y, h.rt, h.nx, fun _ _ y => y, h.ex⟩) h.ex (q k n s z)⟩
theorem ds_while (hp : PassesOwn (model X.prog X.w) X.A X.env X.xe) (hc : DT B W X c tt) (h1 : DSs B W X ss t) : DS B W X (.While c ss [] pos) (dWhile tt t) := by
  refine ⟨dWhile_mono hc.mono h1.mono, PS.weak (ps_while hp hc.run h1.run) fun D σ H ⟨F, r, en, st, R, I, ⟨m0, i0⟩, q⟩ => ?_⟩
  refine ⟨fun m σ' H' => ∃ F' r' en' st', Step σ en F r H σ' en' F' r' H' ∧ Rel B F' r' en' st' σ' H' ∧ I m en' st', ⟨m0, F, r, en, st, Step.refl, R, i0⟩, fun m σ1 H1 ⟨F1, r1, en1, st1, S1, R1, i1⟩ => ?_⟩
  refine ⟨F1, r1, en1, st1, R1, hc.mono _ _ _ _ _ _ (fun b n s z => ?_) (fun _ _ _ z => ex_of ((postOf.shift S1).ex _ _ _ z)) (q m en1 st1 i1)⟩
  intro F2 r2 H2 S2 R2
  have S := S1.trans S2
  cases b with
  | true =>
    rw [if_pos rfl] at z ⊢
    refine ⟨fun σ' H' => ∃ m', m' < m ∧ ∃ F' r' en' st', Step σ en F r H σ' en' F' r' H' ∧ Rel B F' r' en' st' σ' H' ∧ I m' en' st', fun σ' H' y => y, F2, r2, n, s, R2, h1.mono.app z ⟨?_, ?_, ?_, ?_, ?_⟩⟩
    · rintro n' s' ⟨m', lt, i'⟩ σ' F' r' H' U R'
      exact ⟨m', lt, F', r', n', s', S.trans U, R', i'⟩
    · exact fun x s y => (postOf.shift (W := W) S).rt x s y
    · exact fun n' s' y => (postOf.shift (W := W) S).nx n' s' y
    · rintro n' s' ⟨m', lt, i'⟩ σ' F' r' H' U R'
      exact ⟨m', lt, F', r', n', s', S.trans U, R', i'⟩
    · exact fun x n s y => (postOf.shift S).ex x n s y
  | false =>
    rw [if_neg Bool.false_ne_true] at z ⊢
    exact z σ1 F2 r2 H2 S R2
end
/-! ### stores -/
section
variable {B : Bg} {σ : Sl} {en en0 : En} {F F0 : Hp} {r r0 : List Addr} {H H0 : Hp} {st : List D}
theorem own_set {i : Nat} {x : Option T} {v : Option V} {j : Nat} {a : Addr} (h : OwnI (σ.set i v) (en.set i x) j a) : (j ≠ i ∧ OwnI σ en j a) ∨ (j = i ∧ ∃ d, x = some (.o d) ∧ v = some (.ref a)) := by
  obtain ⟨d, h1, h2⟩ := h
  by_cases q : j = i
  · subst q
    have hl : j < en.length := by have := (List.getElem?_eq_some_iff.mp h1).1; rwa [List.length_set] at this
    have hl2 : j < σ.length := by have := (List.getElem?_eq_some_iff.mp h2).1; rwa [List.length_set] at this
    rw [List.getElem?_set_self hl] at h1
    rw [List.getElem?_set_self hl2] at h2
    exact .inr ⟨rfl, d, Option.some.inj h1, Option.some.inj h2⟩
  · rw [List.getElem?_set_ne (Ne.symm q)] at h1 h2
    exact .inl ⟨q, d, h1, h2⟩
/-- a slot is stored -/
theorem Rel.set {i : Nat} {x : T} {v : V} (S : Step σ en0 F0 r0 H0 σ en F r H) (R : Rel B F r en st σ H) (t : TRep B F r H σ en H0 en0 x v) (hi : i < σ.length) :
    Step σ en0 F0 r0 H0 (σ.set i (some v)) (en.set i (some x)) F r H ∧ Rel B F r (en.set i (some x)) st (σ.set i (some v)) H := by
  have hie : i < en.length := by rw [R.len]; exact hi
  constructor
  · refine ⟨S.keep, S.there, S.grow, S.pre, S.new, fun a ⟨j, z⟩ => ?_⟩
    rcases own_set z with ⟨_, z⟩ | ⟨_, d, e1, e2⟩
    · exact S.owns a ⟨j, z⟩
    · cases e1; cases e2
      obtain ⟨a', e, _, _, q⟩ := t
      cases e
      exact q.symm
  · refine ⟨R.w, fun j d e => ?_, fun j d e => ?_, fun j k a z1 z2 => ?_, by rw [List.length_set, List.length_set]; exact R.len, fun j xx e => ?_⟩
    · by_cases q : j = i
      · subst q
        rw [List.getElem?_set_self hie] at e
        cases e
        exact ⟨v, by rw [List.getElem?_set_self hi], t⟩
      · rw [List.getElem?_set_ne (Ne.symm q)] at e ⊢
        exact R.val j d e
    · by_cases q : j = i
      · subst q
        rw [List.getElem?_set_self hie] at e
        cases e
        obtain ⟨a', rfl, q1, _, _⟩ := t
        exact ⟨a', by rw [List.getElem?_set_self hi], q1⟩
      · rw [List.getElem?_set_ne (Ne.symm q)] at e ⊢
        exact R.own j d e
    · rcases own_set z1 with ⟨n1, y1⟩ | ⟨n1, d, e1, e2⟩ <;> rcases own_set z2 with ⟨n2, y2⟩ | ⟨n2, d', f1, f2⟩
      · exact R.dis j k a y1 y2
      · cases f1; cases f2
        obtain ⟨a', e, _, no, _⟩ := t
        cases e
        exact absurd ⟨j, y1⟩ no
      · cases e1; cases e2
        obtain ⟨a', e, _, no, _⟩ := t
        cases e
        exact absurd ⟨k, y2⟩ no
      · rw [n1, n2]
    · by_cases q : j = i
      · subst q
        rw [List.getElem?_set_self hie] at e
        cases e
        exact t.elim
      · rw [List.getElem?_set_ne (Ne.symm q)] at e ⊢
        exact R.exc j xx e
/-- a slot's thing is changed -/
theorem Rel.put {i : Nat} {d d' : D} {a : Addr} {o' : HO} (R : Rel B F r en st σ H) (hi : en[i]? = some (some (.o d))) (ha : σ[i]? = some (some (.ref a))) (h : ORep B F r d' o') :
    Step σ en F r H σ (en.set i (some (.o d'))) F r (upd H a o') ∧ Rel B F r (en.set i (some (.o d'))) st σ (upd H a o') := by
  obtain ⟨b, e1, q1, q2, o, q3, q4⟩ := R.own i d hi
  rw [ha] at e1
  cases e1
  have hie : i < en.length := (List.getElem?_eq_some_iff.mp hi).1
  have own' : ∀ j c, OwnI σ (en.set i (some (.o d'))) j c → OwnI σ en j c := fun j c ⟨x, z1, z2⟩ => by
    by_cases q : j = i
    · subst q; exact ⟨d, hi, z2⟩
    · rw [List.getElem?_set_ne (Ne.symm q)] at z1; exact ⟨x, z1, z2⟩
  constructor
  · refine ⟨fun c u e hr ho _ => ?_, fun c e => ?_, Sub.refl _, ⟨[], by simp, fun _ z => by cases z⟩, fun _ _ e => .inl e, fun c ⟨j, z⟩ => .inl ⟨j, own' j c z⟩⟩
    · have ne : c ≠ a := fun z => ho ⟨i, d, hi, z ▸ ha⟩
      rw [upd_ne ne]; exact e
    · by_cases q : c = a
      · subst q; rw [upd_same] at e; cases e
      · rw [upd_ne q] at e; exact e
  · refine ⟨⟨fun c u e => ?_, ⟨tabs_upd R.w.tab.1 q3 q4.isM, R.w.tab.2⟩, R.w.nd, R.w.len, fun n c x f1 f2 => ?_⟩, fun j x e => ?_, fun j x e => ?_, fun j k c z1 z2 => R.dis j k c (own' j c z1) (own' k c z2), by rw [List.length_set]; exact R.len, fun j x e => ?_⟩
    · have ne : c ≠ a := fun z => by rw [z, q1] at e; cases e
      rw [upd_ne ne]; exact R.w.sub c u e
    · obtain ⟨g1, u, g2, g3⟩ := R.w.box n c x f1 f2
      have ne : c ≠ a := fun z => q2 (z ▸ List.mem_of_getElem? f1)
      exact ⟨g1, u, by rw [upd_ne ne]; exact g2, g3⟩
    · by_cases q : j = i
      · subst q; rw [List.getElem?_set_self hie] at e; cases e
      · rw [List.getElem?_set_ne (Ne.symm q)] at e; exact R.val j x e
    · by_cases q : j = i
      · subst q
        rw [List.getElem?_set_self hie] at e
        cases e
        exact ⟨a, ha, q1, q2, o', upd_same, h⟩
      · rw [List.getElem?_set_ne (Ne.symm q)] at e
        obtain ⟨c, g1, g2, g3, u, g4, g5⟩ := R.own j x e
        have ne : c ≠ a := fun z => q (R.dis j i a ⟨x, e, z ▸ g1⟩ ⟨d, hi, ha⟩)
        exact ⟨c, g1, g2, g3, u, by rw [upd_ne ne]; exact g4, g5⟩
    · by_cases q : j = i
      · subst q; rw [List.getElem?_set_self hie] at e; cases e
      · rw [List.getElem?_set_ne (Ne.symm q)] at e; exact R.exc j x e
/-- a box is changed -/
theorem Rel.putBox {n : Nat} {d d' : D} {a : Addr} {o' : HO} (R : Rel B F r en st σ H) (hn : st[n]? = some d) (ha : r[n]? = some a) (h : ORep B F r d' o') :
    Step σ en F r H σ en F r (upd H a o') ∧ Rel B F r en (st.set n d') σ (upd H a o') := by
  obtain ⟨q1, o, q2, q3⟩ := R.w.box n a d ha hn
  have har : a ∈ r := List.mem_of_getElem? ha
  have hnl : n < st.length := (List.getElem?_eq_some_iff.mp hn).1
  constructor
  · refine ⟨fun c u e hr ho _ => ?_, fun c e => ?_, Sub.refl _, ⟨[], by simp, fun _ z => by cases z⟩, fun _ _ e => .inl e, fun c z => .inl z⟩
    · have ne : c ≠ a := fun z => hr (z ▸ har)
      rw [upd_ne ne]; exact e
    · by_cases q : c = a
      · subst q; rw [upd_same] at e; cases e
      · rw [upd_ne q] at e; exact e
  · refine ⟨⟨fun c u e => ?_, ⟨tabs_upd R.w.tab.1 q2 q3.isM, R.w.tab.2⟩, R.w.nd, by rw [List.length_set]; exact R.w.len, fun m c x f1 f2 => ?_⟩, R.val, fun j x e => ?_, R.dis, R.len, R.exc⟩
    · have ne : c ≠ a := fun z => by rw [z, q1] at e; cases e
      rw [upd_ne ne]; exact R.w.sub c u e
    · by_cases q : m = n
      · subst q
        rw [ha] at f1; cases f1
        rw [List.getElem?_set_self hnl] at f2; cases f2
        exact ⟨q1, o', upd_same, h⟩
      · rw [List.getElem?_set_ne (Ne.symm q)] at f2
        obtain ⟨g1, u, g2, g3⟩ := R.w.box m c x f1 f2
        have ne : c ≠ a := fun z => q (by
          subst z
          have hm : m < r.length := (List.getElem?_eq_some_iff.mp f1).1
          have hn' : n < r.length := (List.getElem?_eq_some_iff.mp ha).1
          have e1 := (List.getElem?_eq_some_iff.mp f1).2
          have e2 := (List.getElem?_eq_some_iff.mp ha).2
          exact (List.getElem_inj R.w.nd).mp (e1.trans e2.symm))
        exact ⟨g1, u, by rw [upd_ne ne]; exact g2, g3⟩
    · obtain ⟨c, g1, g2, g3, u, g4, g5⟩ := R.own j x e
      have ne : c ≠ a := fun z => g3 (z ▸ har)
      exact ⟨c, g1, g2, g3, u, by rw [upd_ne ne]; exact g4, g5⟩
end
end Ev
set_option Elab.async false
set_option linter.all false
set_option autoImplicit false
set_option maxRecDepth 100000
set_option maxHeartbeats 2000000
/-! Ev, part Ga: a list is extended by a tuple. -/
namespace Ev
open PySem PySem.Spec PyProof.Rows L2
open AutoSeq1
theorem ext_tup (l : Addr) (items : Array Value) (n : Nat) (b : Addr) (items2 : Array Value) (n2 : Nat) (dct : Option Addr) (sl : Array (Option Value)) (hs0 : ¬(!items.isEmpty && Builtin.List.listTooLong (items.size + items2.size)) = true) (hs1 : items.size ≤ sizeLine) (hs2 : items.size + items2.size ≤ sizeLine + 1) :
    Meets (Builtin.«list.extend» ⟨[.ref l, .ref b], []⟩) (fun _ R s => s.heap.get? l = some { cls := .type "list", dict := none, data := .seq items n, slots := #[] } ∧ s.heap.get? b = some { cls := .type "tuple", dict := dct, data := .seq items2 n2, slots := sl } ∧ R (.ok (.ret Value.none)) { s with heap := s.heap.update l (Obj.mapSeq fun x => x ++ items2), toks := s.toks }) :=
  .of_wp fun prog w A R s h => by
    obtain ⟨hp, g, d, tk, os⟩ := s; obtain ⟨hl, hb, h⟩ := h; have g1 := idx_int
    have g2 := AutoSeq1.sub_tuple_tuple
    have g3 := AutoSeq1.sub_list_list
    have g4 := AutoSeq1.sub_tuple_list
    have g5 := AutoSeq1.sub_list_tuple
    have hz' : (items ++ items2).size ≤ sizeLine + 1 := by rw [Array.size_append]; exact hs2
    wp_walk using (wpAny_updateSeq hl rfl (hz := hs1) (_hz' := hz')), wpAny_loadPart' hl, wpAny_loadPart' hb; exact ⟨_, rfl, h⟩
def rExtendA (K : PySem.W.Frag) : V → List V → Hp → VK → Prop := fun x vs H Q => rExtend x vs H Q ∨ ∃ l b xs zs, x = .ref l ∧ vs = [.ref b] ∧ H l = some (.lst xs) ∧ SqT K H b zs ∧ xs.length + zs.length ≤ sizeLine ∧ Q .non (upd H l (.lst (xs ++ zs)))
theorem mt_extendA {X : Cx} : MtM X "list.extend" (rExtendA X.K) := by
  intro pins s σ H x vs v us Q I rx rv h
  rcases h with h | h
  · exact mt_extend pins s σ H x vs v us Q I rx rv h
  · obtain ⟨l, b, xs, zs, rfl, rfl, hH, hB, hz, q⟩ := h
    cases rx
    obtain ⟨u, rfl, ru⟩ := rv.one
    cases ru
    obtain ⟨z, its, n, r, hl, e⟩ := I.lstM hH
    obtain ⟨its2, r2, ⟨⟨c, dct, dt, sl⟩, e2, hc, n2, hd⟩, z2⟩ := I.tuple hB
    have hc : c = .type "tuple" := hc
    have hd : dt = .seq its2.toArray n2 := hd
    subst hc hd
    have hl2 := r2.length
    have hsz : its.toArray.size + its2.toArray.size ≤ sizeLine := by rw [List.size_toArray, List.size_toArray]; omega
    have hlong : ¬ (!its.toArray.isEmpty && Builtin.List.listTooLong (its.toArray.size + its2.toArray.size)) = true := by
      rw [notLongL hsz, Bool.and_false]
      exact Bool.false_ne_true
    refine call_meets F.slot_list_extend ⟨_, e, rfl⟩ F.entry_list_extend (F.args_list_extend_2 _ _)
      (ext_tup l its.toArray n b its2.toArray n2 dct sl hlong (by rw [List.size_toArray]; omega) (by omega)) ⟨e, e2, ?_⟩
    refine ⟨.non, _, I.lset (its' := its ++ its2) hH e (by simp) (r.append r2) ?_, rfl, q⟩
    rw [List.length_append]
    omega
end Ev
set_option Elab.async false
set_option linter.all false
set_option autoImplicit false
set_option maxRecDepth 100000
/-! Ev, part H: targets, assignments, methods that change a list. -/
namespace Ev
open PySem PySem.Spec PyProof.Rows L2
abbrev KG := En → List D → Prop
abbrev DTG := D → En → List D → KG → KX → Prop
abbrev DTGs := List D → En → List D → KG → KX → Prop
def MonoG (t : DTG) : Prop := ∀ (d : D) (en : En) (st : List D) (k k' : KG) (e e' : KX), (∀ n s, k n s → k' n s) → (∀ x n s, e x n s → e' x n s) → t d en st k e → t d en st k' e'
def MonoGs (t : DTGs) : Prop := ∀ (d : List D) (en : En) (st : List D) (k k' : KG) (e e' : KX), (∀ n s, k n s → k' n s) → (∀ x n s, e x n s → e' x n s) → t d en st k e → t d en st k' e'
def Gpost (B : Bg) (σ : Sl) (Q : Sl → Hp → Prop) (F : Hp) (r : List Addr) (en : En) (H : Hp) : KG := fun en' st' => ∀ σ' F' r' H', Step σ en F r H σ' en' F' r' H' → Rel B F' r' en' st' σ' H' → Q σ' H'
def Xpost (B : Bg) (W : WX) (σ : Sl) (F : Hp) (r : List Addr) (en : En) (H : Hp) : KX := fun x en' st' =>
  ∀ σ' F' r' H' cls d, Step σ en F r H σ' en' F' r' H' → Rel B F' r' en' st' σ' H' → XRep B F' r' x cls d → W cls d σ' H'
def tG (B : Bg) (W : WX) (g : DTG) : TG := fun v σ H Q => ∃ F r en st d, Rel B F r en st σ H ∧ Rep B F r d v ∧ g d en st (Gpost B σ Q F r en H) (Xpost B W σ F r en H)
def tGs (B : Bg) (W : WX) (g : DTGs) : TGs := fun vs σ H Q => ∃ F r en st ds, Rel B F r en st σ H ∧ Reps B F r ds vs ∧ g ds en st (Gpost B σ Q F r en H) (Xpost B W σ F r en H)
section
variable {B : Bg} {W : WX} {σ σ1 : Sl} {F F1 : Hp} {r r1 : List Addr} {en en1 : En} {H H1 : Hp}
theorem Gpost.shift {Q : Sl → Hp → Prop} (S : Step σ en F r H σ1 en1 F1 r1 H1) {n : En} {s : List D} (h : Gpost B σ Q F r en H n s) : Gpost B σ1 Q F1 r1 en1 H1 n s := fun σ' F' r' H' U R => h σ' F' r' H' (S.trans U) R
theorem Xpost.shift (S : Step σ en F r H σ1 en1 F1 r1 H1) {x : Xn} {n : En} {s : List D} (h : Xpost B W σ F r en H x n s) : Xpost B W σ1 F1 r1 en1 H1 x n s := fun σ' F' r' H' c d U R q => h σ' F' r' H' c d (S.trans U) R q
theorem Xpost.ep {x : Xn} {n : En} {s : List D} (h : Xpost B W σ F r en H x n s) : Epost B σ W F r en H x n s := fun F' r' H' c d U R q => h σ F' r' H' c d U R q
theorem set_far {α : Type} {l : List α} {i : Nat} {x : α} (h : ¬ i < l.length) : l.set i x = l := List.set_eq_of_length_le (Nat.le_of_not_lt h)
theorem Rel.set' {st : List D} {en0 : En} {F0 H0 : Hp} {r0 : List Addr} {i : Nat} {x : T} {v : V} (S : Step σ en0 F0 r0 H0 σ en F r H) (R : Rel B F r en st σ H) (t : TRep B F r H σ en H0 en0 x v) :
    Step σ en0 F0 r0 H0 (σ.set i (some v)) (en.set i (some x)) F r H ∧ Rel B F r (en.set i (some x)) st (σ.set i (some v)) H := by
  by_cases hi : i < σ.length
  · exact Rel.set S R t hi
  · rw [set_far hi, set_far (by rw [R.len]; exact hi)]
    exact ⟨S, R⟩
end
theorem PG.weak {X : Cx} {e : Expr} {t t' : TG} (h : PG X e t) (w : ∀ v σ H Q, t' v σ H Q → t v σ H Q) : PG X e t' := ⟨fun pins s σ H v u Q I r q => h.run pins s σ H v u Q I r (w v σ H Q q)⟩
theorem PGs.weak {X : Cx} {e : List Expr} {t t' : TGs} (h : PGs X e t) (w : ∀ v σ H Q, t' v σ H Q → t v σ H Q) : PGs X e t' := ⟨fun pins s σ H v u Q I r q => h.run pins s σ H v u Q I r (w v σ H Q q)⟩
structure DG (B : Bg) (W : WX) (X : Cx) (e : Expr) (t : DTG) : Prop where
  mono : MonoG t
  run : PG X e (tG B W t)
structure DGs (B : Bg) (W : WX) (X : Cx) (e : List Expr) (t : DTGs) : Prop where
  mono : MonoGs t
  run : PGs X e (tGs B W t)
section
variable {B : Bg} {W : WX} {X : Cx} {e a b c tg : Expr} {es : List Expr} {pos : Pos} {te ta tb tc : DTE} {tA : DTA} {tt tu : DTT} {s : Stmt} {ss sr : List Stmt} {t u : DTS} {g : DTG} {gs : DTGs}
def dgName (i : Nat) : DTG := fun d en st k _ => k (en.set i (some (.v d))) st
theorem dg_name {i : Nat} (h : PG X tg (gName i)) : DG B W X tg (dgName i) := by
  refine ⟨fun _ _ _ _ _ _ _ hk _ q => hk _ _ q, PG.weak h fun v σ H Q ⟨F, r, en, st, d, R, p, q⟩ => ?_⟩
  obtain ⟨S1, R1⟩ := Rel.set' (i := i) (x := .v d) (v := v) Step.refl R p
  exact q _ F r H S1 R1
def dgNil : DTGs := fun ds en st k _ => ds = [] ∧ k en st
def dgCons (g : DTG) (gs : DTGs) : DTGs := fun ds en st k e => match ds with
  | d :: rest => g d en st (fun en1 st1 => gs rest en1 st1 k e) e
  | [] => False
theorem dgs_nil : DGs B W X [] dgNil := by
  refine ⟨fun _ _ _ _ _ _ _ hk _ q => ⟨q.1, hk _ _ q.2⟩, PGs.weak pgs_nil fun vs σ H Q ⟨F, r, en, st, ds, R, p, q1, q2⟩ => ?_⟩
  subst q1
  exact ⟨p, q2 σ F r H Step.refl R⟩
theorem dgs_cons (h : DG B W X e g) (h' : DGs B W X es gs) (hs : (assignEach (e :: es) X.env).map (·.2) = assign e X.env :: (assignEach es X.env).map (·.2)) : DGs B W X (e :: es) (dgCons g gs) := by
  refine ⟨fun ds _ _ _ _ _ _ hk he q => ?_, PGs.weak (pgs_cons h.run h'.run hs) fun vs σ H Q ⟨F, r, en, st, ds, R, p, q⟩ => ?_⟩
  · cases ds with
    | nil => exact q
    | cons d rest => exact h.mono _ _ _ _ _ _ _ (fun _ _ z => h'.mono _ _ _ _ _ _ _ hk he z) he q
  · cases ds with
    | nil => exact q.elim
    | cons d rest =>
      obtain ⟨v, t, rfl, p1, p2⟩ := p
      refine ⟨v, t, rfl, F, r, en, st, d, R, p1, h.mono _ _ _ _ _ _ _ (fun n s z => ?_) (fun _ _ _ z => z) q⟩
      intro σ' F' r' H' S R'
      exact ⟨F', r', n, s, rest, R', p2.step S, h'.mono _ _ _ _ _ _ _ (fun _ _ z => z.shift S) (fun _ _ _ z => z.shift S) z⟩
def dgTup (n : Nat) (gs : DTGs) : DTG := fun d en st k e => match d with
  | .tup ds => ds.length = n ∧ gs ds en st k e
  | .lst ds => ds.length = n ∧ gs ds en st k e
  | _ => False
theorem dg_tup {j n : Nat} (hK : X.K = B.K) (hc : X.calm = true) (h : DGs B W X es gs) (hn : (assignEach es X.env).length = n) (hst : (assignEach es X.env).findIdx? (·.1) = none) : DG B W X (.Tuple es j pos) (dgTup n gs) := by
  refine ⟨fun d _ _ _ _ _ _ hk he q => ?_, ⟨fun pins s σ H v u Q I rv ⟨F, r, en, st, d, R, p, q⟩ => ?_⟩⟩
  · unfold dgTup at q ⊢
    split at q
    · exact ⟨q.1, h.mono _ _ _ _ _ _ _ hk he q.2⟩
    · exact ⟨q.1, h.mono _ _ _ _ _ _ _ hk he q.2⟩
    · exact q.elim
  · unfold dgTup at q
    split at q
    · obtain ⟨l, vs, rfl, e1, w1⟩ := p
      exact (pg_tup hc h.run hn hst).run pins s σ H _ u Q I rv ⟨l, vs, rfl, by rw [hK]; exact R.w.sub.sqT e1, by rw [w1.len]; exact q.1, F, r, en, st, _, R, w1, q.2⟩
    · obtain ⟨l, vs, rfl, e1, w1⟩ := p
      exact (pg_lst hc h.run hn hst).run pins s σ H _ u Q I rv ⟨l, vs, rfl, SqL.of (R.w.sub _ _ e1), by rw [w1.len]; exact q.1, F, r, en, st, _, R, w1, q.2⟩
    · exact q.elim
/-! ### x[i] = .., x a name of a thing of one's own or of a box -/
def putD (kvs : List (Key × D)) (k : Key) (d : D) : List (Key × D) :=
  if (kvs.any fun kv => decide (kv.1 = k)) = true then kvs.map (fun kv => if kv.1 = k then (kv.1, d) else kv) else kvs ++ [(k, d)]
def keyD : D → Option Key
  | .int i => some (.inl i)
  | .str s => some (.inr s)
  | _ => none
/-- what o[i] = d makes of a thing -/
def putIx (o : D) (i d : D) : Option D := match o with
  | .lst xs => match i with
    | .int k => (ixN xs.length k).map fun j => .lst (xs.set j d)
    | _ => none
  | .dct kvs => if kvs.length < sizeLine then (keyD i).map fun k => .dct (putD kvs k d) else none
  | _ => none
def dgSub (j : Nat) (ti : DTE) : DTG := fun d en st k e => match en[j]? with
  | some (some (.o _)) => ti en st (fun y en1 st1 => ∃ o o', en1[j]? = some (some (.o o)) ∧ putIx o y.d d = some o' ∧ k (en1.set j (some (.o o'))) st1) e
  | some (some (.v (.box n))) => ti en st (fun y en1 st1 => ∃ o o', st1[n]? = some o ∧ putIx o y.d d = some o' ∧ k en1 (st1.set n o')) e
  | _ => False
theorem repK_any {F : Hp} {r : List Addr} {k : Key} : ∀ {kvs : List (Key × D)} {ws : List (Key × V)}, RepK B F r kvs ws → (ws.any fun kv => decide (kv.1 = k)) = kvs.any fun kv => decide (kv.1 = k)
  | [], ws, h => by cases h; rfl
  | (k', d') :: kvs, ws, ⟨u, t, e, p, h⟩ => by
    subst e
    rw [List.any_cons, List.any_cons, repK_any h]
theorem repK_map {F : Hp} {r : List Addr} {k : Key} {d : D} {v : V} (q : Rep B F r d v) : ∀ {kvs : List (Key × D)} {ws : List (Key × V)}, RepK B F r kvs ws → RepK B F r (kvs.map fun kv => if kv.1 = k then (kv.1, d) else kv) (ws.map fun kv => if kv.1 = k then (kv.1, v) else kv)
  | [], ws, h => by cases h; rfl
  | (k', d') :: kvs, ws, ⟨u, t, e, p, h⟩ => by
    subst e
    rw [List.map_cons, List.map_cons]
    by_cases hk : k' = k
    · rw [if_pos hk, if_pos hk]; exact ⟨v, _, rfl, q, repK_map q h⟩
    · rw [if_neg hk, if_neg hk]; exact ⟨u, _, rfl, p, repK_map q h⟩
theorem repK_app {F : Hp} {r : List Addr} {k : Key} {d : D} {v : V} (q : Rep B F r d v) : ∀ {kvs : List (Key × D)} {ws : List (Key × V)}, RepK B F r kvs ws → RepK B F r (kvs ++ [(k, d)]) (ws ++ [(k, v)])
  | [], ws, h => by cases h; exact ⟨v, [], rfl, q, rfl⟩
  | (k', d') :: kvs, ws, ⟨u, t, e, p, h⟩ => by
    subst e
    exact ⟨u, _, rfl, p, repK_app q h⟩
theorem repK_put {F : Hp} {r : List Addr} {k : Key} {d : D} {v : V} (q : Rep B F r d v) {kvs : List (Key × D)} {ws : List (Key × V)} (h : RepK B F r kvs ws) : RepK B F r (putD kvs k d) (putK ws k v) := by
  unfold putD putK
  rw [repK_any h]
  split
  · exact repK_map q h
  · exact repK_app q h
def rSetD : TSet := fun o i v H Q => ∃ a H', o = .ref a ∧ DPut H a i v H' ∧ Q H'
theorem set_dict (hu : X.A.units + 1 < cLine) : PSet X rSetD := by
  intro pins s σ H o i v ov iv u Q I r1 r2 r3 ⟨a, H', e, g, q⟩
  subst e
  obtain rfl : ov = Value.ref a := r1
  exact d_setItem hu I g r2 r3 fun s4 I4 => ⟨H', I4, q⟩
theorem PSet.or {t t' : TSet} (h : PSet X t) (h' : PSet X t') : PSet X fun o i v H Q => t o i v H Q ∨ t' o i v H Q := fun pins s σ H o i v ov iv u Q I r1 r2 r3 q => by
  rcases q with q | q
  · exact h pins s σ H o i v ov iv u Q I r1 r2 r3 q
  · exact h' pins s σ H o i v ov iv u Q I r1 r2 r3 q
theorem repK_len {F : Hp} {r : List Addr} : ∀ {ks : List (Key × D)} {ws : List (Key × V)}, RepK B F r ks ws → ws.length = ks.length
  | [], ws, h => by cases h; rfl
  | (k, d) :: ks, ws, ⟨v, t, e, q, h⟩ => by rw [e, List.length_cons, List.length_cons, repK_len h]
theorem Reps.set {F : Hp} {r : List Addr} {d : D} {v : V} (q : Rep B F r d v) : ∀ {ds : List D} {vs : List V} (j : Nat), Reps B F r ds vs → Reps B F r (ds.set j d) (vs.set j v)
  | [], vs, j, h => by cases h; rfl
  | x :: ds, vs, 0, ⟨u, t, e, p, h⟩ => ⟨v, t, by rw [e]; rfl, q, h⟩
  | x :: ds, vs, j + 1, ⟨u, t, e, p, h⟩ => ⟨u, t.set j v, by rw [e]; rfl, p, Reps.set q j h⟩
theorem keyD_rep {F : Hp} {r : List Addr} {i : D} {k : Key} {v : V} (h : keyD i = some k) (q : Rep B F r i v) : v = kV k := by
  cases i <;> simp only [keyD, reduceCtorEq, Option.some.injEq] at h <;> subst h <;> exact q
theorem put_ok {F : Hp} {r : List Addr} {o o' i d : D} {x : HO} {a : Addr} {iv v : V} {H : Hp} {Q : Hp → Prop} (ho : ORep B F r o x) (ha : H a = some x) (hi : Rep B F r i iv) (hd : Rep B F r d v) (h : putIx o i d = some o') (hq : ∀ x', ORep B F r o' x' → Q (upd H a x')) :
    rSetL (.ref a) iv v H Q ∨ rSetD (.ref a) iv v H Q := by
  unfold putIx at h
  split at h
  · split at h
    · obtain ⟨vs, rfl, w⟩ := ho
      obtain ⟨j, h1, rfl⟩ := Option.map_eq_some_iff.mp h
      cases hi
      exact .inl ⟨a, vs, _, j, rfl, rfl, ha, by rw [w.len]; exact h1, hq _ ⟨_, rfl, w.set hd j⟩⟩
    · cases h
  · obtain ⟨vs, rfl, w⟩ := ho
    split at h
    · rename_i hl
      obtain ⟨k, h1, rfl⟩ := Option.map_eq_some_iff.mp h
      have e := keyD_rep h1 hi
      subst e
      exact .inr ⟨a, _, rfl, DPut.k ha (by rw [repK_len w]; exact hl), hq _ ⟨_, rfl, repK_put hd w⟩⟩
    · cases h
  · cases h
theorem dg_sub {j : Nat} {i : Expr} {x : Str} {p : Pos} {ti : DTE} (hx : PE X (.Name x p) (tVar j)) (hi : DE B W X i ti) (hu : X.A.units + 1 < cLine) (hsl : ∀ a b c p, i ≠ .Slice a b c p) : DG B W X (.Subscript (.Name x p) i pos) (dgSub j ti) := by
  refine ⟨fun d en _ _ _ _ _ hk he q => ?_, PG.weak (pg_sub hx hi.run (PSet.or set_list (set_dict hu)) (by cases i <;> first | (intro _; rfl) | exact absurd rfl (hsl _ _ _ _))) fun v σ H Q ⟨F, r, en, st, d, R, p, q⟩ => ?_⟩
  · unfold dgSub at q ⊢
    split at q
    · exact hi.mono _ _ _ _ _ _ (fun y n s ⟨o, o', e1, e2, z⟩ => ⟨o, o', e1, e2, hk _ _ z⟩) he q
    · exact hi.mono _ _ _ _ _ _ (fun y n s ⟨o, o', e1, e2, z⟩ => ⟨o, o', e1, e2, hk _ _ z⟩) he q
    · exact q.elim
  · unfold dgSub at q
    split at q
    · rename_i d0 hj
      obtain ⟨a, e1, _⟩ := R.own j d0 hj
      refine ⟨.ref a, e1, ?_⟩
      refine at_bind (k := fun y _ en1 st1 => ∃ o o', en1[j]? = some (some (.o o)) ∧ putIx o y d = some o' ∧ Gpost B σ Q F r en H (en1.set j (some (.o o'))) st1) hi.mono R (hi.mono _ _ _ _ _ _ (fun _ _ _ z => z) (fun _ _ _ z => z.ep) q) fun y en1 st1 F1 r1 H1 iv S1 R1 rep1 ⟨o, o', h1, h2, h3⟩ => ?_
      obtain ⟨a', f1, _, _, x0, f2, f3⟩ := R1.own j o h1
      rw [e1] at f1; cases f1
      refine put_ok f3 f2 rep1 (p.step S1) h2 fun x' hx' => ?_
      obtain ⟨S2, R2⟩ := R1.put h1 e1 hx'
      exact h3 σ F1 r1 _ (S1.trans S2) R2
    · rename_i n hj
      obtain ⟨w, e1, a, e2, rfl⟩ := R.val j _ hj
      refine ⟨.ref a, e1, ?_⟩
      refine at_bind (k := fun y _ en1 st1 => ∃ o o', st1[n]? = some o ∧ putIx o y d = some o' ∧ Gpost B σ Q F r en H en1 (st1.set n o')) hi.mono R (hi.mono _ _ _ _ _ _ (fun _ _ _ z => z) (fun _ _ _ z => z.ep) q) fun y en1 st1 F1 r1 H1 iv S1 R1 rep1 ⟨o, o', h1, h2, h3⟩ => ?_
      have e2' := S1.prx.get e2
      obtain ⟨_, x0, f2, f3⟩ := R1.w.box n a o e2' h1
      refine put_ok f3 f2 rep1 (p.step S1) h2 fun x' hx' => ?_
      obtain ⟨S2, R2⟩ := R1.putBox h1 e2' hx'
      exact h3 σ F1 r1 _ (S1.trans S2) R2
    · exact q.elim
/-! ### assignments -/
def dSet (i : Nat) (te : DTE) : DTS := fun en st P => te en st (fun x en1 st1 => P.nx (en1.set i (some x)) st1) P.ex
theorem dSet_mono {i : Nat} (m : MonoE te) : MonoS (dSet i te) := fun _ _ _ _ h q => m _ _ _ _ _ _ (fun _ _ _ z => h.nx _ _ z) h.ex q
theorem set_read {i : Nat} {D : Ends} {σ : Sl} {H : Hp} (m : MonoE te) (h : tS B W (dSet i te) D σ H) : tAsg (tM B W te) (gName i) D σ H := by
  obtain ⟨F, r, en, st, R, q⟩ := h
  refine ⟨F, r, en, st, R, m _ _ _ _ _ _ (fun x n s z F' r' H' v S R' t => ?_) (fun _ _ _ z => ex_of z) q⟩
  obtain ⟨S1, R1⟩ := Rel.set' (i := i) S R' t
  exact z _ F' r' H' S1 R1
theorem ds_set {i : Nat} {x : Str} {p : Pos} (hN : X.N.Nodup) (hi : X.N[i]? = some x) (hx : Loc X.env.scope x) (h : DE B W X e te) (hs : swapsWith e (some (.Name x p)) pos.line X.env = pure false) (hf : X.fn x = true ∨ X.env.scope.names.lookup x = some .local) :
    DS B W X (.Assign [.Name x p] e pos) (dSet i te) := ⟨dSet_mono h.mono, PS.weak (ps_set hN hi hx h.run hs hf) fun D σ H q => set_read h.mono q⟩
def dAsg (te : DTE) (g : DTG) : DTS := fun en st P => te en st (fun x en1 st1 => g x.d en1 st1 P.nx P.ex) P.ex
theorem ds_asg (h : DE B W X e te) (hg : DG B W X tg g) (hs : swapsWithSole [tg] e pos.line X.env = pure false) (hw : swappedStores [tg] e X.env = pure none) (h1 : (assignEach [tg] X.env).map (·.2) = [assign tg X.env]) : DS B W X (.Assign [tg] e pos) (dAsg te g) := by
  refine ⟨fun _ _ _ _ h' q => h.mono _ _ _ _ _ _ (fun _ _ _ z => hg.mono _ _ _ _ _ _ _ h'.nx h'.ex z) h'.ex q, PS.weak (ps_asg h.run hg.run hs hw h1) fun D σ H ⟨F, r, en, st, R, q⟩ => ?_⟩
  refine at_bind (k := fun d _ en1 st1 => g d en1 st1 (postOf B W D σ F r en H).nx (postOf B W D σ F r en H).ex) h.mono R (h.mono _ _ _ _ _ _ (fun _ _ _ z => z) (fun _ _ _ z => ex_of z) q) fun d en1 st1 F1 r1 H1 v S1 R1 rep1 h1 => ?_
  exact ⟨F1, r1, en1, st1, d, R1, rep1, hg.mono _ _ _ _ _ _ _ (fun n s z => (postOf.shift (W := W) S1).nx n s z) (fun x n s z => (postOf.shift S1).ex x n s z) h1⟩
/-! ### x += e, x -= e (whole numbers) -/
def dAug (i : Nat) (f : Int → Int → Int) (te : DTE) : DTS := fun en st P => match en[i]? with
  | some (some (.v (.int a))) => te en st (fun y en1 st1 => ∃ b, y.d = .int b ∧ P.nx (en1.set i (some (.v (.int (f a b))))) st1) P.ex
  | _ => False
theorem ds_aug {i : Nat} {x : Str} {p : Pos} {op : Operator} {f : Int → Int → Int} (hN : X.N.Nodup) (hi : X.N[i]? = some x) (hx : Loc X.env.scope x) (h : DE B W X e te) (ho : PIp X op (ipI f)) (hf : X.fn x = true ∨ X.env.scope.names.lookup x = some .local) :
    DS B W X (.AugAssign (.Name x p) op e pos) (dAug i f te) := by
  refine ⟨fun en _ _ _ h' q => ?_, PS.weak (ps_aug hN hi hx h.run ho hf) fun D σ H ⟨F, r, en, st, R, q⟩ => ?_⟩
  · unfold dAug at q ⊢
    split at q
    · exact h.mono _ _ _ _ _ _ (fun _ _ _ ⟨b, e1, z⟩ => ⟨b, e1, h'.nx _ _ z⟩) h'.ex q
    · exact q.elim
  · unfold dAug at q
    split at q
    · rename_i n hj
      obtain ⟨v, e1, rfl⟩ := R.val i _ hj
      refine ⟨_, e1, ?_⟩
      refine at_bind (k := fun d _ en1 st1 => ∃ b, d = .int b ∧ (postOf B W D σ F r en H).nx (en1.set i (some (.v (.int (f n b))))) st1) h.mono R (h.mono _ _ _ _ _ _ (fun _ _ _ z => z) (fun _ _ _ z => ex_of z) q) fun d en1 st1 F1 r1 H1 v S1 R1 rep1 ⟨b, hb, h1⟩ => ?_
      subst hb
      cases rep1
      refine ⟨n, b, rfl, rfl, ?_⟩
      obtain ⟨S2, R2⟩ := Rel.set' (i := i) (x := .v (.int (f n b))) (v := .int (f n b)) S1 R1 rfl
      exact h1 _ F1 r1 H1 S2 R2
    · exact q.elim
/-! ### x.append(e), x.extend(e) -/
def dApp (j : Nat) (f : List D → D → Option (List D)) (te : DTE) : DTS := fun en st P => match en[j]? with
  | some (some (.o (.lst _))) => te en st (fun y en1 st1 => ∃ xs ys, en1[j]? = some (some (.o (.lst xs))) ∧ f xs y.d = some ys ∧ P.nx (en1.set j (some (.o (.lst ys)))) st1) P.ex
  | _ => False
def fApp : List D → D → Option (List D) := fun xs d => if xs.length < sizeLine then some (xs ++ [d]) else none
def fExt : List D → D → Option (List D) := fun xs d => match d with
  | .lst ys => if xs.length + ys.length ≤ sizeLine then some (xs ++ ys) else none
  | .tup ys => if xs.length + ys.length ≤ sizeLine then some (xs ++ ys) else none
  | _ => none
theorem dApp_mono {j : Nat} {f : List D → D → Option (List D)} (m : MonoE te) : MonoS (dApp j f te) := fun en _ _ _ h' q => by
  unfold dApp at q ⊢
  split at q
  · exact m _ _ _ _ _ _ (fun _ _ _ ⟨xs, ys, e1, e2, z⟩ => ⟨xs, ys, e1, e2, h'.nx _ _ z⟩) h'.ex q
  · exact q.elim
theorem app_read {j : Nat} {f : List D → D → Option (List D)} {rr : V → List V → Hp → VK → Prop} {D : Ends} {σ : Sl} {H : Hp} (hs : ∀ x p, e ≠ .Starred x p) (m : MonoE te)
    (hf : ∀ (F : Hp) (r : List Addr) (H : Hp) (l : Addr) (xs : List Ev.D) (d : Ev.D) (ys : List Ev.D) (vs : List V) (v : V) (Q : VK), Sub F H → H l = some (.lst vs) → Reps B F r xs vs → Rep B F r d v → f xs d = some ys → (∀ us, Reps B F r ys us → Q .non (upd H l (.lst us))) → rr (.ref l) [v] H Q)
    (h : tS B W (dApp j f te) D σ H) : tDrop (tBM X.K "list" rr (tVar j) (tMA B W (dCons te dNil))) D σ H := by
  obtain ⟨F, r, en, st, R, q⟩ := h
  unfold dApp at q
  split at q
  · rename_i xs0 hj
    obtain ⟨a, e1, _, _, o0, f2, vs0, rfl, _⟩ := R.own j _ hj
    refine ⟨.ref a, e1, .inl ⟨rfl, vs0, SqL.of f2⟩, ?_⟩
    refine at_bindA (k := fun ds en1 st1 => ∃ d xs ys, ds = [d] ∧ en1[j]? = some (some (.o (.lst xs))) ∧ f xs d = some ys ∧ (postOf B W D σ F r en H).nx (en1.set j (some (.o (.lst ys)))) st1) (dCons_mono m dNil_mono) R (m _ _ _ _ _ _ (fun y n s ⟨xs, ys, z1, z2, z3⟩ => ⟨y.d, xs, ys, rfl, z1, z2, z3⟩) (fun _ _ _ z => ex_of z) q) fun ds en1 st1 F1 r1 H1 vs S1 R1 rep1 ⟨d, xs, ys, e3, h1, h2, h3⟩ => ?_
    subst e3
    obtain ⟨v, rfl, rd⟩ := reps1 rep1
    obtain ⟨a', g1, _, _, o1, g2, ws, rfl, w⟩ := R1.own j _ h1
    rw [e1] at g1; cases g1
    refine hf F1 r1 H1 a xs d ys ws v _ R1.w.sub g2 w rd h2 fun us hus => ?_
    obtain ⟨S2, R2⟩ := R1.put h1 e1 (d' := .lst ys) (o' := .lst us) ⟨us, rfl, hus⟩
    exact h3 σ F1 r1 _ (S1.trans S2) R2
  · exact q.elim
theorem app_f {F : Hp} {r : List Addr} {H : Hp} {l : Addr} {xs : List D} {d : D} {ys : List D} {vs : List V} {v : V} {Q : VK} (hs : Sub F H) (hl : H l = some (.lst vs)) (w : Reps B F r xs vs) (p : Rep B F r d v) (e : fApp xs d = some ys) (q : ∀ us, Reps B F r ys us → Q .non (upd H l (.lst us))) : rAppend (.ref l) [v] H Q := by
  unfold fApp at e
  split at e
  · rename_i hz
    cases e
    exact ⟨l, vs, v, rfl, rfl, hl, by rw [w.len]; exact hz, q _ (Reps.app (show Reps B F r [d] [v] from ⟨v, [], rfl, p, rfl⟩) w)⟩
  · cases e
theorem ext_f {F : Hp} {r : List Addr} {H : Hp} {l : Addr} {xs : List D} {d : D} {ys : List D} {vs : List V} {v : V} {Q : VK} (hs : Sub F H) (hl : H l = some (.lst vs)) (w : Reps B F r xs vs) (p : Rep B F r d v) (e : fExt xs d = some ys) (q : ∀ us, Reps B F r ys us → Q .non (upd H l (.lst us))) : rExtendA B.K (.ref l) [v] H Q := by
  unfold fExt at e
  split at e
  · obtain ⟨b, us, rfl, f1, w2⟩ := p
    split at e
    · rename_i hz
      cases e
      exact .inl ⟨l, b, vs, us, rfl, rfl, hl, hs _ _ f1, by rw [w.len, w2.len]; exact hz, q _ (Reps.app w2 w)⟩
    · cases e
  · obtain ⟨b, us, rfl, f1, w2⟩ := p
    split at e
    · rename_i hz
      cases e
      exact .inr ⟨l, b, vs, us, rfl, rfl, hl, hs.sqT f1, by rw [w.len, w2.len]; exact hz, q _ (Reps.app w2 w)⟩
    · cases e
  · cases e
theorem ds_append {j : Nat} {x : Str} {p ap cp : Pos} (hx : PE X (.Name x p) (tVar j)) (h : DE B W X e te) (hs : ∀ x p, e ≠ .Starred x p) (hline : (ap.endLine == cp.line) = true) : DS B W X (.Expr (.Call (.Attribute (.Name x p) "append" ap) [e] [] cp) pos) (dApp j fApp te) := by
  have ha := da_cons h (da_nil (B := B) (W := W) (X := X)) hs
  refine ⟨dApp_mono h.mono, PS.weak (ps_expr (pe_bm PySem.F.plainAttrs_list PySem.F.slot_list_append PySem.F.type_list_append mt_append hx ha.run rfl ?_ hline (notStar_each hs) rfl) rfl) fun D σ H q => app_read hs h.mono (fun F r H l xs d ys vs v Q => app_f) q⟩
  rw [notStar_each hs]
  rfl
theorem ds_extend {j : Nat} {x : Str} {p ap cp : Pos} (hK : X.K = B.K) (hx : PE X (.Name x p) (tVar j)) (h : DE B W X e te) (hs : ∀ x p, e ≠ .Starred x p) (hline : (ap.endLine == cp.line) = true) : DS B W X (.Expr (.Call (.Attribute (.Name x p) "extend" ap) [e] [] cp) pos) (dApp j fExt te) := by
  have ha := da_cons h (da_nil (B := B) (W := W) (X := X)) hs
  refine ⟨dApp_mono h.mono, PS.weak (ps_expr (pe_bm PySem.F.plainAttrs_list PySem.F.slot_list_extend PySem.F.type_list_extend mt_extendA hx ha.run rfl ?_ hline (notStar_each hs) rfl) rfl) fun D σ H q => app_read hs h.mono (fun F r H l xs d ys vs v Q h1 h2 h3 h4 h5 h6 => by rw [hK]; exact ext_f h1 h2 h3 h4 h5 h6) q⟩
  rw [notStar_each hs]
  rfl
end
/-! ### x, *xs = a list -/
theorem walk_next {prog : Program} {w : PySem.World} {A : Around} {I : Addr} {fp wr : List Addr} {G : Array GenState → Array GenState → Prop} {n : Nat} {P : Nat → Value → Prop} {St : Nat → Shared → Prop} (W : WalksS prog w A I fp wr G (n + 1) P St) : WalksS prog w A I fp wr G n (fun i => P (i + 1)) (fun i => St (i + 1)) where
  sub := W.sub
  grefl := W.grefl
  gtrans := W.gtrans
  frame := fun i => W.frame (i + 1)
  item := fun i s Q E hi st hQ => W.item (i + 1) s Q E (by omega) st hQ
  done := W.done
  self := fun i => W.self (i + 1)
theorem un_star {prog : Program} {w : PySem.World} {A : Around} {E : Value → Shared → Prop} {s : Shared} {l : Addr} {x : Value} {xs : List Value} {Q : List Value → Shared → Prop} (hh : A.handled = none) (hl : s.heap.IsList l (x :: xs).toArray) (hz : xs.length ≤ sizeLine)
    (hQ : ∀ (h' : Heap) (tk : Nat), (∀ b o, s.heap.get? b = some o → h'.get? b = some o) → Q [x, .ref h'.objs.size] { s with heap := h'.push { cls := .type "list", data := .seq xs.toArray }, toks := tk }) : wpAny (model prog w) A (unpackItems (.ref l) 2 (some 1)) Q E s := by
  have hlt : l < s.heap.objs.size := by obtain ⟨o, ho, _⟩ := hl; exact Heap.lt_size ho
  have hne := Nat.ne_of_lt hlt
  unfold unpackItems
  refine wpAny_bind ?_
  unfold notIterableAtAll
  refine wpAny_bind (wpAny_specialOf hl.typeIs PySem.slot_list_iter.lookup (wpAny_pure ?_))
  simp only [Bool.false_eq_true, if_false]
  refine wpAny_bind (wpAny_holding (wpAny_pyIter_list hl ?_))
  refine wpAny_bind (wpAny_holding (PySem.W.kun_draw hne 1 0 _ _ ⟨_, Heap.get?_push_size _ rfl, rfl, rfl⟩ (hl.push _) (by simp) fun h1 it1 same => ?_))
  have l1 : h1.IsList l (x :: xs).toArray := (hl.push _).extBut same.extBut hne
  have e1 : List.take 1 (List.drop 0 (x :: xs).toArray.toList) = [x] := rfl
  rw [e1, if_neg (by simp)]
  refine wpAny_bind (wpAny_holding (wpAny_collect_iter (T := "list_iterator") (.inr (.inr (.inl rfl))) (walk_next (n := xs.length) (Walks.toS (Walks.list (A := A.in1) hh s.heap.objs.size l hne (x :: xs).toArray))) (fun i t st => ?_) ⟨it1, l1⟩ (fun b hb => ?_) (by simp) (fun s2 acc mv hi => ?_) hz))
  · obtain ⟨o, g1, g2, _⟩ := st.1
    exact ⟨o, g1, g2⟩
  · have sz : s.heap.objs.size < h1.objs.size := by obtain ⟨o, g1, _⟩ := it1; exact Heap.lt_size g1
    rcases List.mem_cons.mp hb with z | z
    · rw [z]; exact sz
    · rw [List.mem_singleton.mp z]; exact Nat.lt_trans hlt sz
  · have ea : acc.toList = xs := by
      obtain ⟨a1, a2⟩ := hi
      apply List.ext_getElem?
      intro j
      rw [Array.getElem?_toList]
      cases q : acc[j]? with
      | none =>
        have : acc.size ≤ j := by simpa using q
        rw [List.getElem?_eq_none (by omega)]
      | some v =>
        have := a2 j v q
        simpa using this.symm
    rw [ea, if_neg (show ¬ xs.length < 2 - 1 - 1 by omega)]
    have e3 : xs.length - (2 - 1 - 1) = xs.length := by omega
    show wpAny _ _ (newList (xs.take (xs.length - (2 - 1 - 1))) >>= fun a => pure ([x] ++ [a] ++ xs.drop (xs.length - (2 - 1 - 1)))) _ _ s2
    rw [e3, List.take_length, List.drop_length]
    refine wpAny_bind (wpAny_newObj_type (wpAny_pure ?_) (by show xs.toArray.size ≤ sizeLine; rw [List.size_toArray]; exact hz))
    have keep : ∀ b o, s.heap.get? b = some o → s2.heap.get? b = some o := fun b o e => by
      have hb : b ≠ s.heap.objs.size := Nat.ne_of_lt (Heap.lt_size e)
      exact mv.heap b o (by simpa using hb) (same.extBut b o hb (Heap.get?_push_of_some _ e))
    have q := hQ s2.heap s2.toks keep
    obtain ⟨h2, g2, d2, t2, o2⟩ := s2
    have eg : g2 = s.gens := mv.gens
    have ed : d2 = s.drawn := mv.drawn
    have eo : o2 = s.os := mv.os
    subst eg ed eo
    exact q
def dgStar (g0 g1 : DTG) : DTG := fun d en st k e => match d with
  | .lst (x :: xs) => g0 x en st (fun en1 st1 => g1 (.lst xs) en1 st1 k e) e
  | _ => False
theorem dg_star {B : Bg} {W : WX} {X : Cx} {e0 e1 : Expr} {g0 g1 : DTG} {j : Nat} {p pos : Pos} (hc : X.calm = true) (h0 : DG B W X e0 g0) (h1 : DG B W X e1 g1) (hE : assignEach [e0, .Starred e1 p] X.env = [(false, assign e0 X.env), (true, assign e1 X.env)]) : DG B W X (.Tuple [e0, .Starred e1 p] j pos) (dgStar g0 g1) := by
  refine ⟨fun d _ _ _ _ _ _ hk he q => ?_, ⟨fun pins s σ H v u Q I rv ⟨F, r, en, st, d, R, rp, q⟩ => ?_⟩⟩
  · unfold dgStar at q ⊢
    split at q
    · exact h0.mono _ _ _ _ _ _ _ (fun _ _ z => h1.mono _ _ _ _ _ _ _ hk he z) he q
    · exact q.elim
  · unfold dgStar at q
    split at q
    · rename_i x xs
      obtain ⟨a, vs, rfl, e2, v0, vt, rfl, w0, w1⟩ := rp
      cases rv
      obtain ⟨its, rvs, hl, hz⟩ := I.list (SqL.of (R.w.sub _ _ e2))
      cases rvs with
      | cons r0 rt =>
        rename_i u0 ut
        have hz2 : ut.length ≤ sizeLine := by
          have := rt.length
          rw [List.length_cons] at hz
          omega
        rw [PyProof.Rows.assign_Tuple]
        refine wpAny_bind (wpAny_standAt ?_)
        unfold unpack
        rw [hE]
        refine wpAny_bind (wpAny_holding (un_star (I.ok.hd hc) hl.isList hz2 fun h' tk hk => ?_))
        have I1 : Inv X pins σ H { s with heap := h', toks := tk } := I.kept hk
        have hp : H h'.objs.size = none := I1.hok.fresh (Nat.le_refl _)
        have I2 := I1.laid (t' := tk) (o := .lst vt) (fun b z q => Heap.get?_push_of_some _ q) (Nat.le_refl _) ⟨by rw [rt.length]; exact hz2, _, 0, rt, Heap.get?_push_size _ rfl⟩
        have R2 := R.newF (o := .lst vt) hp
        have S2 := Step.newF (o := .lst vt) R hp
        have rep1 : Rep B (upd F h'.objs.size (.lst vt)) r (.lst xs) (.ref h'.objs.size) := ⟨_, vt, rfl, upd_same, Reps.mono (sub_upd (R.w.fresh hp).1) (Pre.refl _) _ _ w1⟩
        have rep0 : Rep B (upd F h'.objs.size (.lst vt)) r x v0 := Rep.mono (sub_upd (R.w.fresh hp).1) (Pre.refl _) _ _ w0
        show wpAny _ _ (assignInOrder [assign e0 X.env, assign e1 X.env] [u0, .ref h'.objs.size]) _ _ _
        refine assignInOrder_cons (wpAny_mono (h0.run.run pins _ σ _ v0 u0 (fun σ' H' => tG B W g1 (.ref h'.objs.size) σ' H' Q) I2 r0 ⟨_, r, en, st, x, R2, rep0, h0.mono _ _ _ _ _ _ _ (fun n s' z => ?_) (fun _ _ _ z => z.shift S2) q⟩) (fun _ s' ⟨σ', H', I3, q3⟩ => ?_) fun _ _ z => z)
        · intro σ' F' r' H' S3 R3
          exact ⟨F', r', n, s', _, R3, rep1.step S3, h1.mono _ _ _ _ _ _ _ (fun _ _ y => y.shift (S2.trans S3)) (fun _ _ _ y => y.shift (S2.trans S3)) z⟩
        · exact assignInOrder_cons (wpAny_mono (h1.run.run pins s' σ' H' (.ref h'.objs.size) _ Q I3 rfl q3) (fun _ s'' y => assignInOrder_nil y) fun _ _ z => z)
    · exact q.elim
end Ev
set_option Elab.async false
set_option linter.all false
set_option autoImplicit false
set_option maxRecDepth 100000
set_option maxHeartbeats 2000000
/-! Ev, part Ha: enumerate over a tuple. -/
namespace Ev
open PySem PySem.Spec PyProof.Rows L2
open AutoSeq1 (wpAny_loadPart')
theorem meets_enum_newT (l : Addr) (items : Array Value) (o : Obj) (hc : o.cls = .type "tuple") (n : Nat) (hd : o.data = .seq items n) :
    Meets (Builtin.«enumerate.__new__» ⟨[.type "enumerate", .ref l], []⟩) (fun _ R s => s.heap.get? l = some o ∧
      R (.ok (.ret (.ref (s.heap.push { cls := .type "tuple_iterator", data := .fields #[.ref l, .int 0 0] }).objs.size)))
        { s with heap := (s.heap.push { cls := .type "tuple_iterator", data := .fields #[.ref l, .int 0 0] }).push { cls := .type "enumerate", data := .fields #[.none, .bool false, .ref s.heap.objs.size, rawInt 0, .none, .none] } }) :=
  .of_wp fun prog w A R s h => by
    obtain ⟨hp, g, d, tk, os⟩ := s; obtain ⟨hl, h⟩ := h
    have hsub := sub_enumerate
    have hL : Heap.IsTuple (Shared.heap ⟨hp, g, d, tk, os⟩) l items := ⟨o, hl, hc, n, hd⟩
    wp_walk using wpAny_loadPart' hl
    refine wpAny_stack_any fun st => wpAny_pure ?_
    split
    · rename_i c _ _ _ _ _
      cases (c == Value.type "enumerate")
      · wp_walk using wpAny_loadPart' hl, wpAny_pyIter_tuple hL
        exact ⟨_, rfl, h⟩
      · wp_walk using wpAny_loadPart' hl, wpAny_pyIter_tuple hL
        exact ⟨_, rfl, h⟩
    · wp_walk using wpAny_loadPart' hl, wpAny_pyIter_tuple hL
      exact ⟨_, rfl, h⟩
theorem call_enum_tup {prog : Program} {w : PySem.World} {A : Around} {E : Value → Shared → Prop} {s : Shared} {l : Addr} {items : Array Value} {Q : Value → Shared → Prop} (hL : IsTup s.heap l items)
    (h : ∀ h', IsEnum h' (s.heap.objs.size + 1) s.heap.objs.size 0 .none → h'.IsTupleIter s.heap.objs.size l 0 → h'.objs.size = s.heap.objs.size + 2 →
      (∀ b o, s.heap.get? b = some o → h'.get? b = some o) → Q (.ref (s.heap.objs.size + 1)) { s with heap := h' }) :
    wpAny (model prog w) A (call (.type "enumerate") [.ref l]) Q E s := by
  obtain ⟨o, hl, hc, n, hd⟩ := hL
  refine callType_new F.called_enumerate (by decide) (F.typeCall_enumerate_1 _) (F.newCall_enumerate_1 _) (fun obj => F.args_object_init_2 obj _) F.entry_enumerate_new
    (meets_enum_newT l items o hc n hd) ⟨hl, ?_⟩
  have hz : (s.heap.push { cls := .type "tuple_iterator", data := .fields #[.ref l, .int 0 0] }).objs.size = s.heap.objs.size + 1 := Heap.size_push ..
  show _ ∧ _
  rw [hz]
  have he : IsEnum ((s.heap.push { cls := .type "tuple_iterator", data := .fields #[.ref l, .int 0 0] }).push
      { cls := .type "enumerate", data := .fields #[.none, .bool false, .ref s.heap.objs.size, rawInt 0, .none, .none] }) (s.heap.objs.size + 1) s.heap.objs.size 0 .none := by
    have := Heap.get?_push_size (s.heap.push { cls := .type "tuple_iterator", data := .fields #[.ref l, .int 0 0] })
      (o := { cls := .type "enumerate", data := .fields #[.none, .bool false, .ref s.heap.objs.size, rawInt 0, .none, .none] }) rfl
    rw [hz] at this; exact this
  refine ⟨⟨_, he, rfl⟩, h _ he ⟨_, Heap.get?_push_of_some _ (Heap.get?_push_size _ rfl), rfl, rfl⟩ (by rw [Heap.size_push, hz]) fun b o x => Heap.get?_push_of_some _ (Heap.get?_push_of_some _ x)⟩
/-- the tuple at a as it stands at each turn, each item in a new pair -/
def IteT (K : PySem.W.Frag) (a : Addr) : It :=
  ⟨fun i H => ∃ (xs : List V) (x : V), SqT K H a xs ∧ xs[i]? = some x, fun i H v H' => ∃ T x, v = .ref T ∧ H T = none ∧ H' = upd H T (.tup [.int (i : Nat), x]) ∧ ∀ xs, SqT K H a xs → xs[i]? = some x, fun i H => ∃ xs : List V, SqT K H a xs ∧ xs.length ≤ i⟩
theorem turn_enumT {P : Program} {w : PySem.World} {K : PySem.W.Frag} {elts : List Expr} {kk : Nat} {tpos : Pos} (a e it : Addr) :
    Turn P w K (.Tuple elts kk tpos) (IteT K a) [e, it] e (fun i h => (∃ old, IsEnum h e it ((i : Nat) : Int) old) ∧ h.IsTupleIter it a i ∧ e ≠ it) where
  mem := by simp
  obj := fun i h st b hb => by
    obtain ⟨⟨old, he⟩, ⟨o, ho, hc, hd⟩, _⟩ := st
    have e' : b = e ∨ b = it := by simpa using hb
    rcases e' with z | z
    · rw [z]; exact ⟨_, he, fun v q => nomatch q⟩
    · rw [z]; exact ⟨o, ho, fun v q => by rw [hd] at q; cases q⟩
  keep := fun i h h' st k => let ⟨⟨old, he⟩, hi, hne⟩ := st; ⟨⟨old, k e (by simp) _ he⟩, hi.at fun o q => k it (by simp) o q, hne⟩
  item := by
    intro X hP hw hK hc i pins s σ H E I hf st hg
    subst hP hw hK
    obtain ⟨⟨old, he⟩, hit, hne⟩ := st
    obtain ⟨xs, x, hq, hx⟩ := hg
    obtain ⟨its, rv, p, hz⟩ := I.tuple hq
    obtain ⟨u, hu, ru⟩ := rv.get hx
    have hel : e < s.heap.objs.size := Heap.lt_size he
    have hil : it < s.heap.objs.size := by obtain ⟨_, q, _⟩ := hit; exact Heap.lt_size q
    have hai : a ≠ it := fun z => by
      obtain ⟨o1, p1, p2, _⟩ := p
      obtain ⟨o2, q1, q2, _⟩ := hit
      rw [z, q1] at p1
      cases p1
      rw [q2] at p2
      exact absurd p2 (by decide)
    have hea : e ≠ a := fun z => by
      obtain ⟨o1, p1, p2, _⟩ := p
      have he : s.heap.get? e = some _ := he
      rw [z, p1] at he
      cases he
      have p2 : Value.type "enumerate" = Value.type "tuple" := p2
      exact absurd p2 (by decide)
    have hlt : i < its.toArray.size := by
      rw [List.size_toArray]
      exact (List.getElem?_eq_some_iff.mp hu).1
    refine wpAny_pyNext_enum_itemD (Draws.tuple (A := X.A.in1) (I.ok.hd hc) it a hai its.toArray) he ⟨hit, p⟩ hlt hne (by simp [hne, hea]) fun x' h' tk hP ho hit' hT hsz hk => ?_
    have ex : x' = u := by
      have : its.toArray[i]? = some u := by simpa using hu
      rw [this] at hP
      exact (Option.some.inj hP).symm
    subst ex
    refine ⟨_, rfl, wpAny_letOwnedTupleGo_enum (s := { s with heap := h', toks := tk + 1 }) ho fun h'' he' sb => ?_⟩
    have hT2 : h''.get? s.heap.objs.size = some { cls := .type "tuple", data := .seq #[.int i tk, x'] } := (sb.2 _ (Nat.ne_of_gt hel)).trans hT
    have new : ObjOk X.prog X.w (upd H s.heap.objs.size (.tup [.int (i : Nat), x])) h'' s.heap.objs.size (.tup [.int (i : Nat), x]) :=
      ⟨by show 2 ≤ sizeLine; decide, [.int i tk, x'], .cons ⟨_, rfl⟩ (.cons ru .nil), ⟨_, hT2, rfl, _, rfl⟩⟩
    have I1 : Inv X pins σ (upd H s.heap.objs.size (.tup [.int (i : Nat), x])) { s with heap := h'', toks := tk + 1 } :=
      I.turnedNew (ch := [e, it]) (fun b ob hb q => (sb.2 b (fun z => hb (by simp [z]))).trans (hk b ob (fun z => hb (by simp [z])) (fun z => hb (by simp [z])) q)) hf (Nat.le_refl _) new
    refine ⟨.ref s.heap.objs.size, _, I1, rfl, ⟨_, x, rfl, I.hok.fresh (Nat.le_refl _), rfl, fun ys hy => by rw [I.tuple_inj hy hq]; exact hx⟩, ⟨⟨x', ?_⟩, hit'.1.at fun o q => (sb.2 it (Ne.symm hne)).trans q, hne⟩, fun b hb => ?_⟩
    · have e1 : ((i + 1 : Nat) : Int) = (i : Int) + 1 := by omega
      rw [e1]; exact he'
    · have hb' : b < s.heap.objs.size := by
        have e' : b = e ∨ b = it := by simpa using hb
        rcases e' with z | z
        · rw [z]; exact hel
        · rw [z]; exact hil
      rw [upd_ne (Nat.ne_of_lt hb')]
      exact (hf b hb).1
  done := by
    intro X hP hw hK hc i pins s σ H E I hf st hg
    subst hP hw hK
    obtain ⟨⟨old, he⟩, hit, hne⟩ := st
    obtain ⟨xs, hq, hx⟩ := hg
    obtain ⟨its, rv, p, hz⟩ := I.tuple hq
    obtain ⟨f0, f1, f2, f3, f4, f5⟩ := hf it (by simp)
    have hl := rv.length
    have hT : s.TypeIs (.ref e) "enumerate" := ⟨_, he, rfl⟩
    unfold pyNext
    refine wpAny_bind (wpAny_attempt (wpAny_callSpecial?_slot (name := Str.ofString "__next__") hT F.slot_enumerate_next
      (wpAny_call_entry F.slot_enumerate_next hT F.entry_enumerate_next ?_ (F.args_enumerate_next_1 _))))
    show wpAny _ _ (field (.ref e) 2 >>= _) _ _ _
    refine wpAny_bind (wpAny_field he rfl (x := .ref it) rfl ?_)
    refine wpAny_bind (wpAny_nextOf_tuple_end (A := X.A.in1) (I.ok.hd hc) hit p (by simp; omega) fun h' x he' hx' => ?_)
    obtain ⟨o, ho, hc'⟩ := hx'
    refine wpAny_bind (wpAny_isInstance (T := "StopIteration") (b := true) ⟨o, ho, hc'⟩ isSubtype_stop ?_)
    exact wpAny_pure ⟨rfl, I.turned (t' := s.toks) (fun b o hb q => he' b o hb q) f0 f1 f3 f4 f5⟩
  self := fun A i s Q E st h => let ⟨⟨_, he⟩, _⟩ := st; wpAny_pyIter_enum he h
def iEnumA (K : PySem.W.Frag) (ta : TA) : TI := fun σ H R => ta σ H fun vs H1 => (∃ a xs, vs = [.ref a] ∧ SqL K H1 a xs ∧ R (Ite K a) H1) ∨ ∃ a xs, vs = [.ref a] ∧ SqT K H1 a xs ∧ R (IteT K a) H1
theorem pi_enumA {X : Cx} {e : Expr} {ta : TA} {p pos tpos : Pos} {elts : List Expr} {kk : Nat} (hg : Gl X "enumerate") (hm : X.mg "enumerate" = none) (ha : PA X [e] ta) (hs : starEach [e] X.env = [(false, eval e X.env)] := by rfl) :
    PI X (.Tuple elts kk tpos) (.Call (.Name "enumerate" p) [e] [] pos) (iEnumA X.K ta) := by
  refine ⟨fun pins s σ H R I h => ?_⟩
  refine Call_ (ld_blt I hg hm boot_enumerate (PyProof.Rows.callWith_type1 (thn (ha.run pos pins s σ H _ I h) fun us s1 ⟨vs, H1, I1, r1, q1⟩ => ?_) hs rfl))
  have last : ∀ b, b = s1.heap.objs.size + 1 ∨ b = s1.heap.objs.size → s1.heap.objs.size ≤ b := fun b e' => by
    rcases e' with z | z
    · rw [z]; exact Nat.le_add_right _ _
    · rw [z]; exact Nat.le_refl _
  rcases q1 with ⟨a, xs, ex, hq, q⟩ | ⟨a, xs, ex, hq, q⟩
  · subst ex
    cases r1 with
    | cons r rr =>
      cases rr
      cases r
      obtain ⟨its, rv, p', hz⟩ := I1.list hq
      refine call_enumerate_list p'.isList fun h' he hit hsz hk => wpAny_pyIter_enum he ?_
      have I2 : Inv X pins σ H1 { s1 with heap := h' } := I1.kept (t' := s1.toks) hk
      refine ⟨s1.heap.objs.size + 1, [s1.heap.objs.size + 1, s1.heap.objs.size], _, _, H1, rfl, I2, turn_enum a (s1.heap.objs.size + 1) s1.heap.objs.size, ⟨⟨.none, he⟩, hit, Nat.succ_ne_self _⟩, fun b hb => ?_, q⟩
      have hle := last b (by simpa using hb)
      exact I1.fpOk hle (I1.hok.fresh hle)
  · subst ex
    cases r1 with
    | cons r rr =>
      cases rr
      cases r
      obtain ⟨its, rv, p', hz⟩ := I1.tuple hq
      refine call_enum_tup p' fun h' he hit hsz hk => wpAny_pyIter_enum he ?_
      have I2 : Inv X pins σ H1 { s1 with heap := h' } := I1.kept (t' := s1.toks) hk
      refine ⟨s1.heap.objs.size + 1, [s1.heap.objs.size + 1, s1.heap.objs.size], _, _, H1, rfl, I2, turn_enumT a (s1.heap.objs.size + 1) s1.heap.objs.size, ⟨⟨.none, he⟩, hit, Nat.succ_ne_self _⟩, fun b hb => ?_, q⟩
      have hle := last b (by simpa using hb)
      exact I1.fpOk hle (I1.hok.fresh hle)
end Ev
set_option Elab.async false
set_option linter.all false
set_option autoImplicit false
set_option maxRecDepth 100000
/-! Ev, part I: what is walked, for, comprehensions. -/
namespace Ev
open PySem PySem.Spec PyProof.Rows L2 RZ
/-- J yields the data ds, one after another, whatever is laid meanwhile -/
def Wk (B : Bg) (F : Hp) (r : List Addr) (J : It) (ds : List D) : Prop := ∀ (i : Nat) (H : Hp), Sub F H → (ds.length ≤ i → J.stop i H) ∧ ∀ d, ds[i]? = some d → J.go i H ∧ ∀ x H', J.yld i H x H' →
  (H' = H ∧ Rep B F r d x) ∨ ∃ p vs es, H p = none ∧ H' = upd H p (.tup vs) ∧ x = .ref p ∧ d = .tup es ∧ Reps B F r es vs
abbrev DTI := En → List D → KA → KX → Prop
def tI (B : Bg) (W : WX) (t : DTI) : TI := fun σ H R => ∃ F r en st, Rel B F r en st σ H ∧
  t en st (fun ds en' st' => ∀ F' r' H' J, Step σ en F r H σ en' F' r' H' → Rel B F' r' en' st' σ H' → Wk B F' r' J ds → R J H') (Epost B σ W F r en H)
structure DI (B : Bg) (W : WX) (X : Cx) (tg e : Expr) (t : DTI) : Prop where
  mono : MonoA t
  run : PI X tg e (tI B W t)
theorem PI.weak {X : Cx} {tg e : Expr} {t t' : TI} (h : PI X tg e t) (w : ∀ σ H Q, t' σ H Q → t σ H Q) : PI X tg e t' := ⟨fun pins s σ H Q I q => h.run pins s σ H Q I (w σ H Q q)⟩
section
variable {B : Bg} {F : Hp} {r : List Addr}
theorem wk_list {a : Addr} {vs : List V} {ds : List D} (e : SqL B.K F a vs) (w : Reps B F r ds vs) : Wk B F r (Itl B.K a) ds := fun i H s => by
  have q : SqL B.K H a vs := s.sqL e
  refine ⟨fun h => ⟨vs, q, by rw [w.len]; exact h⟩, fun d hd => ?_⟩
  obtain ⟨v, e1, e2⟩ := w.get hd
  refine ⟨⟨vs, v, q, e1⟩, fun x H' ⟨e3, e4⟩ => .inl ⟨e3, ?_⟩⟩
  have e5 := e4 vs q
  rw [e1] at e5
  cases e5
  exact e2
theorem wk_tup {a : Addr} {vs : List V} {ds : List D} (e : SqT B.K F a vs) (w : Reps B F r ds vs) : Wk B F r (Itt B.K a) ds := fun i H s => by
  have q : SqT B.K H a vs := s.sqT e
  refine ⟨fun h => ⟨vs, q, by rw [w.len]; exact h⟩, fun d hd => ?_⟩
  obtain ⟨v, e1, e2⟩ := w.get hd
  refine ⟨⟨vs, v, q, e1⟩, fun x H' ⟨e3, e4⟩ => .inl ⟨e3, ?_⟩⟩
  have e5 := e4 vs q
  rw [e1] at e5
  cases e5
  exact e2
def rangeD (lo c : Int) (n : Nat) : List D := (List.range n).map fun i => .int (lo + (i : Nat) * c)
theorem wk_rangeC (lo c : Int) (n : Nat) : Wk B F r (Itc lo c n) (rangeD lo c n) := fun i H s => by
  unfold rangeD
  refine ⟨fun h => by rw [List.length_map, List.length_range] at h; exact h, fun d hd => ?_⟩
  rw [List.getElem?_map] at hd
  obtain ⟨j, h1, rfl⟩ := Option.map_eq_some_iff.mp hd
  have hlt := (List.getElem?_eq_some_iff.mp h1).1
  have hj := (List.getElem?_eq_some_iff.mp h1).2
  rw [List.getElem_range] at hj
  subst hj
  rw [List.length_range] at hlt
  exact ⟨hlt, fun x H' ⟨e1, e2⟩ => .inl ⟨e1, e2⟩⟩
theorem wk_range (lo : Int) (n : Nat) : Wk B F r (Itr lo n) (rangeD lo 1 n) := fun i H s => by
  unfold rangeD
  refine ⟨fun h => by rw [List.length_map, List.length_range] at h; exact h, fun d hd => ?_⟩
  rw [List.getElem?_map] at hd
  obtain ⟨j, h1, rfl⟩ := Option.map_eq_some_iff.mp hd
  have hlt := (List.getElem?_eq_some_iff.mp h1).1
  have hj := (List.getElem?_eq_some_iff.mp h1).2
  rw [List.getElem_range] at hj
  subst hj
  rw [List.length_range] at hlt
  exact ⟨hlt, fun x H' ⟨e1, e2⟩ => .inl ⟨e1, by rw [Int.mul_one]; exact e2⟩⟩
def charsD (z : Str) : List D := z.cps.toList.map fun c => .str ⟨#[c]⟩
theorem wk_str (z : Str) : Wk B F r (Its z) (charsD z) := fun i H s => by
  unfold charsD
  refine ⟨fun h => by rw [List.length_map, Array.length_toList] at h; exact h, fun d hd => ?_⟩
  rw [List.getElem?_map] at hd
  obtain ⟨c, h1, rfl⟩ := Option.map_eq_some_iff.mp hd
  have hlt := (List.getElem?_eq_some_iff.mp h1).1
  rw [Array.length_toList] at hlt
  refine ⟨hlt, fun x H' ⟨e1, c', e2, e3⟩ => .inl ⟨e1, ?_⟩⟩
  rw [Array.getElem?_toList] at h1
  rw [h1] at e2
  cases e2
  exact e3
def zipD (xs ys : List D) : List D := List.zipWith (fun x y => .tup [x, y]) xs ys
theorem zipD_get {xs ys : List D} {i : Nat} {d : D} (h : (zipD xs ys)[i]? = some d) : ∃ x y, xs[i]? = some x ∧ ys[i]? = some y ∧ d = .tup [x, y] := by
  unfold zipD at h
  rw [List.getElem?_zipWith] at h
  split at h
  · rename_i x y h1 h2
    exact ⟨x, y, h1, h2, (Option.some.inj h).symm⟩
  · cases h
theorem wk_zip {a b : Addr} {vs us : List V} {ds es : List D} (e : SqL B.K F a vs) (w : Reps B F r ds vs) (e' : SqL B.K F b us) (w' : Reps B F r es us) : Wk B F r (Itz B.K a b) (zipD ds es) := fun i H s => by
  have q : SqL B.K H a vs := s.sqL e
  have q' : SqL B.K H b us := s.sqL e'
  refine ⟨fun h => ⟨vs, us, q, q', ?_⟩, fun d hd => ?_⟩
  · unfold zipD at h
    rw [List.length_zipWith] at h
    rw [w.len, w'.len]
    omega
  · obtain ⟨x, y, h1, h2, rfl⟩ := zipD_get hd
    obtain ⟨v, f1, f2⟩ := w.get h1
    obtain ⟨u, g1, g2⟩ := w'.get h2
    refine ⟨⟨vs, us, v, u, q, q', f1, g1⟩, fun z H' ⟨T, x', y', e1, e2, e3, e4, e5⟩ => .inr ⟨T, [x', y'], [x, y], e2, e3, e1, rfl, ?_⟩⟩
    have k1 := e4 vs q
    have k2 := e5 us q'
    rw [f1] at k1; rw [g1] at k2
    cases k1; cases k2
    exact ⟨_, _, rfl, f2, _, _, rfl, g2, rfl⟩
theorem wk_zipT {a b : Addr} {vs us : List V} {ds es : List D} (e : SqT B.K F a vs) (w : Reps B F r ds vs) (e' : SqT B.K F b us) (w' : Reps B F r es us) : Wk B F r (ItzT B.K a b) (zipD ds es) := fun i H s => by
  have q : SqT B.K H a vs := s.sqT e
  have q' : SqT B.K H b us := s.sqT e'
  refine ⟨fun h => ⟨vs, us, q, q', ?_⟩, fun d hd => ?_⟩
  · unfold zipD at h
    rw [List.length_zipWith] at h
    rw [w.len, w'.len]
    omega
  · obtain ⟨x, y, h1, h2, rfl⟩ := zipD_get hd
    obtain ⟨v, f1, f2⟩ := w.get h1
    obtain ⟨u, g1, g2⟩ := w'.get h2
    refine ⟨⟨vs, us, v, u, q, q', f1, g1⟩, fun z H' ⟨T, x', y', e1, e2, e3, e4, e5⟩ => .inr ⟨T, [x', y'], [x, y], e2, e3, e1, rfl, ?_⟩⟩
    have k1 := e4 vs q
    have k2 := e5 us q'
    rw [f1] at k1; rw [g1] at k2
    cases k1; cases k2
    exact ⟨_, _, rfl, f2, _, _, rfl, g2, rfl⟩
def enumD (xs : List D) : List D := List.zipWith (fun i x => .tup [.int (i : Nat), x]) (List.range xs.length) xs
theorem enumD_get {xs : List D} {i : Nat} {d : D} (h : (enumD xs)[i]? = some d) : ∃ x, xs[i]? = some x ∧ d = .tup [.int (i : Nat), x] := by
  unfold enumD at h
  rw [List.getElem?_zipWith] at h
  split at h
  · rename_i j y h1 h2
    have hj := (List.getElem?_eq_some_iff.mp h1).2
    rw [List.getElem_range] at hj
    subst hj
    exact ⟨y, h2, (Option.some.inj h).symm⟩
  · cases h
theorem wk_enum {a : Addr} {vs : List V} {ds : List D} (e : SqL B.K F a vs) (w : Reps B F r ds vs) : Wk B F r (Ite B.K a) (enumD ds) := fun i H s => by
  have q : SqL B.K H a vs := s.sqL e
  refine ⟨fun h => ⟨vs, q, ?_⟩, fun d hd => ?_⟩
  · unfold enumD at h
    rw [List.length_zipWith, List.length_range] at h
    rw [w.len]
    omega
  · obtain ⟨x, h1, rfl⟩ := enumD_get hd
    obtain ⟨v, f1, f2⟩ := w.get h1
    refine ⟨⟨vs, v, q, f1⟩, fun z H' ⟨T, x', e1, e2, e3, e4⟩ => .inr ⟨T, _, [.int (i : Nat), x], e2, e3, e1, rfl, ?_⟩⟩
    have k1 := e4 vs q
    rw [f1] at k1
    cases k1
    exact ⟨_, _, rfl, rfl, _, _, rfl, f2, rfl⟩
theorem wk_enumT {a : Addr} {vs : List V} {ds : List D} (e : SqT B.K F a vs) (w : Reps B F r ds vs) : Wk B F r (IteT B.K a) (enumD ds) := fun i H s => by
  have q : SqT B.K H a vs := s.sqT e
  refine ⟨fun h => ⟨vs, q, ?_⟩, fun d hd => ?_⟩
  · unfold enumD at h
    rw [List.length_zipWith, List.length_range] at h
    rw [w.len]
    omega
  · obtain ⟨x, h1, rfl⟩ := enumD_get hd
    obtain ⟨v, f1, f2⟩ := w.get h1
    refine ⟨⟨vs, v, q, f1⟩, fun z H' ⟨T, x', e1, e2, e3, e4⟩ => .inr ⟨T, _, [.int (i : Nat), x], e2, e3, e1, rfl, ?_⟩⟩
    have k1 := e4 vs q
    rw [f1] at k1
    cases k1
    exact ⟨_, _, rfl, rfl, _, _, rfl, f2, rfl⟩
end
section
variable {B : Bg} {W : WX} {X : Cx} {e a b c tg : Expr} {es : List Expr} {pos : Pos} {te ta tb tc : DTE} {tA : DTA} {tt tu : DTT} {s : Stmt} {ss sr : List Stmt} {t u : DTS} {g : DTG} {gs : DTGs} {ti : DTI}
/-- the items of a list, a tuple, a text -/
def itemsOf : D → (List D → Prop) → Prop
  | .lst xs, k => k xs
  | .tup xs, k => k xs
  | .scr ns, k => k (ns.map D.int)
  | .str z, k => k (charsD z)
  | _, _ => False
theorem itemsOf_mono {d : D} {k k' : List D → Prop} (h : ∀ x, k x → k' x) (q : itemsOf d k) : itemsOf d k' := by
  cases d <;> simp only [itemsOf] at q ⊢ <;> first | exact h _ q | exact q
/-- a list, a tuple or a text by its value -/
def iAny (K : PySem.W.Frag) (tl : TE) : TI := fun σ H R => tl σ H fun x H1 => (∃ a, x = .ref a ∧ (∃ xs, SqL K H1 a xs) ∧ R (Itl K a) H1) ∨ (∃ a, x = .ref a ∧ (∃ xs, SqT K H1 a xs) ∧ R (Itt K a) H1) ∨ ∃ z, x = .str z ∧ R (Its z) H1
theorem pi_any {l : Expr} {tl : TE} (hl : PE X l tl) : PI X tg l (iAny X.K tl) := by
  constructor
  intro pins s σ H R I h
  refine thn (hl.run pins s σ H _ I h) ?_
  rintro v s1 ⟨x, H1, I1, r1, q1⟩
  rcases q1 with ⟨p, rfl, ⟨xs, hq⟩, q⟩ | ⟨p, rfl, ⟨xs, hq⟩, q⟩ | ⟨z, rfl, q⟩
  · cases r1
    obtain ⟨its, _, pl, _⟩ := I1.list hq
    refine wpAny_pyIter_list pl.isList ⟨_, [s1.heap.objs.size], _, _, H1, rfl, I1.kept (t' := s1.toks) (fun b o e => Heap.get?_push_of_some _ e), turn_list p _, ⟨_, Heap.get?_push_size _ rfl, rfl, rfl⟩, ?_, q⟩
    intro b hb
    rw [List.mem_singleton] at hb
    rw [hb]
    exact I1.fpOk (Nat.le_refl _) (I1.hok.fresh (Nat.le_refl _))
  · cases r1
    obtain ⟨its, _, pl, _⟩ := I1.tuple hq
    refine wpAny_pyIter_tuple (show s1.heap.IsTuple p its.toArray from pl) ⟨_, [s1.heap.objs.size], _, _, H1, rfl, I1.kept (t' := s1.toks) (fun b o e => Heap.get?_push_of_some _ e), turn_tuple p _, ⟨_, Heap.get?_push_size _ rfl, rfl, rfl⟩, ?_, q⟩
    intro b hb
    rw [List.mem_singleton] at hb
    rw [hb]
    exact I1.fpOk (Nat.le_refl _) (I1.hok.fresh (Nat.le_refl _))
  · obtain ⟨tk, rfl⟩ := r1
    cases ha : z.cps.all (· < 128) with
    | false => exact wpAny_pyIter_wide ha (pi_one (tk := s1.toks) I1 _ (turn_str _ z tk "str_iterator" (.inr rfl)) ⟨_, Heap.get?_push_size _ rfl, rfl, rfl⟩ q)
    | true => exact wpAny_pyIter_ascii ha (pi_one (tk := s1.toks) I1 _ (turn_str _ z tk "str_ascii_iterator" (.inl rfl)) ⟨_, Heap.get?_push_size _ rfl, rfl, rfl⟩ q)
def dAny (te : DTE) : DTI := fun en st k e => te en st (fun x en1 st1 => itemsOf x.d fun ds => k ds en1 st1) e
theorem di_any (hK : X.K = B.K) (h : DE B W X e te) : DI B W X tg e (dAny te) := by
  refine ⟨fun _ _ _ _ _ _ hk he q => h.mono _ _ _ _ _ _ (fun _ _ _ z => itemsOf_mono (fun _ y => hk _ _ _ y) z) he q, PI.weak (pi_any h.run) fun σ H R' ⟨F, r, en, st, R, q⟩ => ?_⟩
  refine at_bind (k := fun d _ en1 st1 => itemsOf d fun ds => ∀ F' r' H' J, Step σ en F r H σ en1 F' r' H' → Rel B F' r' en1 st1 σ H' → Wk B F' r' J ds → R' J H') h.mono R q fun d en1 st1 F1 r1 H1 v S1 R1 rep1 h1 => ?_
  rw [hK]
  cases d <;> simp only [itemsOf] at h1
  · cases rep1
    exact .inr (.inr ⟨_, rfl, h1 F1 r1 H1 _ S1 R1 (wk_str _)⟩)
  · obtain ⟨l, vs, rfl, e1, w⟩ := rep1
    exact .inr (.inl ⟨l, rfl, ⟨vs, R1.w.sub.sqT e1⟩, h1 F1 r1 H1 _ S1 R1 (wk_tup e1 w)⟩)
  · obtain ⟨l, vs, rfl, e1, w⟩ := rep1
    exact .inl ⟨l, rfl, ⟨vs, SqL.of (R1.w.sub _ _ e1)⟩, h1 F1 r1 H1 _ S1 R1 (wk_list (SqL.of e1) w)⟩
  · obtain ⟨l, rfl, e1⟩ := rep1
    exact .inl ⟨l, rfl, ⟨_, R1.w.sub.sqL e1⟩, h1 F1 r1 H1 _ S1 R1 (wk_list e1 (reps_ints _))⟩
/-- range(n), range(a, b), range(a, b, c) -/
def rgOk (i : Int) : Prop := -(2 ^ 62) ≤ i ∧ i < 2 ^ 62
def dRange1 (ta : DTA) : DTI := fun en st k e => ta en st (fun ds en1 st1 => match ds with
  | [.int n] => rgOk n ∧ k (rangeD 0 1 n.toNat) en1 st1
  | _ => False) e
def dRange2 (ta : DTA) : DTI := fun en st k e => ta en st (fun ds en1 st1 => match ds with
  | [.int a, .int b] => (rgOk a ∧ rgOk b) ∧ k (rangeD a 1 (b - a).toNat) en1 st1
  | _ => False) e
def dRange3 (ta : DTA) : DTI := fun en st k e => ta en st (fun ds en1 st1 => match ds with
  | [.int a, .int b, .int c] => ∃ n, RgC a b c n ∧ k (rangeD a c n) en1 st1
  | _ => False) e
theorem dRange1_mono (m : MonoA tA) : MonoA (dRange1 tA) := fun _ _ _ _ _ _ hk he q => m _ _ _ _ _ _ (fun ds _ _ z => by
  split at z
  · exact ⟨z.1, hk _ _ _ z.2⟩
  · exact z.elim) he q
theorem dRange2_mono (m : MonoA tA) : MonoA (dRange2 tA) := fun _ _ _ _ _ _ hk he q => m _ _ _ _ _ _ (fun ds _ _ z => by
  split at z
  · exact ⟨z.1, hk _ _ _ z.2⟩
  · exact z.elim) he q
theorem dRange3_mono (m : MonoA tA) : MonoA (dRange3 tA) := fun _ _ _ _ _ _ hk he q => m _ _ _ _ _ _ (fun ds _ _ z => by
  split at z
  · obtain ⟨n, h1, h2⟩ := z
    exact ⟨n, h1, hk _ _ _ h2⟩
  · exact z.elim) he q
theorem di_range1 {p : Pos} (hg : Gl X "range") (hm : X.mg "range" = none) (ha : DA B W X [a] tA) (hs : ∀ x p, a ≠ .Starred x p) : DI B W X tg (.Call (.Name "range" p) [a] [] pos) (dRange1 tA) := by
  refine ⟨dRange1_mono ha.mono, PI.weak (pi_range1 hg hm ha.run (notStar_each hs)) fun σ H R' ⟨F, r, en, st, R, q⟩ => ?_⟩
  refine at_bindA (k := fun ds en1 st1 => match ds with
    | [.int n] => rgOk n ∧ ∀ F' r' H' J, Step σ en F r H σ en1 F' r' H' → Rel B F' r' en1 st1 σ H' → Wk B F' r' J (rangeD 0 1 n.toNat) → R' J H'
    | _ => False) ha.mono R q fun ds en1 st1 F1 r1 H1 vs S1 R1 rep1 h1 => ?_
  split at h1
  · obtain ⟨v, rfl, rfl⟩ := reps1 rep1
    exact ⟨_, rfl, h1.1.1, h1.1.2, h1.2 F1 r1 H1 _ S1 R1 (wk_range _ _)⟩
  · exact h1.elim
theorem di_range2 {p : Pos} (hg : Gl X "range") (hm : X.mg "range" = none) (ha : DA B W X [a, b] tA) (hs : ∀ x p, a ≠ .Starred x p) (hs' : ∀ x p, b ≠ .Starred x p) : DI B W X tg (.Call (.Name "range" p) [a, b] [] pos) (dRange2 tA) := by
  refine ⟨dRange2_mono ha.mono, PI.weak (pi_range2 hg hm ha.run (by rw [notStar_each hs, notStar_each hs']; rfl) (notStar_each hs')) fun σ H R' ⟨F, r, en, st, R, q⟩ => ?_⟩
  refine at_bindA (k := fun ds en1 st1 => match ds with
    | [.int a, .int b] => (rgOk a ∧ rgOk b) ∧ ∀ F' r' H' J, Step σ en F r H σ en1 F' r' H' → Rel B F' r' en1 st1 σ H' → Wk B F' r' J (rangeD a 1 (b - a).toNat) → R' J H'
    | _ => False) ha.mono R q fun ds en1 st1 F1 r1 H1 vs S1 R1 rep1 h1 => ?_
  split at h1
  · obtain ⟨v, u, rfl, rfl, rfl⟩ := reps2 rep1
    exact ⟨_, _, rfl, ⟨h1.1.1.1, h1.1.1.2, h1.1.2.1, h1.1.2.2⟩, h1.2 F1 r1 H1 _ S1 R1 (wk_range _ _)⟩
  · exact h1.elim
theorem di_range3 {p : Pos} (hg : Gl X "range") (hm : X.mg "range" = none) (ha : DA B W X [a, b, c] tA) (hs : ∀ x p, a ≠ .Starred x p) (hs' : ∀ x p, b ≠ .Starred x p) (hs2 : ∀ x p, c ≠ .Starred x p) : DI B W X tg (.Call (.Name "range" p) [a, b, c] [] pos) (dRange3 tA) := by
  refine ⟨dRange3_mono ha.mono, PI.weak (pi_range3 hg hm ha.run (notStar_each hs) (by rw [notStar_each hs', notStar_each hs2]; rfl)) fun σ H R' ⟨F, r, en, st, R, q⟩ => ?_⟩
  refine at_bindA (k := fun ds en1 st1 => match ds with
    | [.int a, .int b, .int c] => ∃ n, RgC a b c n ∧ ∀ F' r' H' J, Step σ en F r H σ en1 F' r' H' → Rel B F' r' en1 st1 σ H' → Wk B F' r' J (rangeD a c n) → R' J H'
    | _ => False) ha.mono R q fun ds en1 st1 F1 r1 H1 vs S1 R1 rep1 h1 => ?_
  split at h1
  · obtain ⟨v, t, rfl, rfl, rep2⟩ := rep1
    obtain ⟨u, w, rfl, rfl, rfl⟩ := reps2 rep2
    obtain ⟨n, h2, h3⟩ := h1
    exact ⟨_, _, _, n, rfl, h2, h3 F1 r1 H1 _ S1 R1 (wk_rangeC _ _ _)⟩
  · exact h1.elim
def dZip (ta : DTA) : DTI := fun en st k e => ta en st (fun ds en1 st1 => match ds with
  | [.lst xs, .lst ys] => k (zipD xs ys) en1 st1
  | [.tup xs, .tup ys] => k (zipD xs ys) en1 st1
  | _ => False) e
theorem dZip_mono (m : MonoA tA) : MonoA (dZip tA) := fun _ _ _ _ _ _ hk he q => m _ _ _ _ _ _ (fun ds _ _ z => by
  split at z
  · exact hk _ _ _ z
  · exact hk _ _ _ z
  · exact z.elim) he q
theorem di_zip {p tp : Pos} {kk : Nat} (hK : X.K = B.K) (hg : Gl X "zip") (hm : X.mg "zip" = none) (ha : DA B W X [a, b] tA) (hs : ∀ x p, a ≠ .Starred x p) (hs' : ∀ x p, b ≠ .Starred x p) : DI B W X (.Tuple es kk tp) (.Call (.Name "zip" p) [a, b] [] pos) (dZip tA) := by
  refine ⟨dZip_mono ha.mono, PI.weak (pi_zipA hg hm ha.run (notStar_each hs) (by rw [notStar_each hs']; rfl)) fun σ H R' ⟨F, r, en, st, R, q⟩ => ?_⟩
  refine at_bindA (k := fun ds en1 st1 => match ds with
    | [.lst xs, .lst ys] => ∀ F' r' H' J, Step σ en F r H σ en1 F' r' H' → Rel B F' r' en1 st1 σ H' → Wk B F' r' J (zipD xs ys) → R' J H'
    | [.tup xs, .tup ys] => ∀ F' r' H' J, Step σ en F r H σ en1 F' r' H' → Rel B F' r' en1 st1 σ H' → Wk B F' r' J (zipD xs ys) → R' J H'
    | _ => False) ha.mono R q fun ds en1 st1 F1 r1 H1 vs S1 R1 rep1 h1 => ?_
  rw [hK]
  split at h1
  · obtain ⟨v, u, rfl, ⟨l, ws, rfl, e1, w1⟩, l', ws', rfl, e2, w2⟩ := reps2 rep1
    exact ⟨l, l', ws, ws', rfl, .inl ⟨SqL.of (R1.w.sub _ _ e1), SqL.of (R1.w.sub _ _ e2), h1 F1 r1 H1 _ S1 R1 (wk_zip (SqL.of e1) w1 (SqL.of e2) w2)⟩⟩
  · obtain ⟨v, u, rfl, ⟨l, ws, rfl, e1, w1⟩, l', ws', rfl, e2, w2⟩ := reps2 rep1
    exact ⟨l, l', ws, ws', rfl, .inr ⟨R1.w.sub.sqT e1, R1.w.sub.sqT e2, h1 F1 r1 H1 _ S1 R1 (wk_zipT e1 w1 e2 w2)⟩⟩
  · exact h1.elim
def dEnum (ta : DTA) : DTI := fun en st k e => ta en st (fun ds en1 st1 => match ds with
  | [.lst xs] => k (enumD xs) en1 st1
  | [.tup xs] => k (enumD xs) en1 st1
  | _ => False) e
theorem dEnum_mono (m : MonoA tA) : MonoA (dEnum tA) := fun _ _ _ _ _ _ hk he q => m _ _ _ _ _ _ (fun ds _ _ z => by
  split at z
  · exact hk _ _ _ z
  · exact hk _ _ _ z
  · exact z.elim) he q
theorem di_enum {p tp : Pos} {kk : Nat} (hK : X.K = B.K) (hg : Gl X "enumerate") (hm : X.mg "enumerate" = none) (ha : DA B W X [a] tA) (hs : ∀ x p, a ≠ .Starred x p) : DI B W X (.Tuple es kk tp) (.Call (.Name "enumerate" p) [a] [] pos) (dEnum tA) := by
  refine ⟨dEnum_mono ha.mono, PI.weak (pi_enumA hg hm ha.run (notStar_each hs)) fun σ H R' ⟨F, r, en, st, R, q⟩ => ?_⟩
  refine at_bindA (k := fun ds en1 st1 => match ds with
    | [.lst xs] => ∀ F' r' H' J, Step σ en F r H σ en1 F' r' H' → Rel B F' r' en1 st1 σ H' → Wk B F' r' J (enumD xs) → R' J H'
    | [.tup xs] => ∀ F' r' H' J, Step σ en F r H σ en1 F' r' H' → Rel B F' r' en1 st1 σ H' → Wk B F' r' J (enumD xs) → R' J H'
    | _ => False) ha.mono R q fun ds en1 st1 F1 r1 H1 vs S1 R1 rep1 h1 => ?_
  rw [hK]
  split at h1
  · obtain ⟨v, rfl, l, ws, rfl, e1, w1⟩ := reps1 rep1
    exact .inl ⟨l, ws, rfl, SqL.of (R1.w.sub _ _ e1), h1 F1 r1 H1 _ S1 R1 (wk_enum (SqL.of e1) w1)⟩
  · obtain ⟨v, rfl, l, ws, rfl, e1, w1⟩ := reps1 rep1
    exact .inr ⟨l, ws, rfl, R1.w.sub.sqT e1, h1 F1 r1 H1 _ S1 R1 (wk_enumT e1 w1)⟩
  · exact h1.elim
/-! ### for -/
theorem MonoG.app {g : DTG} {d : D} {en : En} {st : List D} {k k' : KG} {e e' : KX} (m : MonoG g) (q : g d en st k e) (hk : ∀ n s, k n s → k' n s) (he : ∀ x n s, e x n s → e' x n s) : g d en st k' e' := m _ _ _ _ _ _ _ hk he q
def forL (g : DTG) (t : DTS) : List D → DTS
  | [] => fun en st P => P.nx en st
  | d :: ds => fun en st P => g d en st (fun en1 st1 => t en1 st1 { P with nx := fun n s => forL g t ds n s P, ct := fun n s => forL g t ds n s P, bk := P.nx }) P.ex
theorem forL_mono (mg : MonoG g) (m : MonoS t) : ∀ ds, MonoS (forL g t ds)
  | [] => fun _ _ _ _ h q => h.nx _ _ q
  | d :: ds => fun en st P P' h q => by
    have q' : g d en st (fun en1 st1 => t en1 st1 { P with nx := fun n s => forL g t ds n s P, ct := fun n s => forL g t ds n s P, bk := P.nx }) P.ex := q
    exact mg.app q' (fun _ _ z => m.app z ⟨fun _ _ y => forL_mono mg m ds _ _ _ _ h y, h.rt, h.nx, fun _ _ y => forL_mono mg m ds _ _ _ _ h y, h.ex⟩) h.ex
def dFor (ti : DTI) (g : DTG) (t : DTS) : DTS := fun en st P => ti en st (fun ds en1 st1 => forL g t ds en1 st1 P) P.ex
theorem dFor_mono (mi : MonoA ti) (mg : MonoG g) (m : MonoS t) : MonoS (dFor ti g t) := fun _ _ _ _ h q => mi _ _ _ _ _ _ (fun ds _ _ z => forL_mono mg m ds _ _ _ _ h z) h.ex q
/-- a turn's item is laid -/
theorem yield_ok {F : Hp} {r : List Addr} {F1 : Hp} {r1 : List Addr} {en : En} {st : List D} {σ : Sl} {H H' : Hp} {J : It} {ds : List D} {i : Nat} {d : D} {x : V} (wk : Wk B F r J ds) (R : Rel B F1 r1 en st σ H) (s : Sub F F1) (p : Pre r r1) (hd : ds[i]? = some d) (y : J.yld i H x H') :
    ∃ F2, Step σ en F1 r1 H σ en F2 r1 H' ∧ Rel B F2 r1 en st σ H' ∧ Rep B F2 r1 d x := by
  rcases ((wk i H (s.trans R.w.sub)).2 d hd).2 x H' y with ⟨rfl, q⟩ | ⟨b, vs, es, hb, rfl, rfl, rfl, q⟩
  · exact ⟨F1, Step.refl, R, q.mono s p⟩
  · exact ⟨upd F1 b (.tup vs), Step.newF R hb, R.newF hb, ⟨b, vs, rfl, .inl (.inl upd_same), Reps.mono (s.trans (sub_upd (R.w.fresh hb).1)) p _ _ q⟩⟩
theorem drop_get {α : Type} {l : List α} {i : Nat} {x : α} {r : List α} (h : l.drop i = x :: r) : l[i]? = some x ∧ l.drop (i + 1) = r ∧ i < l.length := by
  have h1 : (l.drop i)[0]? = some x := by rw [h]; rfl
  rw [List.getElem?_drop] at h1
  refine ⟨by simpa using h1, ?_, ?_⟩
  · rw [← List.tail_drop, h]; rfl
  · exact (List.getElem?_eq_some_iff.mp (by simpa using h1)).1
theorem ds_for (hp : PassesOwn (model X.prog X.w) X.A X.env X.xe) (hc : X.calm = true) (hi : DI B W X tg e ti) (hg : DG B W X tg g) (hb : DSs B W X ss t) (hs : ∀ x, foldedSetIterable e X.env x = pure x) : DS B W X (.For tg e ss [] pos) (dFor ti g t) := by
  refine ⟨dFor_mono hi.mono hg.mono hb.mono, PS.weak (ps_for hp hc hi.run hg.run hb.run hs) fun D σ H ⟨F, r, en, st, R, q⟩ => ?_⟩
  refine ⟨F, r, en, st, R, hi.mono _ _ _ _ _ _ (fun ds n s z => ?_) (fun _ _ _ z => ex_of z) q⟩
  intro F0 r0 H0 J S0 R0 wk
  refine ⟨fun i m σ' H' => m = ds.length - i ∧ ∃ F' r' en' st', Step σ en F r H σ' en' F' r' H' ∧ Sub F0 F' ∧ Pre r0 r' ∧ Rel B F' r' en' st' σ' H' ∧ forL g t (ds.drop i) en' st' (postOf B W D σ F r en H),
    ⟨ds.length, rfl, F0, r0, n, s, S0, Sub.refl _, Pre.refl _, R0, z⟩, ?_⟩
  rintro i m σ1 H1 ⟨rfl, F1, r1, en1, st1, S1, s1, p1, R1, z1⟩
  have hs1 := s1.trans R1.w.sub
  cases hd : ds.drop i with
  | nil =>
    rw [hd] at z1
    refine .inl ⟨(wk i H1 hs1).1 (List.drop_eq_nil_iff.mp hd), z1 σ1 F1 r1 H1 S1 R1⟩
  | cons d rest =>
    rw [hd] at z1
    obtain ⟨g1, g2, g3⟩ := drop_get hd
    refine .inr ⟨((wk i H1 hs1).2 d g1).1, fun σ' H' => ∃ F' r' en' st', Step σ en F r H σ' en' F' r' H' ∧ Sub F0 F' ∧ Pre r0 r' ∧ Rel B F' r' en' st' σ' H' ∧ forL g t (ds.drop (i + 1)) en' st' (postOf B W D σ F r en H), fun σ' H' y => ⟨ds.length - (i + 1), by omega, rfl, y⟩, fun x H2 y => ?_⟩
    obtain ⟨F2, S2, R2, rep2⟩ := yield_ok wk R1 s1 p1 g1 y
    have S12 := S1.trans S2
    refine ⟨F2, r1, en1, st1, d, R2, rep2, hg.mono _ _ _ _ _ _ _ (fun n2 s2 z2 => ?_) (fun x n s y => (postOf.shift S12).ex x n s y) z1⟩
    intro σ3 F3 r3 H3 S3 R3
    have S := S12.trans S3
    have s3 : Sub F0 F3 := (s1.trans S2.grow).trans S3.grow
    have pre_trans : ∀ {a b c : List Addr}, Pre a b → Pre b c → Pre a c := fun ⟨x, hx⟩ ⟨y, hy⟩ => ⟨x ++ y, by rw [hy, hx, List.append_assoc]⟩
    have p3 : Pre r0 r3 := pre_trans p1 S3.prx
    refine ⟨F3, r3, n2, s2, R3, hb.mono.app z2 ⟨?_, fun x s y => (postOf.shift (W := W) S).rt x s y, fun n s y => (postOf.shift (W := W) S).nx n s y, ?_, fun x n s y => (postOf.shift S).ex x n s y⟩⟩
    · intro n' s' z' σ' F' r' H' U R'
      exact ⟨F', r', n', s', S.trans U, s3.trans U.grow, pre_trans p3 U.prx, R', by rw [g2]; exact z'⟩
    · intro n' s' z' σ' F' r' H' U R'
      exact ⟨F', r', n', s', S.trans U, s3.trans U.grow, pre_trans p3 U.prx, R', by rw [g2]; exact z'⟩
end
end Ev
set_option Elab.async false
set_option linter.all false
set_option autoImplicit false
set_option maxRecDepth 100000
/-! Ev, part J: list comprehensions. -/
namespace Ev
open PySem PySem.Spec PyProof.Rows L2
def wipeE (en : En) : List Nat → En
  | [] => en
  | v :: vs => (wipeE en vs).set v none
def restE (en en' : En) : List Nat → En
  | [] => en'
  | v :: vs => (restE en en' vs).set v (en.getD v none)
theorem wipeE_len (en : En) : ∀ vs, (wipeE en vs).length = en.length
  | [] => rfl
  | v :: vs => by unfold wipeE; rw [List.length_set, wipeE_len en vs]
theorem restE_len (en en' : En) : ∀ vs, (restE en en' vs).length = en'.length
  | [] => rfl
  | v :: vs => by unfold restE; rw [List.length_set, restE_len en en' vs]
theorem wipeE_get {en : En} {i : Nat} {x : T} : ∀ {vs : List Nat}, (wipeE en vs)[i]? = some (some x) → en[i]? = some (some x) ∧ i ∉ vs
  | [], h => ⟨h, by simp⟩
  | v :: vs, h => by
    unfold wipeE at h
    by_cases hv : v = i
    · subst hv
      rw [List.getElem?_set] at h
      split at h
      · split at h <;> cases h
      · contradiction
    · rw [List.getElem?_set_ne hv] at h
      obtain ⟨h1, h2⟩ := wipeE_get h
      exact ⟨h1, by rw [List.mem_cons, not_or]; exact ⟨fun e => hv e.symm, h2⟩⟩
theorem restE_get {en en' : En} (hl : en'.length = en.length) {i : Nat} {x : T} : ∀ {vs : List Nat}, (restE en en' vs)[i]? = some (some x) → (i ∈ vs ∧ en[i]? = some (some x)) ∨ (i ∉ vs ∧ en'[i]? = some (some x))
  | [], h => .inr ⟨by simp, h⟩
  | v :: vs, h => by
    unfold restE at h
    by_cases hv : v = i
    · subst hv
      rw [List.getElem?_set] at h
      rw [if_pos rfl] at h
      split at h
      · rename_i hlt
        rw [restE_len, hl] at hlt
        refine .inl ⟨List.mem_cons_self, ?_⟩
        rw [List.getD_eq_getElem?_getD, List.getElem?_eq_getElem hlt] at h
        rw [List.getElem?_eq_getElem hlt]
        exact h
      · cases h
    · rw [List.getElem?_set_ne hv] at h
      rcases restE_get hl h with ⟨h1, h2⟩ | ⟨h1, h2⟩
      · exact .inl ⟨List.mem_cons_of_mem _ h1, h2⟩
      · exact .inr ⟨by rw [List.mem_cons, not_or]; exact ⟨fun e => hv e.symm, h1⟩, h2⟩
theorem wipe_get {σ : Sl} {i : Nat} {vs : List Nat} (h : i ∉ vs) : (wipe σ vs)[i]? = σ[i]? := wipe_out h
theorem wipe_set {σ : Sl} {i : Nat} {v : Option V} : ∀ {vs : List Nat}, i ∈ vs → wipe (σ.set i v) vs = wipe σ vs
  | [], h => by cases h
  | w :: vs, h => by
    unfold wipe
    by_cases hw : i ∈ vs
    · rw [wipe_set hw]
    · have e : i = w := by rcases List.mem_cons.mp h with z | z; exact z; exact absurd z hw
      subst e
      apply List.ext_getElem?
      intro j
      rw [List.getElem?_set, List.getElem?_set, wipe_length, wipe_length, List.length_set]
      by_cases hj : i = j
      · rw [if_pos hj, if_pos hj]
      · rw [if_neg hj, if_neg hj]
        by_cases hjv : j ∈ vs
        · have : ∀ (σ' : Sl), σ'.length = σ.length → (wipe σ' vs)[j]? = if j < σ.length then some none else none := fun σ' hl => wipe_in hl hjv
          rw [this _ (List.length_set), this σ rfl]
        · rw [wipe_get hjv, wipe_get hjv, List.getElem?_set_ne hj]
where
  wipe_in {σ σ' : Sl} (hl : σ'.length = σ.length) : ∀ {vs : List Nat} {j : Nat}, j ∈ vs → (wipe σ' vs)[j]? = if j < σ.length then some none else none
  | [], j, h => by cases h
  | w :: vs, j, h => by
    unfold wipe
    rw [List.getElem?_set, wipe_length, hl]
    by_cases hw : w = j
    · subst hw
      rw [if_pos rfl]
    · rw [if_neg hw]
      exact wipe_in hl (by rcases List.mem_cons.mp h with z | z; exact absurd z.symm hw; exact z)
theorem wipe_wipe {σ : Sl} : ∀ {vs ws : List Nat}, (∀ i ∈ ws, i ∈ vs) → wipe (wipe σ ws) vs = wipe σ vs
  | vs, [], _ => rfl
  | vs, w :: ws, h => by
    show wipe ((wipe σ ws).set w none) vs = _
    rw [wipe_set (h w List.mem_cons_self)]
    exact wipe_wipe fun i hi => h i (List.mem_cons_of_mem _ hi)
section
variable {B : Bg} {σ σ2 : Sl} {en en2 : En} {F F2 : Hp} {r r2 : List Addr} {H H2 : Hp} {st st2 : List D} {vs : List Nat}
theorem own_wipe {i : Nat} {a : Addr} (h : OwnI (wipe σ vs) (wipeE en vs) i a) : OwnI σ en i a ∧ i ∉ vs := by
  obtain ⟨d, h1, h2⟩ := h
  obtain ⟨h3, h4⟩ := wipeE_get h1
  rw [wipe_get h4] at h2
  exact ⟨⟨d, h3, h2⟩, h4⟩
theorem Rel.wipe (R : Rel B F r en st σ H) (vs : List Nat) : Rel B F r (wipeE en vs) st (wipe σ vs) H where
  w := R.w
  val := fun i d e => by
    obtain ⟨h3, h4⟩ := wipeE_get e
    rw [wipe_get h4]
    exact R.val i d h3
  own := fun i d e => by
    obtain ⟨h3, h4⟩ := wipeE_get e
    rw [wipe_get h4]
    exact R.own i d h3
  dis := fun i j a h1 h2 => R.dis i j a (own_wipe h1).1 (own_wipe h2).1
  len := by rw [wipeE_len, wipe_length]; exact R.len
  exc := fun i x e => by
    obtain ⟨h3, h4⟩ := wipeE_get e
    rw [wipe_get h4]
    exact R.exc i x h3
theorem Rel.back (R : Rel B F r en st σ H) (S : Step (L2.wipe σ vs) (wipeE en vs) F r H σ2 en2 F2 r2 H2) (R2 : Rel B F2 r2 en2 st2 σ2 H2) (hw : L2.wipe σ2 vs = L2.wipe σ vs) :
    Rel B F2 r2 (restE en en2 vs) st2 σ H2 ∧ Step σ en F r H σ (restE en en2 vs) F2 r2 H2 := by
  have hl : σ2.length = σ.length := by
    have := congrArg List.length hw
    rw [wipe_length, wipe_length] at this
    exact this
  have hle : en2.length = en.length := by rw [R2.len, R.len, hl]
  have same : ∀ i, i ∉ vs → σ2[i]? = σ[i]? := fun i hi => by rw [← wipe_get (σ := σ2) hi, ← wipe_get (σ := σ) hi, hw]
  have ownR : ∀ i a, OwnI σ (restE en en2 vs) i a → (i ∈ vs ∧ OwnI σ en i a) ∨ (i ∉ vs ∧ OwnI σ2 en2 i a) := fun i a ⟨d, h1, h2⟩ => by
    rcases restE_get hle h1 with ⟨g1, g2⟩ | ⟨g1, g2⟩
    · exact .inl ⟨g1, d, g2, h2⟩
    · exact .inr ⟨g1, d, g2, by rw [same i g1]; exact h2⟩
  have hid : ∀ i a, i ∈ vs → OwnI σ en i a → ¬ OwnAt (L2.wipe σ vs) (wipeE en vs) a := fun i a hi h ⟨j, z⟩ => by
    obtain ⟨z1, z2⟩ := own_wipe z
    exact z2 (R.dis i j a h z1 ▸ hi)
  constructor
  · refine ⟨R2.w, fun i d e => ?_, fun i d e => ?_, fun i j a h1 h2 => ?_, by rw [restE_len, hle]; exact R.len, fun i x e => ?_⟩
    · rcases restE_get hle e with ⟨g1, g2⟩ | ⟨g1, g2⟩
      · obtain ⟨v, f1, f2⟩ := R.val i d g2
        exact ⟨v, f1, f2.step S⟩
      · rw [← same i g1]
        exact R2.val i d g2
    · rcases restE_get hle e with ⟨g1, g2⟩ | ⟨g1, g2⟩
      · obtain ⟨a, f1, q1, q2, o, q3, q4⟩ := R.own i d g2
        have no := hid i a g1 ⟨d, g2, f1⟩
        refine ⟨a, f1, ?_, ?_, o, S.keep a o q3 q2 no q4.nt, q4.mono S.grow S.prx⟩
        · cases z : F2 a with
          | none => rfl
          | some u =>
            rcases S.new a u z with y | y | y
            · rw [q1] at y; cases y
            · rw [q3] at y; cases y
            · exact absurd y no
        · obtain ⟨t, e1, e2⟩ := S.pre
          rw [e1]
          intro z
          rcases List.mem_append.mp z with z | z
          · exact q2 z
          · rcases e2 a z with y | y
            · rw [q3] at y; cases y
            · exact no y
      · rw [← same i g1]
        exact R2.own i d g2
    · have mix : ∀ i j, i ∈ vs → OwnI σ en i a → OwnI σ2 en2 j a → False := fun i j hi h1 h2 => by
        rcases S.owns a ⟨j, h2⟩ with y | y
        · exact hid i a hi h1 y
        · obtain ⟨_, _, o, q⟩ := R.ownH ⟨i, h1⟩
          rw [q] at y; cases y
      rcases ownR i a h1 with ⟨g1, g2⟩ | ⟨g1, g2⟩ <;> rcases ownR j a h2 with ⟨k1, k2⟩ | ⟨k1, k2⟩
      · exact R.dis i j a g2 k2
      · exact (mix i j g1 g2 k2).elim
      · exact (mix j i k1 k2 g2).elim
      · exact R2.dis i j a g2 k2
    · rcases restE_get hle e with ⟨g1, g2⟩ | ⟨g1, g2⟩
      · obtain ⟨a, c, d, f1, f2, f3⟩ := R.exc i x g2
        exact ⟨a, c, d, f1, f2, f3.mono S.grow S.prx⟩
      · rw [← same i g1]
        exact R2.exc i x g2
  · refine ⟨fun a o e hr ho nt => S.keep a o e hr (fun ⟨j, z⟩ => ho ⟨j, (own_wipe z).1⟩) nt, S.there, S.grow, ?_, fun a o e => ?_, fun a ⟨i, z⟩ => ?_⟩
    · obtain ⟨t, e1, e2⟩ := S.pre
      exact ⟨t, e1, fun a ha => (e2 a ha).imp id fun ⟨j, z⟩ => ⟨j, (own_wipe z).1⟩⟩
    · rcases S.new a o e with y | y | ⟨j, y⟩
      · exact .inl y
      · exact .inr (.inl y)
      · exact .inr (.inr ⟨j, (own_wipe y).1⟩)
    · rcases ownR i a z with ⟨g1, g2⟩ | ⟨g1, g2⟩
      · exact .inl ⟨i, g2⟩
      · rcases S.owns a ⟨i, g2⟩ with ⟨j, y⟩ | y
        · exact .inl ⟨j, (own_wipe y).1⟩
        · exact .inr y
/-- a thing that stands by itself -/
structure Lone (F : Hp) (r : List Addr) (en : En) (σ : Sl) (H : Hp) (p : Addr) (o : HO) : Prop where
  at_ : H p = some o
  im : isM o = true
  fr : F p = none
  nb : p ∉ r
  no : ¬ OwnAt σ en p
theorem Lone.step {σ' : Sl} {en' : En} {p : Addr} {o : HO} (L : Lone F r en σ H p o) (S : Step σ en F r H σ' en' F2 r2 H2) : Lone F2 r2 en' σ' H2 p o where
  at_ := S.keep p o L.at_ L.nb L.no (isM_tbl L.im)
  im := L.im
  fr := by
    cases z : F2 p with
    | none => rfl
    | some u =>
      rcases S.new p u z with y | y | y
      · rw [L.fr] at y; cases y
      · rw [L.at_] at y; cases y
      · exact absurd y L.no
  nb := by
    obtain ⟨t, e1, e2⟩ := S.pre
    rw [e1]
    intro z
    rcases List.mem_append.mp z with z | z
    · exact L.nb z
    · rcases e2 p z with y | y
      · rw [L.at_] at y; cases y
      · exact L.no y
  no := fun z => by
    rcases S.owns p z with y | y
    · exact L.no y
    · rw [L.at_] at y; cases y
theorem Lone.put {p : Addr} {o o' : HO} (L : Lone F r en σ H p o) (R : Rel B F r en st σ H) (im : isM o' = true) : Rel B F r en st σ (upd H p o') ∧ Lone F r en σ (upd H p o') p o' := by
  refine ⟨⟨⟨fun a u e => ?_, ⟨tabs_upd R.w.tab.1 L.at_ L.im, R.w.tab.2⟩, R.w.nd, R.w.len, fun n a d e1 e2 => ?_⟩, R.val, fun i d e => ?_, R.dis, R.len, R.exc⟩, ⟨upd_same, im, L.fr, L.nb, L.no⟩⟩
  · have ne : a ≠ p := fun z => by rw [z, L.fr] at e; cases e
    rw [upd_ne ne]; exact R.w.sub a u e
  · obtain ⟨q1, u, q2, q3⟩ := R.w.box n a d e1 e2
    have ne : a ≠ p := fun z => L.nb (z ▸ List.mem_of_getElem? e1)
    exact ⟨q1, u, by rw [upd_ne ne]; exact q2, q3⟩
  · obtain ⟨a, f1, q1, q2, u, q3, q4⟩ := R.own i d e
    have ne : a ≠ p := fun z => L.no ⟨i, d, e, z ▸ f1⟩
    exact ⟨a, f1, q1, q2, u, by rw [upd_ne ne]; exact q3, q4⟩
theorem Step.lone {H0 : Hp} {σ0 : Sl} {en0 : En} {F0 : Hp} {r0 : List Addr} {p : Addr} {o : HO} (S : Step σ0 en0 F0 r0 H0 σ en F r H) (h : H0 p = none) : Step σ0 en0 F0 r0 H0 σ en F r (upd H p o) where
  keep := fun a u e hr ho nt => by
    have ne : a ≠ p := fun z => by rw [z, h] at e; cases e
    rw [upd_ne ne]; exact S.keep a u e hr ho nt
  there := fun a e => by
    by_cases q : a = p
    · subst q; exact h
    · rw [upd_ne q] at e; exact S.there a e
  grow := S.grow
  pre := S.pre
  new := S.new
  owns := S.owns
end
/-! ### the targets of a comprehension -/
inductive CT where
  | one (i : Nat)
  | many (is : List Nat)
def setsE : List Nat → List D → En → En
  | i :: is, d :: ds, en => setsE is ds (en.set i (some (.v d)))
  | _, _, en => en
def aCT : CT → D → En → Option En
  | .one i, d, en => some (en.set i (some (.v d)))
  | .many is, .tup ds, en => if ds.length = is.length then some (setsE is ds en) else none
  | _, _, _ => none
def gNms : List Nat → TGs
  | [] => gNil
  | i :: is => gCons (gName i) (gNms is)
def tCT (K : PySem.W.Frag) : CT → TG
  | .one i => gName i
  | .many is => gTup K is.length (gNms is)
def CT.slots : CT → List Nat
  | .one i => [i]
  | .many is => is
section
variable {B : Bg} {σ : Sl} {en : En} {F : Hp} {r : List Addr} {H : Hp} {st : List D} {vs : List Nat}
theorem sets_ok {Q : Sl → Hp → Prop} : ∀ {is : List Nat} {ds : List D} {ws : List V} {σ : Sl} {en : En}, (∀ i ∈ is, i ∈ vs) → Rel B F r en st σ H → Reps B F r ds ws → ds.length = is.length →
    (∀ σ1, wipe σ1 vs = wipe σ vs → Step σ en F r H σ1 (setsE is ds en) F r H → Rel B F r (setsE is ds en) st σ1 H → Q σ1 H) → gNms is ws σ H Q
  | [], [], ws, σ, en, _, R, p, _, k => ⟨p, k σ rfl Step.refl R⟩
  | i :: is, d :: ds, ws, σ, en, hv, R, p, hl, k => by
    obtain ⟨v, t, e, p1, p2⟩ := p
    refine ⟨v, t, e, ?_⟩
    obtain ⟨S1, R1⟩ := Rel.set' (i := i) (x := .v d) (v := v) Step.refl R p1
    refine sets_ok (fun j hj => hv j (List.mem_cons_of_mem _ hj)) R1 p2 (Nat.succ.inj hl) fun σ1 hw S2 R2 => k σ1 ?_ (S1.trans S2) R2
    rw [hw, wipe_set (hv i List.mem_cons_self)]
theorem ct_ok {Q : Sl → Hp → Prop} {ct : CT} {d : D} {v : V} {en1 : En} (hv : ∀ i ∈ ct.slots, i ∈ vs) (R : Rel B F r en st σ H) (p : Rep B F r d v) (h : aCT ct d en = some en1)
    (k : ∀ σ1, wipe σ1 vs = wipe σ vs → Step σ en F r H σ1 en1 F r H → Rel B F r en1 st σ1 H → Q σ1 H) : tCT B.K ct v σ H Q := by
  cases ct with
  | one i =>
    cases h
    obtain ⟨S1, R1⟩ := Rel.set' (i := i) (x := .v d) (v := v) Step.refl R p
    exact k _ (wipe_set (hv i List.mem_cons_self)) S1 R1
  | many is =>
    unfold aCT at h
    split at h
    · rename_i e; cases e
    · rename_i is' ds e
      cases e
      split at h
      · rename_i hl
        cases h
        obtain ⟨l, ws, rfl, e1, w⟩ := p
        exact ⟨l, ws, rfl, R.w.sub.sqT e1, by rw [w.len]; exact hl, sets_ok hv R w hl k⟩
      · cases h
    · cases h
end
/-! ### the comprehension -/
def noX : KX := fun _ _ _ => False
def W0 : WX := fun _ _ _ _ => False
def lcL (ct : CT) (c : DTT) (te : DTE) (vs : List Nat) : List D → List D → En → List D → (List D → En → List D → Prop) → Prop
  | [], acc, en, st, k => k acc en st
  | d :: ds, acc, en, st, k => ∃ en1, aCT ct d (wipeE en vs) = some en1 ∧ c en1 st (fun b en2 st2 => if b = true then te en2 st2 (fun y en3 st3 => acc.length < sizeLine ∧ lcL ct c te vs ds (acc ++ [y.d]) (restE en en3 vs) st3 k) noX else lcL ct c te vs ds acc (restE en en2 vs) st2 k) noX
theorem lcL_mono {ct : CT} {c : DTT} {te : DTE} {vs : List Nat} (mc : MonoT c) (me : MonoE te) {k k' : List D → En → List D → Prop} (hk : ∀ a n s, k a n s → k' a n s) : ∀ (ds acc : List D) (en : En) (st : List D), lcL ct c te vs ds acc en st k → lcL ct c te vs ds acc en st k'
  | [], acc, en, st, h => hk _ _ _ h
  | d :: ds, acc, en, st, ⟨en1, e1, h⟩ => ⟨en1, e1, mc _ _ _ _ _ _ (fun b n s z => by
    cases b
    · exact lcL_mono mc me hk ds _ _ _ z
    · exact me _ _ _ _ _ _ (fun y n s ⟨z1, z2⟩ => ⟨z1, lcL_mono mc me hk ds _ _ _ z2⟩) (fun _ _ _ z => z) z) (fun _ _ _ z => z) h⟩
def dLc (ti : DTI) (ct : CT) (c : DTT) (te : DTE) (vs : List Nat) : DTE := fun en st k e => ti en st (fun ds en1 st1 => lcL ct c te vs ds [] en1 st1 fun acc en2 st2 => k (.o (.lst acc)) en2 st2) e
theorem dLc_mono {ti : DTI} {ct : CT} {c : DTT} {te : DTE} {vs : List Nat} (mi : MonoA ti) (mc : MonoT c) (me : MonoE te) : MonoE (dLc ti ct c te vs) := fun _ _ _ _ _ _ hk he q => mi _ _ _ _ _ _ (fun ds n s z => lcL_mono mc me (fun _ _ _ y => hk _ _ _ y) ds _ _ _ z) he q
theorem noX_ep {B : Bg} {σ : Sl} {W : WX} {F : Hp} {r : List Addr} {en : En} {H : Hp} {x : Xn} {n : En} {s : List D} (h : noX x n s) : Epost B σ W F r en H x n s := h.elim
section
variable {B : Bg} {W : WX} {X : Cx} {ti : DTI} {ct : CT} {c : DTT} {te : DTE} {vs : List Nat} {σ : Sl} {H : Hp} {Q : VK}
theorem lc_read (hv : ∀ i ∈ ct.slots, i ∈ vs) (mi : MonoA ti) (mc : MonoT c) (me : MonoE te) (h : tM B W (dLc ti ct c te vs) σ H Q) : tLc (tI B W ti) (tCT B.K ct) (tMT B W0 c) (tM B W0 te) vs σ H Q := by
  obtain ⟨F, r, en, st, R, q⟩ := h
  refine ⟨F, r, en, st, R, mi _ _ _ _ _ _ (fun ds n s z => ?_) (fun _ _ _ z => z) q⟩
  intro F0 r0 H0 J S0 R0 wk D0 hD0
  have hDs : H D0 = none := S0.there D0 hD0
  refine ⟨fun i m H' => m = ds.length - i ∧ ∃ F' r' en' st' acc ws, Step σ en F r H σ en' F' r' H' ∧ Sub F0 F' ∧ Pre r0 r' ∧ Rel B F' r' en' st' σ H' ∧ Lone F' r' en' σ H' D0 (.lst ws) ∧ Reps B F' r' acc ws ∧ lcL ct c te vs (ds.drop i) acc en' st' fun acc en2 st2 => Kpost B σ Q F r en H (.o (.lst acc)) en2 st2,
    ⟨ds.length, rfl, F0, r0, n, s, [], [], S0.lone hDs, Sub.refl _, Pre.refl _, R0.alloc hD0, ⟨upd_same, rfl, (R0.w.fresh hD0).1, (R0.w.fresh hD0).2, R0.noOwn hD0⟩, rfl, z⟩, ?_⟩
  rintro i m H1 ⟨rfl, F1, r1, en1, st1, acc, ws, S1, s1, p1, R1, L1, w1, z1⟩
  have hs1 := s1.trans R1.w.sub
  have pre_trans : ∀ {a b c : List Addr}, Pre a b → Pre b c → Pre a c := fun ⟨x, hx⟩ ⟨y, hy⟩ => ⟨x ++ y, by rw [hy, hx, List.append_assoc]⟩
  cases hd : ds.drop i with
  | nil =>
    rw [hd] at z1
    refine .inl ⟨(wk i H1 hs1).1 (List.drop_eq_nil_iff.mp hd), z1 F1 r1 H1 _ S1 R1 ⟨D0, rfl, ⟨L1.fr, L1.nb, _, L1.at_, ws, rfl, w1⟩, L1.no, .inl hDs⟩⟩
  | cons d rest =>
    rw [hd] at z1
    obtain ⟨g1, g2, g3⟩ := drop_get hd
    refine .inr ⟨((wk i H1 hs1).2 d g1).1, fun H' => ∃ F' r' en' st' acc ws, Step σ en F r H σ en' F' r' H' ∧ Sub F0 F' ∧ Pre r0 r' ∧ Rel B F' r' en' st' σ H' ∧ Lone F' r' en' σ H' D0 (.lst ws) ∧ Reps B F' r' acc ws ∧ lcL ct c te vs (ds.drop (i + 1)) acc en' st' fun acc en2 st2 => Kpost B σ Q F r en H (.o (.lst acc)) en2 st2,
      fun H' y => ⟨ds.length - (i + 1), by omega, rfl, y⟩, fun x H2 y => ?_⟩
    obtain ⟨F2, S2, R2, rep2⟩ := yield_ok wk R1 s1 p1 g1 y
    obtain ⟨en2, a1, z2⟩ := z1
    refine ct_ok hv (R2.wipe vs) rep2 a1 fun σ3 hw S3 R3 => ⟨by rw [hw, wipe_wipe fun _ h => h], ?_⟩
    have hw' : L2.wipe σ3 vs = L2.wipe σ vs := by rw [hw, wipe_wipe fun _ h => h]
    refine ⟨F2, r1, en2, st1, R3, mc _ _ _ _ _ _ (fun b n4 s4 z4 => ?_) (fun _ _ _ z => noX_ep z) z2⟩
    intro F4 r4 H4 S4 R4
    cases b with
    | false =>
      rw [if_neg Bool.false_ne_true] at z4 ⊢
      obtain ⟨R5, S5⟩ := R2.back (S3.trans S4) R4 hw'
      have S25 := S2.trans S5
      exact ⟨F4, r4, _, s4, acc, ws, S1.trans S25, s1.trans S25.grow, pre_trans p1 S25.prx, R5, L1.step S25, w1.step S25, by rw [g2]; exact z4⟩
    | true =>
      rw [if_pos rfl] at z4 ⊢
      refine ⟨F4, r4, n4, s4, R4, me _ _ _ _ _ _ (fun y5 n5 s5 z5 => ?_) (fun _ _ _ z => noX_ep z) z4⟩
      intro F5 r5 H5 v5 S5 R5 t5
      obtain ⟨F6, S6, R6, rep6, _⟩ := freezeT S5 R5 t5
      obtain ⟨R7, S7⟩ := R2.back ((S3.trans S4).trans S6) R6 hw'
      have S27 := S2.trans S7
      have L7 := L1.step S27
      obtain ⟨R8, L8⟩ := L7.put (o' := .lst (ws ++ [v5])) R7 rfl
      obtain ⟨z6, z7⟩ := z5
      refine ⟨ws, L7.at_, by rw [w1.len]; exact z6, F6, r5, _, s5, acc ++ [y5.d], ws ++ [v5], (S1.trans S27).lone hDs, s1.trans S27.grow, pre_trans p1 S27.prx, R8, L8, Reps.app (show Reps B F6 r5 [y5.d] [v5] from ⟨v5, [], rfl, rep6, rfl⟩) (w1.step S27), by rw [g2]; exact z7⟩
end
end Ev
set_option Elab.async false
set_option linter.all false
set_option autoImplicit false
set_option maxRecDepth 100000
/-! Ev, part K: calls of defs, boxes, comprehensions as expressions, pairs stored at once. -/
namespace Ev
open PySem PySem.Spec PyProof.Rows L2
/-- what a call of a def means -/
abbrev Gam := List D → List D → (T → List D → Prop) → (Xn → List D → Prop) → Prop
def MonoC (g : Gam) : Prop := ∀ (ds st : List D) (k k' : T → List D → Prop) (e e' : Xn → List D → Prop), (∀ t s, k t s → k' t s) → (∀ x s, e x s → e' x s) → g ds st k e → g ds st k' e'
structure CallOk (B : Bg) (W : WX) (X : Cx) (x : Str) (n : Nat) (ks : List Str) (g : Gam) : Prop where
  mono : MonoC g
  run : ∃ fa : Addr, X.mg x = some (.ref fa) ∧ PySem.W.keepIn X.K (.ref fa) = true ∧ ∀ (pins : List (Addr × Obj)) (σ : Sl) (H : Hp) (s : Shared) (Q : VK) (us ws : List Value) (vs zs : List V) (F : Hp) (r : List Addr) (en : En) (st ds : List D),
    Inv X pins σ H s → Vals vs us → Vals zs ws → vs.length = n → zs.length = ks.length → Rel B F r en st σ H → Reps B F r ds (vs ++ zs) → g ds st (fun t st' => Kpost B σ Q F r en H t en st') (fun x st' => Epost B σ W F r en H x en st') →
    wpAny (model X.prog X.w) X.A (call (.ref fa) us (ks.zip ws)) (EP X pins σ Q) X.xe s
structure DK (B : Bg) (W : WX) (X : Cx) (ks : List Keyword) (t : DTA) : Prop where
  mono : MonoA t
  run : PK X ks (tMA B W t)
theorem PK.weak {X : Cx} {e : List Keyword} {t t' : TA} (h : PK X e t) (w : ∀ σ H Q, t' σ H Q → t σ H Q) : PK X e t' := ⟨fun pos pins s σ H Q I q => h.run pos pins s σ H Q I (w σ H Q q)⟩
section
variable {B : Bg} {W : WX} {X : Cx} {e a b c tg : Expr} {es : List Expr} {kws : List Keyword} {pos : Pos} {te ta tb tc : DTE} {tA tB : DTA} {tt tu : DTT} {g : Gam}
theorem dk_nil : DK B W X [] dNil := ⟨dNil_mono, PK.weak pk_nil fun σ H Q ⟨F, r, en, st, R, q⟩ => q F r H [] Step.refl R rfl⟩
theorem dk_cons {nm : Option Str} {kp : Pos} (h : DE B W X e te) (h' : DK B W X kws tA) : DK B W X (⟨nm, e, kp⟩ :: kws) (dCons te tA) := by
  refine ⟨dCons_mono h.mono h'.mono, PK.weak (pk_cons h.run h'.run) fun σ H Q ⟨F, r, en, st, R, q⟩ => ?_⟩
  refine at_bind (k := fun d _ en1 st1 => tA en1 st1 (fun ds en2 st2 => Apost B σ Q F r en H (d :: ds) en2 st2) (Epost B σ W F r en H)) h.mono R q fun d en1 st1 F1 r1 H1 v S1 R1 rep1 h1 => ?_
  refine at_bindA (k := fun ds en2 st2 => Apost B σ Q F r en H (d :: ds) en2 st2) h'.mono R1 (h'.mono _ _ _ _ _ _ (fun _ _ _ z => z) (fun _ _ _ z => z.shift S1) h1) fun ds en2 st2 F2 r2 H2 vs S2 R2 rep2 h2 => ?_
  exact h2 F2 r2 H2 (v :: vs) (S1.trans S2) R2 ⟨v, vs, rfl, rep1.step S2, rep2⟩
def dCall (g : Gam) (n m : Nat) (ta tk : DTA) : DTE := fun en st k e => ta en st (fun ds en1 st1 => tk en1 st1 (fun zs en2 st2 => ds.length = n ∧ zs.length = m ∧ g (ds ++ zs) st2 (fun t st3 => k t en2 st3) (fun x st3 => e x en2 st3)) e) e
theorem dCall_mono {n m : Nat} (mg : MonoC g) (ma : MonoA tA) (mk : MonoA tB) : MonoE (dCall g n m tA tB) := fun _ _ _ _ _ _ hk he q => ma _ _ _ _ _ _ (fun _ _ _ z => mk _ _ _ _ _ _ (fun _ _ _ ⟨y1, y2, y3⟩ => ⟨y1, y2, mg _ _ _ _ _ _ (fun _ _ x => hk _ _ _ x) (fun _ _ x => he _ _ _ x) y3⟩) he z) he q
/-- what the arguments' readings leave -/
theorem call_args {n m : Nat} {σ : Sl} {H : Hp} {Q : VK} (mg : MonoC g) (ma : MonoA tA) (mk : MonoA tB) (h : tM B W (dCall g n m tA tB) σ H Q) : tMA B W tA σ H fun vs H1 => tMA B W tB σ H1 fun zs H2 => vs.length = n ∧ zs.length = m ∧
    ∃ F r en st ds, Rel B F r en st σ H2 ∧ Reps B F r ds (vs ++ zs) ∧ g ds st (fun t st' => Kpost B σ Q F r en H2 t en st') (fun x st' => Epost B σ W F r en H2 x en st') := by
  obtain ⟨F, r, en, st, R, q⟩ := h
  refine at_bindA (k := fun ds en1 st1 => tB en1 st1 (fun zs en2 st2 => ds.length = n ∧ zs.length = m ∧ g (ds ++ zs) st2 (fun t st3 => Kpost B σ Q F r en H t en2 st3) (fun x st3 => Epost B σ W F r en H x en2 st3)) (Epost B σ W F r en H)) ma R q fun ds en1 st1 F1 r1 H1 vs S1 R1 rep1 h1 => ?_
  refine at_bindA (k := fun zs en2 st2 => ds.length = n ∧ zs.length = m ∧ g (ds ++ zs) st2 (fun t st3 => Kpost B σ Q F r en H t en2 st3) (fun x st3 => Epost B σ W F r en H x en2 st3)) mk R1 (mk _ _ _ _ _ _ (fun _ _ _ z => z) (fun _ _ _ z => z.shift S1) h1) fun zs en2 st2 F2 r2 H2 us S2 R2 rep2 ⟨l1, l2, h2⟩ => ?_
  have S := S1.trans S2
  exact ⟨by rw [rep1.len]; exact l1, by rw [rep2.len]; exact l2, F2, r2, en2, st2, ds ++ zs, R2, Reps.app rep2 (rep1.step S2), mg _ _ _ _ _ _ (fun _ _ z => z.shift S) (fun _ _ z => z.shift S) h2⟩
theorem noStars {env : PySem.Env} : ∀ {es : List Expr}, (∀ e ∈ es, ∀ x p, e ≠ .Starred x p) → ∀ pos : Pos, (backTo pos (starEach es env)).any (·.1) = false
  | [], _, pos => rfl
  | e :: es, h, pos => by
    have ih := noStars (env := env) (es := es) (fun x hx => h x (List.mem_cons_of_mem _ hx)) pos
    rw [notStar_each (h e List.mem_cons_self)]
    exact ih
theorem noKw {env : PySem.Env} : ∀ {ks : List Keyword}, (∀ k ∈ ks, k.arg.isSome = true) → ∀ pos : Pos, (backToKw pos (keywordEach ks env)).all (·.1.isSome) = true ∧ (backToKw pos (keywordEach ks env)).any (·.1.isNone) = false ∧ (backToKw pos (keywordEach ks env)).filterMap (·.1) = ks.filterMap (·.arg)
  | [], _, pos => ⟨rfl, rfl, rfl⟩
  | ⟨nm, v, p⟩ :: ks, h, pos => by
    obtain ⟨i1, i2, i3⟩ := noKw (env := env) (ks := ks) (fun x hx => h x (List.mem_cons_of_mem _ hx)) pos
    have h0 := h _ List.mem_cons_self
    cases nm with
    | none => cases h0
    | some y =>
      refine ⟨i1, i2, ?_⟩
      show y :: (backToKw pos (keywordEach ks env)).filterMap (·.1) = y :: ks.filterMap (·.arg)
      rw [i3]
theorem de_call {x : Str} {p : Pos} {ks : List Str} (hc : CallOk B W X x es.length ks g) (hg : Gl X x) (hdb : (x == ("__debug__" : Str)) = false) (ha : DA B W X es tA) (hk : DK B W X kws tB) (hs : ∀ e ∈ es, ∀ x p, e ≠ .Starred x p)
    (hkn : ∀ k ∈ kws, k.arg.isSome = true) (hks : kws.filterMap (·.arg) = ks) (h0 : es = [] → tA = dNil) : DE B W X (.Call (.Name x p) es kws pos) (dCall g es.length ks.length tA tB) := by
  refine ⟨dCall_mono hc.mono ha.mono hk.mono, ⟨fun pins s σ H Q I h => ?_⟩⟩
  have h' := call_args hc.mono ha.mono hk.mono h
  obtain ⟨fa, hm, hkeep, run⟩ := hc.run
  obtain ⟨k1, k2, k3⟩ := noKw (env := X.env) hkn pos
  refine wpAny_Call_Name_kw (ld_glob I hg hm ?_ hdb)
  cases es with
  | nil =>
    rw [h0 rfl] at h'
    obtain ⟨F0, r0, en0, st0, R0, q0⟩ := h'
    have q1 := q0 F0 r0 H [] Step.refl R0 rfl
    refine PySem.W.callWith_KW0 (h₀ := X.base) I.ok.mod.kin hkeep k1 ?_ (by rw [k2]; rfl)
    refine thn (hk.run.run pos pins s σ H _ I q1) fun ws s2 ⟨zs, H2, I2, r2, l1, l2, F, r, en, st, ds, R, rep, q2⟩ => ⟨I2.kIn, ?_⟩
    rw [k3, hks]
    exact run pins σ H2 s2 Q [] ws [] zs F r en st ds I2 .nil r2 l1 l2 R rep q2
  | cons e0 er =>
    refine PySem.W.callWith_KW (h₀ := X.base) I.ok.mod.kin hkeep k1 (thn (ha.run.run pos pins s σ H _ I h') fun us s1 ⟨vs, H1, I1, r1, q1⟩ => ?_) (by rw [noStars hs, k2]; rfl) (notStar_each (hs e0 List.mem_cons_self))
    refine thn (hk.run.run pos pins s1 σ H1 _ I1 q1) fun ws s2 ⟨zs, H2, I2, r2, l1, l2, F, r, en, st, ds, R, rep, q2⟩ => ⟨I2.kIn, ?_⟩
    rw [k3, hks]
    exact run pins σ H2 s2 Q us ws vs zs F r en st ds I2 r1 r2 l1 l2 R rep q2
/-! ### a thing becomes a box -/
def dBox (te : DTE) : DTE := fun en st k e => te en st (fun x en1 st1 => match x with
  | .o d => k (.v (.box st1.length)) en1 (st1 ++ [d])
  | _ => False) e
theorem Rel.box {F : Hp} {r : List Addr} {en en0 : En} {st : List D} {σ : Sl} {H H0 : Hp} {F0 : Hp} {r0 : List Addr} {d : D} {v : V} (S : Step σ en0 F0 r0 H0 σ en F r H) (R : Rel B F r en st σ H) (t : TRep B F r H σ en H0 en0 (.o d) v) :
    ∃ r', Step σ en0 F0 r0 H0 σ en F r' H ∧ Rel B F r' en (st ++ [d]) σ H ∧ Rep B F r' (.box st.length) v := by
  obtain ⟨a, rfl, ⟨q1, q2, o, q3, q4⟩, q5, q6⟩ := t
  have pr : Pre r (r ++ [a]) := ⟨[a], rfl⟩
  refine ⟨r ++ [a], ⟨S.keep, S.there, S.grow, ?_, S.new, S.owns⟩, ⟨⟨R.w.sub, R.w.tab, ?_, ?_, fun n b x e1 e2 => ?_⟩, fun i x e => ?_, fun i x e => ?_, R.dis, R.len, fun i x e => ?_⟩, a, ?_, rfl⟩
  · obtain ⟨t, e1, e2⟩ := S.pre
    refine ⟨t ++ [a], by rw [e1, List.append_assoc], fun b hb => ?_⟩
    rcases List.mem_append.mp hb with z | z
    · exact e2 b z
    · rw [List.mem_singleton] at z
      rw [z]
      exact q6
  · rw [List.nodup_append]
    refine ⟨R.w.nd, by simp, fun b hb b' hb' => ?_⟩
    rw [List.mem_singleton] at hb'
    rw [hb']
    intro z
    exact q2 (z ▸ hb)
  · rw [List.length_append, List.length_append, R.w.len]
    rfl
  · by_cases hn : n < r.length
    · rw [List.getElem?_append_left hn] at e1
      rw [List.getElem?_append_left (by rw [R.w.len]; exact hn)] at e2
      obtain ⟨g1, u, g2, g3⟩ := R.w.box n b x e1 e2
      exact ⟨g1, u, g2, g3.mono (Sub.refl _) pr⟩
    · have hn' : n = r.length := by
        have := (List.getElem?_eq_some_iff.mp e1).1
        rw [List.length_append] at this
        have l1 : [a].length = 1 := rfl
        omega
      subst hn'
      rw [List.getElem?_append_right (Nat.le_refl _)] at e1
      rw [List.getElem?_append_right (by rw [R.w.len]; exact Nat.le_refl _)] at e2
      rw [Nat.sub_self] at e1
      rw [R.w.len, Nat.sub_self] at e2
      cases e1; cases e2
      exact ⟨q1, o, q3, q4.mono (Sub.refl _) pr⟩
  · obtain ⟨w, f1, f2⟩ := R.val i x e
    exact ⟨w, f1, f2.mono (Sub.refl _) pr⟩
  · obtain ⟨b, f1, g1, g2, u, g3, g4⟩ := R.own i x e
    refine ⟨b, f1, g1, fun z => ?_, u, g3, g4.mono (Sub.refl _) pr⟩
    rcases List.mem_append.mp z with z | z
    · exact g2 z
    · rw [List.mem_singleton] at z
      exact q5 ⟨i, x, e, z ▸ f1⟩
  · obtain ⟨b, c, dd, f1, f2, f3⟩ := R.exc i x e
    exact ⟨b, c, dd, f1, f2, f3.mono (Sub.refl _) pr⟩
  · rw [R.w.len, List.getElem?_append_right (Nat.le_refl _), Nat.sub_self]
    rfl
theorem dBox_mono (m : MonoE te) : MonoE (dBox te) := fun _ _ _ _ _ _ hk he q => m _ _ _ _ _ _ (fun x _ _ z => by
  cases x with
  | o d => exact hk _ _ _ z
  | v d => exact z.elim
  | e x => exact z.elim) he q
theorem de_box (h : DE B W X e te) : DE B W X e (dBox te) := by
  refine ⟨dBox_mono h.mono, PE.weak h.run fun σ H Q ⟨F, r, en, st, R, q⟩ => ⟨F, r, en, st, R, h.mono _ _ _ _ _ _ (fun x n s z => ?_) (fun _ _ _ z => z) q⟩⟩
  intro F' r' H' v S R' t
  cases x with
  | v d => exact z.elim
  | e x => exact z.elim
  | o d =>
    obtain ⟨r2, S2, R2, p2⟩ := Rel.box S R' t
    exact z F' r2 H' v S2 R2 p2
/-! ### comprehensions -/
theorem de_lc {elt iter : Expr} {ifs : List Expr} {scope : Scope} {own : List (Str × Nat)} {ti : DTI} {ct : CT} {cc : DTT} (hK : X.K = B.K) (hc : X.calm = true) (hN : X.N.Nodup) (hi : DI B W X tg iter ti) (ok : BlkOk X.N X.env.scope scope own) (mc : MonoT cc) (me : MonoE te) (hv : ∀ i ∈ ct.slots, i ∈ own.map (·.2))
    (hg : ∀ (s : Shared) (H : Hp) (C : Addr) (cl : List (Str × Addr)) (fp : List Addr), PG (X.blk s H scope (compEnvC scope cl C X.env) fp) tg (tCT B.K ct))
    (ht : ∀ (s : Shared) (H : Hp) (C : Addr) (cl : List (Str × Addr)) (fp : List Addr), PTs (X.blk s H scope (compEnvC scope cl C X.env) fp) ifs (tMT B W0 cc))
    (he : ∀ (s : Shared) (H : Hp) (C : Addr) (cl : List (Str × Addr)) (fp : List Addr), PE (X.blk s H scope (compEnvC scope cl C X.env) fp) elt (tM B W0 te))
    (hs : ∀ x, foldedSetIterable iter X.env x = pure x) : DE B W X (.ListComp elt [⟨tg, iter, ifs, 0⟩] scope pos) (dLc ti ct cc te (own.map (·.2))) :=
  ⟨dLc_mono hi.mono mc me, PE.weak (pe_lc hc hN hi.run ok hg ht he hs) fun σ H Q h => lc_read hv hi.mono mc me h⟩
theorem ds_setLc {i : Nat} {y : Str} {py spos : Pos} {elt iter : Expr} {ifs : List Expr} {scope : Scope} {own : List (Str × Nat)} {ti : DTI} {ct : CT} {cc : DTT} (hK : X.K = B.K) (hc : X.calm = true) (hN : X.N.Nodup) (hy : X.N[i]? = some y) (hyl : X.env.scope.names.lookup y = some .local)
    (hsw : swapsWith (.ListComp elt [⟨tg, iter, ifs, 0⟩] scope pos) (some (.Name y py)) spos.line X.env = pure true) (hi : DI B W X tg iter ti) (ok : BlkOk X.N X.env.scope scope own) (mc : MonoT cc) (me : MonoE te) (hv : ∀ i ∈ ct.slots, i ∈ own.map (·.2))
    (hg : ∀ (s : Shared) (H : Hp) (C : Addr) (cl : List (Str × Addr)) (fp : List Addr), PG (X.blk s H scope (compEnvC scope cl C X.env) fp) tg (tCT B.K ct))
    (ht : ∀ (s : Shared) (H : Hp) (C : Addr) (cl : List (Str × Addr)) (fp : List Addr), PTs (X.blk s H scope (compEnvC scope cl C X.env) fp) ifs (tMT B W0 cc))
    (he : ∀ (s : Shared) (H : Hp) (C : Addr) (cl : List (Str × Addr)) (fp : List Addr), PE (X.blk s H scope (compEnvC scope cl C X.env) fp) elt (tM B W0 te))
    (hs : ∀ x, foldedSetIterable iter X.env x = pure x) : DS B W X (.Assign [.Name y py] (.ListComp elt [⟨tg, iter, ifs, 0⟩] scope pos) spos) (dSet i (dLc ti ct cc te (own.map (·.2)))) :=
  ⟨dSet_mono (dLc_mono hi.mono mc me), PS.weak (ps_setLc hc hN hy hyl hsw hi.run ok hg ht he hs) fun D σ H h => lc_read hv hi.mono mc me (set_read (dLc_mono hi.mono mc me) h)⟩
end
end Ev
set_option Elab.async false
set_option linter.all false
set_option autoImplicit false
set_option maxRecDepth 100000
/-! Ev, part Ks: set(x) of a list of ints; sorted(set(x)). -/
namespace Ev
open PySem PySem.Spec PyProof.Rows L2
abbrev eSet (w : PySem.World) : Obj := { cls := .type "set", dict := none, data := .set #[] 0 (.fresh 0 0 (!w.params.followText "set-order")) }
section
variable {P : Program} {w : PySem.World} {A : Around} {E : Value → Shared → Prop} {sh : Shared}
set_option maxHeartbeats 3200000 in
theorem call_set_lst {la : Addr} {its : Array Value} (ns : List Int) {Q : Value → Shared → Prop} (hd0 : A.handled = none) (hL : sh.heap.IsList la its) (hint : IntsAre its.toList ns) (hb : ns.length + 1 < scanBound)
    (h : ∀ (h' : Heap) (tk c : Nat), SetR w h' sh.heap.objs.size (fun j => decide (j ∈ ns)) c → c ≤ ns.length → (∀ b o, sh.heap.get? b = some o → h'.get? b = some o) → Q (.ref sh.heap.objs.size) { sh with heap := h', toks := tk }) :
    wpAny (model P w) A (call (.type "set") [.ref la]) Q E sh := by
  have isz : its.size = ns.length := by
    have q := IntsAre.length hint
    rw [Array.length_toList] at q
    exact q
  obtain ⟨c, tl, zmro⟩ := F.called_set.mro
  have zmade := F.called_set.made
  have zsub := F.called_set.sub
  refine wpAny_call (codeAny_of_tree ?_)
  show wpAny _ _ (callAny (.type "set") _) _ _ _
  refine wpAny_pure ⟨Code.quiet_builtin _ (by decide +kernel), codeAny_builtin F.entry_type_call ?_⟩
  rw [Around.under_plain (weight_type_call_type "set" [.ref la] []) rfl]
  have z1 := F.called_set.notType
  have z2 := F.called_set.canCreate
  have zct := F.typeCall_set_1 (.ref la)
  repeat (any_goals (first | assumption | wp_step))

  refine codeAny_mono (code_set_led1 (.ref la) (E := E) (Q₁ := fun ob sh1 => ob = .ref sh.heap.objs.size ∧ sh1 = { sh with heap := sh.heap.push (eSet w) }) ⟨rfl, rfl⟩) fun r sh1 yr => ?_
  cases r with
  | error e => exact yr
  | ok fw =>
    cases fw with
    | ret ob =>
      obtain ⟨rfl, rfl⟩ := yr
      have yS : (sh.heap.push (eSet w)).get? sh.heap.objs.size = some (eSet w) := Heap.get?_push_size _ rfl
      have yT : Shared.TypeIs { sh with heap := sh.heap.push (eSet w) } (.ref sh.heap.objs.size) "set" := ⟨_, yS, rfl⟩
      have yli := F.called_set.init.lookup
      have ybi := F.called_set.init.bind (.ref sh.heap.objs.size)
      repeat (any_goals (first | assumption | wp_step))

      refine codeAny_mono (codeAny_call_builtin (R := wants (fun r sh2 => r = .none ∧ ∃ h' tk c, sh2 = { sh with heap := h', toks := tk } ∧ SetR w h' sh.heap.objs.size (fun j => decide (j ∈ ns)) c ∧ c ≤ ns.length ∧
          (∀ b o, sh.heap.get? b = some o → h'.get? b = some o)) E) F.called_set.init.plain F.entry_set_init (check_set_init_1 yT ?_)) fun rr sh2 yr2 => ?_
      · obtain ⟨ol, yol, ycl, nl, ydl⟩ := hL
        obtain ⟨ocls, odict, odata, oslots⟩ := ol
        simp only at ycl ydl
        subst ycl; subst ydl
        have yol' : (sh.heap.push (eSet w)).get? la = some { cls := .type "list", dict := odict, data := .seq its nl, slots := oslots } := Heap.get?_push_of_some _ yol
        have ysls := F.sub_list_set
        have yslf := F.sub_list_frozenset
        have yne : (Value.type "list" == Value.type "dict") = false := by decide
        have yl1 : (sh.heap.push (eSet w)).IsList la its := ⟨_, yol', rfl, nl, rfl⟩
        unfold Builtin.«set.__init__» noKeywords Builtin.Frozenset.updateFrom
        generalize yPI : pyIter = PJ
        wp_walk
        subst yPI

        refine wpAny_pyIter_list yl1 ?_
        refine wpAny_bind (wpAny_runValue ?_)
        have ylS : la < sh.heap.objs.size := Heap.lt_size yol
        have yh3 : A.in1.in1.in1.handled = none := by simp [hd0]
        have hz1 : (sh.heap.push (eSet w)).objs.size = sh.heap.objs.size + 1 := Heap.size_push ..
        have yneI : la ≠ (sh.heap.push (eSet w)).objs.size := by
          rw [Heap.size_push]; exact Nat.ne_of_lt (Nat.lt_succ_of_lt ylS)
        have ySf : sh.heap.objs.size ∉ [(sh.heap.push (eSet w)).objs.size, la] := by
          rw [Heap.size_push]; simp only [List.mem_cons, List.mem_singleton, List.not_mem_nil, or_false, not_or]
          exact ⟨Nat.ne_of_lt (Nat.lt_succ_self _), Nat.ne_of_gt ylS⟩
        have yval : ∀ (i : Nat) (v : Value), its[i]? = some v → ∃ k t, ns[i]? = some k ∧ v = .int k t := fun i v hv => by
          have hi : i < ns.length := by rw [← isz]; exact (Array.getElem?_eq_some_iff.mp hv).1
          obtain ⟨t, e⟩ := PyProof.Rows.IntsAre.int_at hint i v (by rw [Array.getElem?_toList]; exact hv)
          refine ⟨ns[i], t, List.getElem?_eq_getElem hi, ?_⟩
          rw [e, List.getD_eq_getElem?_getD, List.getElem?_eq_getElem hi] <;> rfl
        refine set_update_ints ((Walks.list yh3 _ la yneI its).toS) sh.heap.objs.size
          ySf ns isz hb yval (its.size - 0) 0 _ (by omega) (Nat.zero_le _)
          ⟨⟨_, Heap.get?_push_size _ rfl, rfl, rfl⟩, (yl1.push _)⟩ ?hS0 ?hR
        case hS0 =>
          have yget : ((sh.heap.push (eSet w)).push { cls := .type "list_iterator", data := .fields #[.ref la, .int 0 0] }).get? sh.heap.objs.size
              = some (eSet w) := Heap.get?_push_of_some _ yS
          exact ⟨0, Nat.le_refl 0, setR_new_at yget⟩
        case hR =>
          intro sh' c' ym yc' yS'
          obtain ⟨h', g2, d', tk', os'⟩ := sh'
          have eg1 : g2 = sh.gens := ym.gens
          have ed1 : d' = sh.drawn := ym.drawn
          have eo1 : os' = sh.os := ym.os
          subst eg1; subst ed1; subst eo1
          show wpAny _ _ _ _ _ _
          refine wpAny_pure ?_
          show wpAny _ _ (ret Value.none) _ _ _
          rw [isz] at yc'
          refine wpAny_pure ⟨rfl, h', tk', c', rfl, yS', yc', fun b o e => ?_⟩
          have yb0 : b < sh.heap.objs.size := Heap.lt_size e
          have yb1 : b ≠ sh.heap.objs.size := Nat.ne_of_lt yb0
          have yb2 : b ≠ (sh.heap.push (eSet w)).objs.size := by
            rw [Heap.size_push]; exact Nat.ne_of_lt (Nat.lt_succ_of_lt yb0)
          exact ym.heap b o (by simp only [List.mem_cons, List.mem_singleton, List.not_mem_nil, or_false, not_or]; exact ⟨yb1, yb2⟩) (Heap.get?_push_of_some _ (Heap.get?_push_of_some _ e))

      · cases rr with
        | error e => exact yr2
        | ok fw2 =>
          cases fw2 with
          | ret r =>
            obtain ⟨rfl, h', tk, c', rfl, yS', yc', hk'⟩ := yr2
            repeat (any_goals (first | assumption | wp_step))
            exact h _ _ _ yS' yc' hk'
          | _ => exact yr2.elim
    | _ => exact yr.elim

end
end Ev
set_option Elab.async false
set_option linter.all false
set_option autoImplicit false
set_option maxRecDepth 100000
/-! Ev, part Ks: sorted(set(x)) of a list of ints. -/
namespace Ev
open PySem PySem.Spec PyProof.Rows L2
def oSset : OpN
  | [.lst xs], k => ∃ ns us : List Int, xs = ns.map D.int ∧ ns.length + 1 < scanBound ∧ us.length < 64 ∧ (∀ i ∈ ns, i ∈ us) ∧ ∀ ms : List Int, ms.Pairwise (· < ·) → (∀ i, i ∈ ms ↔ i ∈ ns) → k (.o (.lst (ms.map D.int)))
  | _, _ => False
theorem mono_oSset : MonoN oSset := fun x k k' hk h => by
  unfold oSset at h ⊢
  split at h
  · obtain ⟨ns, us, e1, e2, e3, e4, e5⟩ := h
    exact ⟨ns, us, e1, e2, e3, e4, fun ms h1 h2 => hk _ (e5 ms h1 h2)⟩
  · exact h.elim
theorem nodup_le {l : List Int} : ∀ {us : List Int}, l.Nodup → (∀ i ∈ l, i ∈ us) → l.length ≤ us.length := by
  induction l with
  | nil => intro us _ _; exact Nat.zero_le _
  | cons a l ih =>
    intro us hn hs
    have ha := hs a List.mem_cons_self
    have hn' := List.nodup_cons.mp hn
    have h1 := ih (us := us.erase a) hn'.2 fun i hi => by
      have ne : i ≠ a := fun z => hn'.1 (z ▸ hi)
      exact (List.mem_erase_of_ne ne).mpr (hs i (List.mem_cons_of_mem _ hi))
    rw [List.length_erase_of_mem ha] at h1
    have := List.length_pos_of_mem ha
    show l.length + 1 ≤ _
    omega
theorem setR_le {w : PySem.World} {h : Heap} {a : Addr} {S : Int → Bool} {n : Nat} {us : List Int} (R : SetR w h a S n) (hs : ∀ i, S i = true → i ∈ us) : n ≤ us.length := by
  obtain ⟨o, es, ep, t, _, _, _, _, nd, hm, _, _, hn, _, _⟩ := R
  have q := nodup_le nd fun i hi => hs i ((hm i).mpr hi)
  rw [List.length_map, Array.length_toList] at q
  omega
theorem de_sset {B : Bg} {W : WX} {X : Cx} {e : Expr} {te : DTE} {p p2 q pos : Pos} (hc : X.calm = true) (hg : Gl X "sorted") (hm : X.mg "sorted" = none) (hg2 : Gl X "set") (hm2 : X.mg "set" = none) (h : DE B W X e te) (hs : ∀ x p, e ≠ .Starred x p) :
    DE B W X (.Call (.Name "sorted" p) [.Call (.Name "set" p2) [e] [] q] [] pos) (dCB oSset (dCons te dNil)) := by
  have na : starEach [e] X.env = (false, eval e X.env) :: starEach [] X.env := notStar_each hs
  refine ⟨dCB_mono mono_oSset (dCons_mono h.mono dNil_mono), ⟨fun pins s σ H Q I hq => ?_⟩⟩
  obtain ⟨F, r, en, st, R, hq⟩ := hq
  have hq' : te en st (fun x en1 st1 => oSset [x.d] fun t => Kpost B σ Q F r en H t en1 st1) (Epost B σ W F r en H) := hq
  have hb := at_bind (k := fun d _ en1 st1 => oSset [d] fun t => Kpost B σ Q F r en H t en1 st1) (Q := fun v H1 => ∃ F1 r1 en1 st1 d, Rel B F1 r1 en1 st1 σ H1 ∧ Rep B F1 r1 d v ∧ oSset [d] fun t => Kpost B σ Q F1 r1 en1 H1 t en1 st1) h.mono R hq' fun d en1 st1 F1 r1 H1 v S1 R1 rep1 h1 => ⟨F1, r1, en1, st1, d, R1, rep1, mono_oSset _ _ _ (fun t z => z.shift S1) h1⟩
  refine Call_ (ld_blt I hg hm boot_sorted ?_)
  refine PyProof.Rows.callWith_builtin1 (PyProof.Rows.args_cons ?_ rfl) rfl rfl
  refine Call_ (ld_blt I hg2 hm2 PyProof.Rows.boot_set ?_)
  refine PyProof.Rows.callWith_type1 (PyProof.Rows.args_cons (thn (h.run.run pins s σ H _ I hb) fun v s1 ⟨x, H1, I1, r1, q1⟩ => PyProof.Rows.args_nil ?_) na) na rfl
  obtain ⟨F1, rr, en1, st1, d, R1, rep1, h1⟩ := q1
  unfold oSset at h1
  split at h1
  · rename_i xs0 kk xs ed
    have ed' := (List.cons.inj ed).1
    subst ed'
    obtain ⟨ns, us, e1, e2, e3, e4, h1⟩ := h1
    subst e1
    obtain ⟨a, ws, rfl, ea, wr⟩ := rep1
    have ew := reps_ints_inv wr
    subst ew
    cases r1
    obtain ⟨its, rv, pl, hz⟩ := I1.list (SqL.of (R1.w.sub _ _ ea))
    refine call_set_lst ns (I1.ok.hd hc) pl.isList (by simpa using rv.ints) e2 fun h' tk c RS hcn hk => ?_
    refine PyProof.Rows.args_nil ?_
    have hf : H1 s1.heap.objs.size = none := I1.hok.fresh (Nat.le_refl _)
    have I2 := I1.laid (t' := tk) (h' := h') hk (Nat.le_refl _) (setO_new RS)
    have hlt : c < 64 := Nat.lt_of_le_of_lt (setR_le RS fun i hi => e4 i (of_decide_eq_true hi)) e3
    refine cr_sortedSet hc pins _ σ _ [.ref s1.heap.objs.size] [.ref s1.heap.objs.size] Q I2 (.cons rfl .nil) ⟨_, _, c, rfl, upd_same, hlt, fun ms p2 hp hmem _ hn => ?_⟩
    have S2 : Step σ en1 F1 rr H1 σ en1 F1 rr (upd H1 s1.heap.objs.size (SetO X.w s1.heap.objs.size (fun j => decide (j ∈ ns)) c)) := Step.alloc hf
    exact kp_new ((h1 ms hp fun i => (hmem i).trans ⟨of_decide_eq_true, decide_eq_true⟩).shift S2) (R1.alloc hf) hn ⟨_, rfl, reps_ints ms⟩
  · exact h1.elim
end Ev
set_option Elab.async false
set_option linter.all false
set_option autoImplicit false
set_option maxRecDepth 100000
/-! Ev, part Kp: x, y = a, b and x, y, z = a, b, c: things stay one's own. -/
namespace Ev
open PySem PySem.Spec PyProof.Rows L2
abbrev KAT := List T → En → List D → Prop
abbrev DTAT := En → List D → KAT → KX → Prop
def MonoAT (t : DTAT) : Prop := ∀ (en : En) (st : List D) (k k' : KAT) (e e' : KX), (∀ x n s, k x n s → k' x n s) → (∀ x n s, e x n s → e' x n s) → t en st k e → t en st k' e'
def dNilT : DTAT := fun en st k _ => k [] en st
def dConsT (te : DTE) (ta : DTAT) : DTAT := fun en st k e => te en st (fun x en1 st1 => ta en1 st1 (fun xs en2 st2 => k (x :: xs) en2 st2) e) e
theorem dNilT_mono : MonoAT dNilT := fun _ _ _ _ _ _ hk _ h => hk _ _ _ h
theorem dConsT_mono {te : DTE} {ta : DTAT} (m : MonoE te) (m' : MonoAT ta) : MonoAT (dConsT te ta) := fun _ _ _ _ _ _ hk he h => m _ _ _ _ _ _ (fun _ _ _ z => m' _ _ _ _ _ _ (fun _ _ _ y => hk _ _ _ y) he z) he h
/-- a value on the way, seen from a state before -/
def GRep (B : Bg) (F : Hp) (r : List Addr) (H : Hp) (σ : Sl) (en : En) (σ0 : Sl) (en0 : En) (H0 : Hp) : T → V → Prop
  | .v d, v => Rep B F r d v
  | .o d, v => ∃ a, v = .ref a ∧ Own B F r H d a ∧ ¬ OwnAt σ en a ∧ (H0 a = none ∨ OwnAt σ0 en0 a)
  | .e _, _ => False
def ownsAt : List T → List V → Addr → Prop
  | .o _ :: xs, v :: vs, a => v = .ref a ∨ ownsAt xs vs a
  | .v _ :: xs, _ :: vs, a => ownsAt xs vs a
  | _, _, _ => False
def GReps (B : Bg) (F : Hp) (r : List Addr) (H : Hp) (σ : Sl) (en : En) (σ0 : Sl) (en0 : En) (H0 : Hp) : List T → List V → Prop
  | [], vs => vs = []
  | x :: xs, vs => ∃ v t, vs = v :: t ∧ GRep B F r H σ en σ0 en0 H0 x v ∧ (∀ d a, x = .o d → v = .ref a → ¬ ownsAt xs t a) ∧ GReps B F r H σ en σ0 en0 H0 xs t
section
variable {B : Bg} {W : WX} {X : Cx} {σ σ0 : Sl} {en en0 en1 : En} {F F0 F1 : Hp} {r r0 r1 : List Addr} {H H0 H1 : Hp} {st : List D} {e : Expr} {es : List Expr} {te : DTE} {ta : DTAT}
theorem TRep.keep {x : T} {v : V} (S : Step σ en F r H σ en1 F1 r1 H1) (t : TRep B F r H σ en H0 en0 x v) : GRep B F1 r1 H1 σ en1 σ en0 H0 x v := by
  cases x with
  | v d => exact Rep.step t S
  | o d =>
    obtain ⟨a, rfl, ⟨q1, q2, o, q3, q4⟩, q5, q6⟩ := t
    refine ⟨a, rfl, ⟨?_, ?_, o, S.keep a o q3 q2 q5 q4.nt, q4.mono S.grow S.prx⟩, fun z => ?_, q6⟩
    · cases z : F1 a with
      | none => rfl
      | some u =>
        rcases S.new a u z with y | y | y
        · rw [q1] at y; cases y
        · rw [q3] at y; cases y
        · exact absurd y q5
    · obtain ⟨t, rfl, ht⟩ := S.pre
      intro z
      rcases List.mem_append.mp z with z | z
      · exact q2 z
      · rcases ht a z with y | y
        · rw [q3] at y; cases y
        · exact q5 y
    · rcases S.owns a z with y | y
      · exact q5 y
      · rw [q3] at y; cases y
  | e x => exact t.elim
theorem GRep.shift {F' : Hp} {r' : List Addr} {H' : Hp} {en' : En} {x : T} {v : V} (S : Step σ en F r H σ en1 F1 r1 H1) (t : GRep B F' r' H' σ en' σ en1 H1 x v) : GRep B F' r' H' σ en' σ en H x v := by
  cases x with
  | v d => exact t
  | o d =>
    obtain ⟨a, e, q1, q2, q3⟩ := t
    refine ⟨a, e, q1, q2, ?_⟩
    rcases q3 with q | q
    · exact .inl (S.there a q)
    · exact (S.owns a q).symm
  | e x => exact t.elim
theorem GReps.shift {F' : Hp} {r' : List Addr} {H' : Hp} {en' : En} (S : Step σ en F r H σ en1 F1 r1 H1) : ∀ {xs : List T} {vs : List V}, GReps B F' r' H' σ en' σ en1 H1 xs vs → GReps B F' r' H' σ en' σ en H xs vs
  | [], vs, h => h
  | x :: xs, vs, ⟨v, t, e, h1, h2, h3⟩ => ⟨v, t, e, h1.shift S, h2, h3.shift S⟩
theorem GReps.orig {a : Addr} : ∀ {xs : List T} {vs : List V}, GReps B F r H σ en σ0 en0 H0 xs vs → ownsAt xs vs a → H0 a = none ∨ OwnAt σ0 en0 a
  | [], vs, h, o => by cases h; exact o.elim
  | .e x :: xs, vs, ⟨v, t, e, h1, h2, h3⟩, o => h1.elim
  | .v d :: xs, vs, ⟨v, t, e, h1, h2, h3⟩, o => by
    subst e
    exact h3.orig o
  | .o d :: xs, vs, ⟨v, t, e, h1, h2, h3⟩, o => by
    subst e
    rcases o with o | o
    · obtain ⟨b, e1, _, _, q⟩ := h1
      rw [o] at e1
      cases e1
      exact q
    · exact h3.orig o
theorem GReps.len : ∀ {xs : List T} {vs : List V}, GReps B F r H σ en σ0 en0 H0 xs vs → vs.length = xs.length
  | [], vs, h => by cases h; rfl
  | x :: xs, vs, ⟨v, t, e, h1, h2, h3⟩ => by
    subst e
    exact congrArg Nat.succ h3.len
def ApostT (B : Bg) (σ : Sl) (Q : List V → Hp → Prop) (F : Hp) (r : List Addr) (en : En) (H : Hp) : KAT := fun xs en' st' =>
  ∀ F' r' H' vs, Step σ en F r H σ en' F' r' H' → Rel B F' r' en' st' σ H' → GReps B F' r' H' σ en' σ en H xs vs → Q vs H'
def tMAT (B : Bg) (W : WX) (t : DTAT) : TA := fun σ H Q => ∃ F r en st, Rel B F r en st σ H ∧ t en st (ApostT B σ Q F r en H) (Epost B σ W F r en H)
structure DAT (B : Bg) (W : WX) (X : Cx) (es : List Expr) (t : DTAT) : Prop where
  mono : MonoAT t
  run : PA X es (tMAT B W t)
theorem dat_nil : DAT B W X [] dNilT := ⟨dNilT_mono, PA.weak pa_nil fun σ H Q ⟨F, r, en, st, R, q⟩ => q F r H [] Step.refl R rfl⟩
theorem dat_cons (h : DE B W X e te) (h' : DAT B W X es ta) (hs : ∀ x p, e ≠ .Starred x p) : DAT B W X (e :: es) (dConsT te ta) := by
  refine ⟨dConsT_mono h.mono h'.mono, PA.weak (pa_cons h.run h'.run (notStar_each hs)) fun σ H Q ⟨F, r, en, st, R, q⟩ => ?_⟩
  refine ⟨F, r, en, st, R, h.mono _ _ _ _ _ _ (fun x en1 st1 h1 => ?_) (fun _ _ _ z => z) q⟩
  intro F1 r1 H1 v S1 R1 t1
  refine ⟨F1, r1, en1, st1, R1, h'.mono _ _ _ _ _ _ (fun xs en2 st2 z => ?_) (fun _ _ _ z => z.shift S1) h1⟩
  intro F2 r2 H2 vs S2 R2 ts2
  refine z F2 r2 H2 (v :: vs) (S1.trans S2) R2 ⟨v, vs, rfl, t1.keep S2, fun d a e1 e2 o => ?_, ts2.shift S1⟩
  subst e1 e2
  obtain ⟨b, e, ⟨_, _, u, q3, _⟩, q5, _⟩ := t1
  cases e
  rcases ts2.orig o with y | y
  · rw [q3] at y; cases y
  · exact q5 y
/-- a slot is stored, seen from a state before -/
theorem Rel.setG {i : Nat} {x : T} {v : V} (S : Step σ0 en0 F0 r0 H0 σ en F r H) (R : Rel B F r en st σ H) (t : GRep B F r H σ en σ0 en0 H0 x v) :
    Step σ0 en0 F0 r0 H0 (σ.set i (some v)) (en.set i (some x)) F r H ∧ Rel B F r (en.set i (some x)) st (σ.set i (some v)) H := by
  by_cases hi : i < σ.length
  · have hie : i < en.length := by rw [R.len]; exact hi
    constructor
    · refine ⟨S.keep, S.there, S.grow, S.pre, S.new, fun a ⟨j, z⟩ => ?_⟩
      rcases own_set z with ⟨_, z⟩ | ⟨_, d, e1, e2⟩
      · exact S.owns a ⟨j, z⟩
      · cases e1
        cases e2
        obtain ⟨a', e, _, _, q⟩ := t
        cases e
        exact q.symm
    · -- the state alone: as from a heap in which nothing stood
      have tt : TRep B F r H σ en (fun _ => none) en x v := by
        cases x with
        | v d => exact t
        | o d =>
          obtain ⟨a, e, q1, q2, _⟩ := t
          exact ⟨a, e, q1, q2, .inl rfl⟩
        | e x => exact t.elim
      have SS : Step σ en (fun _ => none) [] (fun _ => none) σ en F r H := ⟨fun a o e => (nomatch e), fun _ _ => rfl, fun a o e => (nomatch e), ⟨r, rfl, fun _ _ => .inl rfl⟩, fun _ _ _ => .inr (.inl rfl), fun _ _ => .inr rfl⟩
      exact (Rel.set SS R tt hi).2
  · rw [set_far hi, set_far (by rw [R.len]; exact hi)]
    exact ⟨S, R⟩
theorem GReps.setOne {i : Nat} {x : T} {v : V} : ∀ {xs : List T} {vs : List V}, GReps B F r H σ en σ0 en0 H0 xs vs → (∀ d a, x = .o d → v = .ref a → ¬ ownsAt xs vs a) → GReps B F r H (σ.set i (some v)) (en.set i (some x)) σ0 en0 H0 xs vs
  | [], vs, h, _ => h
  | y :: xs, vs, ⟨u, t, e, h1, h2, h3⟩, hn => by
    subst e
    refine ⟨u, t, rfl, ?_, h2, h3.setOne fun d a e1 e2 o => hn d a e1 e2 ?_⟩
    · cases y with
      | v d => exact h1
      | o d =>
        obtain ⟨a, e, q1, q2, q3⟩ := h1
        refine ⟨a, e, q1, fun ⟨j, z⟩ => ?_, q3⟩
        rcases own_set z with ⟨_, z⟩ | ⟨_, d', e1, e2⟩
        · exact q2 ⟨j, z⟩
        · cases e1
          cases e2
          exact hn _ a rfl rfl (.inl e)
      | e x => exact h1.elim
    · cases y with
      | v d' => exact o
      | o d' => exact .inr o
      | e x => exact h1.elim
def setsT : List Nat → List T → En → En
  | i :: is, x :: xs, en => setsT is xs (en.set i (some x))
  | _, _, en => en
theorem sets_relG : ∀ {is : List Nat} {xs : List T} {ws : List V} {σ : Sl} {en : En}, Step σ0 en0 F0 r0 H0 σ en F r H → Rel B F r en st σ H → GReps B F r H σ en σ0 en0 H0 xs ws → xs.length = is.length →
    ∃ σ', σ' = (List.zip is ws).foldl (fun s p => s.set p.1 (some p.2)) σ ∧ Step σ0 en0 F0 r0 H0 σ' (setsT is xs en) F r H ∧ Rel B F r (setsT is xs en) st σ' H
  | [], [], ws, σ, en, S, R, p, _ => ⟨σ, by cases p; rfl, S, R⟩
  | i :: is, x :: xs, ws, σ, en, S, R, p, hl => by
    obtain ⟨v, t, e, p1, p2, p3⟩ := p
    subst e
    obtain ⟨S1, R1⟩ := Rel.setG (i := i) S R p1
    exact sets_relG (is := is) (xs := xs) (ws := t) S1 R1 (p3.setOne p2) (Nat.succ.inj hl)
def dPar (is : List Nat) (ta : DTAT) : DTS := fun en st P => ta en st (fun xs en1 st1 => xs.length = is.length ∧ P.nx (setsT is xs en1) st1) P.ex
theorem dPar_mono {is : List Nat} (m : MonoAT ta) : MonoS (dPar is ta) := fun _ _ _ _ h q => m _ _ _ _ _ _ (fun _ _ _ z => ⟨z.1, h.nx _ _ z.2⟩) h.ex q
end
section
variable {B : Bg} {W : WX} {X : Cx} {a b c : Expr} {tA : DTAT} {pos : Pos}
theorem par_read {is : List Nat} {D : Ends} {σ : Sl} {H : Hp} {es : List Expr} (m : MonoAT tA) (h : tS B W (dPar is tA) D σ H) : tMAT B W tA σ H fun vs H1 => vs.length = is.length ∧ D.nx ((List.zip is vs).foldl (fun s p => s.set p.1 (some p.2)) σ) H1 := by
  obtain ⟨F, r, en, st, R, q⟩ := h
  refine ⟨F, r, en, st, R, m _ _ _ _ _ _ (fun xs en1 st1 z => ?_) (fun _ _ _ z => ex_of z) q⟩
  intro F1 r1 H1 vs S1 R1 g
  obtain ⟨σ', e, S2, R2⟩ := sets_relG S1 R1 g z.1
  refine ⟨g.len.trans z.1, ?_⟩
  rw [← e]
  exact z.2 σ' F1 r1 H1 S2 R2
theorem ds_par2 {i j : Nat} {x y : Str} {px py pt : Pos} {kt k2 : Nat} {pt2 : Pos} (hc : X.calm = true) (hN : X.N.Nodup) (hi : X.N[i]? = some x) (hj : X.N[j]? = some y) (hij : i ≠ j) (hx : X.env.scope.names.lookup x = some .local) (hy : X.env.scope.names.lookup y = some .local) (ha : DAT B W X [a, b] tA)
    (hw : swappedStores [.Tuple [.Name x px, .Name y py] kt pt] (.Tuple [a, b] k2 pt2) X.env = pure (some [x, y])) : DS B W X (.Assign [.Tuple [.Name x px, .Name y py] kt pt] (.Tuple [a, b] k2 pt2) pos) (dPar [i, j] tA) := by
  refine ⟨dPar_mono ha.mono, PS.weak (ps_par hc hN hi hj hij hx hy (PA.weak ha.run fun σ H Q h => h) hw rfl) fun D σ H h => ?_⟩
  obtain ⟨F, r, en, st, R, q⟩ := par_read (es := [a, b]) ha.mono h
  refine ⟨F, r, en, st, R, ha.mono _ _ _ _ _ _ (fun xs en1 st1 z => ?_) (fun _ _ _ z => z) q⟩
  intro F1 r1 H1 vs S1 R1 g
  obtain ⟨l, z⟩ := z F1 r1 H1 vs S1 R1 g
  match vs, l with
  | [v, w], _ => exact ⟨v, w, rfl, z⟩
theorem ds_par3 {i j l : Nat} {x y z : Str} {px py pz pt : Pos} {kt k2 : Nat} {pt2 : Pos} (hc : X.calm = true) (hN : X.N.Nodup) (hi : X.N[i]? = some x) (hj : X.N[j]? = some y) (hl : X.N[l]? = some z) (hij : i ≠ j) (hil : i ≠ l) (hjl : j ≠ l) (hx : X.env.scope.names.lookup x = some .local) (hy : X.env.scope.names.lookup y = some .local) (hz : X.env.scope.names.lookup z = some .local) (ha : DAT B W X [a, b, c] tA)
    (hw : swappedStores [.Tuple [.Name x px, .Name y py, .Name z pz] kt pt] (.Tuple [a, b, c] k2 pt2) X.env = pure (some [x, y, z])) : DS B W X (.Assign [.Tuple [.Name x px, .Name y py, .Name z pz] kt pt] (.Tuple [a, b, c] k2 pt2) pos) (dPar [i, j, l] tA) := by
  refine ⟨dPar_mono ha.mono, PS.weak (ps_par3 hc hN hi hj hl hij hil hjl hx hy hz ha.run hw rfl) fun D σ H h => ?_⟩
  obtain ⟨F, r, en, st, R, q⟩ := par_read (es := [a, b, c]) ha.mono h
  refine ⟨F, r, en, st, R, ha.mono _ _ _ _ _ _ (fun xs en1 st1 z => ?_) (fun _ _ _ z => z) q⟩
  intro F1 r1 H1 vs S1 R1 g
  obtain ⟨l, z⟩ := z F1 r1 H1 vs S1 R1 g
  match vs, l with
  | [v, w, u], _ => exact ⟨v, w, u, rfl, z⟩
theorem GRep.keep {σ σ0 : Sl} {en en0 en1 : En} {F F1 : Hp} {r r1 : List Addr} {H H0 H1 : Hp} {x : T} {v : V} (S : Step σ en F r H σ en1 F1 r1 H1) (t : GRep B F r H σ en σ0 en0 H0 x v) : GRep B F1 r1 H1 σ en1 σ0 en0 H0 x v := by
  cases x with
  | v d => exact Rep.step t S
  | o d =>
    obtain ⟨a, rfl, ⟨q1, q2, o, q3, q4⟩, q5, q6⟩ := t
    refine ⟨a, rfl, ⟨?_, ?_, o, S.keep a o q3 q2 q5 q4.nt, q4.mono S.grow S.prx⟩, fun z => ?_, q6⟩
    · cases z : F1 a with
      | none => rfl
      | some u =>
        rcases S.new a u z with y | y | y
        · rw [q1] at y; cases y
        · rw [q3] at y; cases y
        · exact absurd y q5
    · obtain ⟨t, rfl, ht⟩ := S.pre
      intro z
      rcases List.mem_append.mp z with z | z
      · exact q2 z
      · rcases ht a z with y | y
        · rw [q3] at y; cases y
        · exact q5 y
    · rcases S.owns a z with y | y
      · exact q5 y
      · rw [q3] at y; cases y
  | e x => exact t.elim
theorem GReps.keep {σ σ0 : Sl} {en en0 en1 : En} {F F1 : Hp} {r r1 : List Addr} {H H0 H1 : Hp} (S : Step σ en F r H σ en1 F1 r1 H1) : ∀ {xs : List T} {vs : List V}, GReps B F r H σ en σ0 en0 H0 xs vs → GReps B F1 r1 H1 σ en1 σ0 en0 H0 xs vs
  | [], vs, h => h
  | x :: xs, vs, ⟨v, t, e, h1, h2, h3⟩ => ⟨v, t, e, h1.keep S, h2, h3.keep S⟩
theorem gNms_run : ∀ {is : List Nat} {vs : List V} {σ : Sl} {H : Hp} {Q : Sl → Hp → Prop}, vs.length = is.length → Q ((List.zip is vs).foldl (fun s p => s.set p.1 (some p.2)) σ) H → gNms is vs σ H Q
  | [], [], σ, H, Q, _, h => ⟨rfl, h⟩
  | i :: is, v :: vs, σ, H, Q, hl, h => ⟨v, vs, rfl, gNms_run (is := is) (vs := vs) (Nat.succ.inj hl) h⟩
/-- by a tuple: things stay one's own -/
theorem ds_parT {is : List Nat} {ts vs : List Expr} {kt k2 : Nat} {pt pt2 : Pos} (hc : X.calm = true) (hg : PGs X ts (gNms is)) (hn : (assignEach ts X.env).length = is.length) (hst : (assignEach ts X.env).findIdx? (·.1) = none) (hl : is.length ≤ 10) (ha : DAT B W X vs tA)
    (hw : swappedStores [.Tuple ts kt pt] (.Tuple vs k2 pt2) X.env = pure none) : DS B W X (.Assign [.Tuple ts kt pt] (.Tuple vs k2 pt2) pos) (dPar is tA) := by
  refine ⟨dPar_mono ha.mono, PS.weak (ps_asg (pe_tup ha.run) (pg_tup hc hg hn hst) rfl hw rfl) fun D σ H h => ?_⟩
  obtain ⟨F, r, en, st, R, q⟩ := h
  refine ⟨F, r, en, st, R, ha.mono _ _ _ _ _ _ (fun xs en1 st1 z => ?_) (fun _ _ _ z => ex_of z) q⟩
  intro F1 r1 H1 ws S1 R1 g
  have gl := g.len
  refine ⟨by rw [gl, z.1, sizeLine_eq]; omega, fun p hp => ⟨p, ws, rfl, .inl (.inl upd_same), gl.trans z.1, gNms_run (gl.trans z.1) ?_⟩⟩
  obtain ⟨σ', e, S2, R2⟩ := sets_relG (S1.trans (Step.alloc hp)) (R1.alloc hp) (g.keep (Step.alloc hp)) z.1
  rw [← e]
  exact z.2 σ' F1 r1 _ S2 R2
end
end Ev
set_option Elab.async false
set_option linter.all false
set_option autoImplicit false
set_option maxRecDepth 100000
/-! Ev, part Ko: instances of own classes: attributes, methods, properties. -/
namespace Ev
open PySem PySem.Spec PyProof.Rows L2
/-- class and attributes of an instance, data or box -/
def objOf (st : List D) : D → Option (Nat × List (Str × D))
  | .obj c fs => some (c, fs)
  | .box n => match st[n]? with
    | some (.obj c fs) => some (c, fs)
    | _ => none
  | _ => none
def putFD (f : Str) (d : D) : List (Str × D) → List (Str × D)
  | [] => [(f, d)]
  | (g, x) :: r => if g = f then (g, d) :: r else (g, x) :: putFD f d r
section
variable {B : Bg} {F : Hp} {r : List Addr}
theorem RepF.get {f : Str} : ∀ {fs : List (Str × D)} {vs : List (Str × V)} {d : D}, RepF B F r fs vs → fs.lookup f = some d → ∃ v, vs.lookup f = some v ∧ Rep B F r d v
  | [], vs, d, h, e => by cases e
  | (g, x) :: fs, vs, d, ⟨v, t, ev, h1, h2⟩, e => by
    subst ev
    rw [List.lookup_cons] at e ⊢
    by_cases q : f = g
    · subst q
      simp only [beq_self_eq_true] at e ⊢
      cases e
      exact ⟨v, rfl, h1⟩
    · have q2 : (f == g) = false := by simpa using q
      rw [q2] at e ⊢
      exact RepF.get h2 e
theorem RepF.none {f : Str} : ∀ {fs : List (Str × D)} {vs : List (Str × V)}, RepF B F r fs vs → fs.lookup f = none → vs.lookup f = none
  | [], vs, h, e => by cases h; rfl
  | (g, x) :: fs, vs, ⟨v, t, ev, h1, h2⟩, e => by
    subst ev
    rw [List.lookup_cons] at e ⊢
    by_cases q : f = g
    · subst q
      simp only [beq_self_eq_true] at e
      cases e
    · have q2 : (f == g) = false := by simpa using q
      rw [q2] at e ⊢
      exact RepF.none h2 e
theorem RepF.put {f : Str} {d : D} {v : V} (h : Rep B F r d v) : ∀ {fs : List (Str × D)} {vs : List (Str × V)}, RepF B F r fs vs → RepF B F r (putFD f d fs) (putF f v vs)
  | [], vs, e => by
    cases e
    exact ⟨v, [], rfl, h, rfl⟩
  | (g, x) :: fs, vs, ⟨u, t, ev, h1, h2⟩ => by
    subst ev
    unfold putFD putF
    by_cases q : g = f
    · rw [if_pos q, if_pos q]
      exact ⟨v, t, rfl, h, h2⟩
    · rw [if_neg q, if_neg q]
      exact ⟨u, _, rfl, h1, RepF.put h h2⟩
theorem RepF.len : ∀ {fs : List (Str × D)} {vs : List (Str × V)}, RepF B F r fs vs → vs.length = fs.length
  | [], vs, e => by cases e; rfl
  | (g, x) :: fs, vs, ⟨u, t, ev, h1, h2⟩ => by
    subst ev
    rw [List.length_cons, List.length_cons, RepF.len h2]
/-- the instance of the data -/
theorem obj_at {en : En} {st : List D} {σ : Sl} {H : Hp} {x : D} {v : V} {c : Nat} {fs : List (Str × D)} (R : Rel B F r en st σ H) (p : Rep B F r x v) (h : objOf st x = some (c, fs)) :
    ∃ a dx vs, v = .ref a ∧ H a = some (.ins (B.cls c) dx vs) ∧ RepF B F r fs vs ∧ c < B.nc := by
  unfold objOf at h
  split at h
  · cases h
    obtain ⟨l, a, dx, vs, e1, e2, e3⟩ := p
    exact ⟨a, dx, vs, e1, R.w.sub _ _ e2, e3, l⟩
  · rename_i n
    split at h
    · rename_i c' fs' hn
      cases h
      obtain ⟨a, e1, rfl⟩ := p
      obtain ⟨_, o, e2, l, dx, vs, rfl, e3⟩ := R.w.box n a _ e1 hn
      exact ⟨a, dx, vs, rfl, e2, e3, l⟩
    · cases h
  · cases h
end
/-! ### the tree of a method call -/
theorem any_all {l : List (Bool × Sem Value)} (h : l.any (·.1) = false) : l.all (!·.1) = true := by
  rw [List.all_eq_true]
  intro x hx
  have := List.any_eq_false.mp h x hx
  cases q : x.1
  · rfl
  · exact absurd q this
theorem meth_tree {o : Expr} {m : Str} {apos pos : Pos} {es : List Expr} {kws : List Keyword} {env : PySem.Env} (hb : attributeBase o m env (eval o env) = eval o env) (hs : (backTo pos (starEach es env)).any (·.1) = false)
    (hk : (backToKw pos (keywordEach kws env)).all (·.1.isSome) = true) (hl : es.length + kws.length < 29) (hline : (apos.endLine == pos.line) = true) :
    eval (.Call (.Attribute o m apos) es kws pos) env = (do
      let ov ← eval o env
      standAt apos.atName
      let (f, first) ← holding [ov] (getMethod ov m (do return (← importBound o env).getD true))
      callWith pos f first (backTo pos (starEach es env)) (backToKw pos (keywordEach kws env))) := by
  refine mcall_of hb fun ov => ?_
  have hf : methodCallForm (es.length + kws.length) (backTo pos (starEach es env)) (backToKw pos (keywordEach kws env)) = true := by
    unfold methodCallForm
    rw [any_all hs, hk]
    simp only [Bool.true_and]
    apply decide_eq_true
    split <;> omega
  unfold methodCall
  rw [hf]
  have hp : methodCallPos true o env apos pos = pure pos := by
    unfold methodCallPos
    rw [hline]
    rfl
  rw [hp]
  rfl
/-! ### what a def promises at an address -/
def RunAt (B : Bg) (W : WX) (X : Cx) (fa : Addr) (n : Nat) (ks : List Str) (g : Gam) : Prop := ∀ (pins : List (Addr × Obj)) (σ : Sl) (H : Hp) (s : Shared) (Q : VK) (us ws : List Value) (vs zs : List V) (F : Hp) (r : List Addr) (en : En) (st ds : List D),
    Inv X pins σ H s → Vals vs us → Vals zs ws → vs.length = n → zs.length = ks.length → Rel B F r en st σ H → Reps B F r ds (vs ++ zs) → g ds st (fun t st' => Kpost B σ Q F r en H t en st') (fun x st' => Epost B σ W F r en H x en st') →
    wpAny (model X.prog X.w) X.A (call (.ref fa) us (ks.zip ws)) (EP X pins σ Q) X.xe s
structure MethOk (B : Bg) (W : WX) (X : Cx) (c : Nat) (m : Str) (n : Nat) (ks : List Str) (g : Gam) : Prop where
  mono : MonoC g
  cls : Cls X.K (B.cls c)
  run : ∃ fa : Addr, Meth X.K (B.cls c) m fa ∧ RunAt B W X fa (n + 1) ks g
structure PropOk (B : Bg) (X : Cx) (c : Nat) (f : Str) (g : Gam) : Prop where
  mono : MonoC g
  run : ∀ (pins : List (Addr × Obj)) (σ : Sl) (H : Hp) (s : Shared) (Q : VK) (a dx : Addr) (vs : List (Str × V)) (F : Hp) (r : List Addr) (en : En) (st : List D) (d : D) (b : Bool) (E' : Value → Shared → Prop), Inv X pins σ H s → H a = some (.ins (B.cls c) dx vs) → Rel B F r en st σ H → Rep B F r d (.ref a) →
    g [d] st (fun t st' => Kpost B σ Q F r en H t en st') (fun _ _ => False) → wpAny (model X.prog X.w) X.A (getAttr (.ref a) f b) (EP X pins σ Q) E' s
section
variable {B : Bg} {W : WX} {X : Cx} {e o : Expr} {es : List Expr} {kws : List Keyword} {pos apos : Pos} {te ta to : DTE} {tA tB : DTA} {Γ : Nat → Gam} {ps : List (Nat × Nat)} {cs : List Nat} {f m : Str} {ks : List Str}
/-- o.f: a property of the class, or a field -/
def dAttr (Γ : Nat → Gam) (f : Str) (cs : List Nat) (ps : List (Nat × Nat)) (ta : DTE) : DTE := fun en st k e => ta en st (fun x en1 st1 => match objOf st1 x.d with
  | some (c, fs) => (match ps.lookup c with
    | some p => Γ p [x.d] st1 (fun t st2 => k t en1 st2) (fun _ _ => False)
    | none => cs.contains c = true ∧ ∃ d, fs.lookup f = some d ∧ k (.v d) en1 st1)
  | none => False) e
theorem dAttr_mono (ma : MonoE ta) (hp : ∀ c p, ps.lookup c = some p → MonoC (Γ p)) : MonoE (dAttr Γ f cs ps ta) := fun _ _ _ _ _ _ hk he q => ma _ _ _ _ _ _ (fun x _ _ z => by
  split at z
  · split at z
    · rename_i hl
      exact hp _ _ hl _ _ _ _ _ _ (fun _ _ y => hk _ _ _ y) (fun _ _ y => y) z
    · obtain ⟨z1, d, z2, z3⟩ := z
      exact ⟨z1, d, z2, hk _ _ _ z3⟩
  · exact z.elim) he q
theorem de_attr (ho : DE B W X o ta) (hp : ∀ c p, ps.lookup c = some p → PropOk B X c f (Γ p)) (hc : ∀ c, cs.contains c = true → Cls X.K (B.cls c) ∧ NoAttr X.K (B.cls c) f) (hb : attributeBase o f X.env (eval o X.env) = eval o X.env) : DE B W X (.Attribute o f pos) (dAttr Γ f cs ps ta) := by
  refine ⟨dAttr_mono ho.mono fun c p h => (hp c p h).mono, ⟨fun pins s σ H Q I h => ?_⟩⟩
  obtain ⟨F, r, en, st, R, q⟩ := h
  have hb1 := at_bind (W := W) (σ := σ) (H := H) (F := F) (r := r) (en := en) (st := st) (ta := ta) (k := fun d _ en1 st1 => match objOf st1 d with
    | some (c, fs) => (match ps.lookup c with
      | some p => Γ p [d] st1 (fun t st2 => Kpost B σ Q F r en H t en1 st2) (fun _ _ => False)
      | none => cs.contains c = true ∧ ∃ d, fs.lookup f = some d ∧ Kpost B σ Q F r en H (.v d) en1 st1)
    | none => False) (Q := fun v H1 => ∃ F1 r1 en1 st1 d, Rel B F1 r1 en1 st1 σ H1 ∧ Rep B F1 r1 d v ∧ match objOf st1 d with
    | some (c, fs) => (match ps.lookup c with
      | some p => Γ p [d] st1 (fun t st2 => Kpost B σ Q F1 r1 en1 H1 t en1 st2) (fun _ _ => False)
      | none => cs.contains c = true ∧ ∃ d, fs.lookup f = some d ∧ Kpost B σ Q F1 r1 en1 H1 (.v d) en1 st1)
    | none => False) ho.mono R q fun d en1 st1 F1 r1 H1 v S1 R1 rep1 h1 => ⟨F1, r1, en1, st1, d, R1, rep1, by
      split at h1
      · split at h1
        · rename_i hl
          exact (hp _ _ hl).mono _ _ _ _ _ _ (fun _ _ y => y.shift S1) (fun _ _ y => y) h1
        · obtain ⟨z1, d', z2, z3⟩ := h1
          exact ⟨z1, d', z2, z3.shift S1⟩
      · exact h1⟩
  refine attr_of hb (thn (ho.run.run pins s σ H _ I hb1) fun u s1 ⟨x, H1, I1, rx, F1, r1, en1, st1, d, R1, rep1, h1⟩ => ?_)
  split at h1
  · rename_i c fs hobj
    obtain ⟨a, dx, vs, rfl, ea, rf, _⟩ := obj_at R1 rep1 hobj
    obtain rfl : u = Value.ref a := rx
    split at h1
    · rename_i p hl
      exact (hp _ _ hl).run pins σ H1 s1 Q a dx vs F1 r1 en1 st1 d true X.xe I1 ea R1 rep1 h1
    · obtain ⟨z1, d', z2, z3⟩ := h1
      obtain ⟨k1, k2⟩ := hc c z1
      obtain ⟨v, g1, g2⟩ := rf.get z2
      exact getattr_ok I1 ea k1 k2 g1 fun u' s2 I2 ru => ⟨v, H1, I2, ru, kp_val z3 R1 g2⟩
  · exact h1.elim
/-- o.m(..) -/
def dMeth (Γ : Nat → Gam) (m : Str) (ps : List (Nat × Nat)) (n mm : Nat) (ta : DTE) (tA tB : DTA) : DTE := fun en st k e => ta en st (fun x en1 st1 => match objOf st1 x.d with
  | some (c, fs) => fs.lookup m = none ∧ (match ps.lookup c with
    | some p => tA en1 st1 (fun ds en2 st2 => tB en2 st2 (fun zs en3 st3 => ds.length = n ∧ zs.length = mm ∧ Γ p (x.d :: (ds ++ zs)) st3 (fun t st4 => k t en3 st4) (fun xx st4 => e xx en3 st4)) e) e
    | none => False)
  | none => False) e
theorem dMeth_mono {n mm : Nat} (ma : MonoE ta) (mA : MonoA tA) (mB : MonoA tB) (hp : ∀ c p, ps.lookup c = some p → MonoC (Γ p)) : MonoE (dMeth Γ m ps n mm ta tA tB) := fun _ _ _ _ _ _ hk he q => ma _ _ _ _ _ _ (fun x _ _ z => by
  split at z
  · refine ⟨z.1, ?_⟩
    have z := z.2
    split at z
    · rename_i hl
      exact mA _ _ _ _ _ _ (fun _ _ _ y => mB _ _ _ _ _ _ (fun _ _ _ ⟨w1, w2, w3⟩ => ⟨w1, w2, hp _ _ hl _ _ _ _ _ _ (fun _ _ v => hk _ _ _ v) (fun _ _ v => he _ _ _ v) w3⟩) he y) he z
    · exact z.elim
  · exact z.elim) he q
theorem de_meth (ho : DE B W X o ta) (hA : DA B W X es tA) (hK : DK B W X kws tB) (hp : ∀ c p, ps.lookup c = some p → MethOk B W X c m es.length ks (Γ p)) (hs : ∀ e ∈ es, ∀ x p, e ≠ .Starred x p) (hkn : ∀ k ∈ kws, k.arg.isSome = true) (hks : kws.filterMap (·.arg) = ks) (h0 : es = [] → tA = dNil)
    (hb : attributeBase o m X.env (eval o X.env) = eval o X.env) (hl : es.length + kws.length < 29) (hline : (apos.endLine == pos.line) = true) : DE B W X (.Call (.Attribute o m apos) es kws pos) (dMeth Γ m ps es.length ks.length ta tA tB) := by
  obtain ⟨k1, k2, k3⟩ := noKw (env := X.env) hkn pos
  have ns := noStars (env := X.env) hs pos
  refine ⟨dMeth_mono ho.mono hA.mono hK.mono fun c p h => (hp c p h).mono, ⟨fun pins s σ H Q I h => ?_⟩⟩
  obtain ⟨F, r, en, st, R, q⟩ := h
  have hb1 : tM B W ta σ H fun v H1 => ∃ F1 r1 en1 st1 d c fs p, Rel B F1 r1 en1 st1 σ H1 ∧ Rep B F1 r1 d v ∧ objOf st1 d = some (c, fs) ∧ fs.lookup m = none ∧ ps.lookup c = some p ∧
      tA en1 st1 (fun ds en2 st2 => tB en2 st2 (fun zs en3 st3 => ds.length = es.length ∧ zs.length = ks.length ∧ Γ p (d :: (ds ++ zs)) st3 (fun t st4 => Kpost B σ Q F1 r1 en1 H1 t en3 st4) (fun xx st4 => Epost B σ W F1 r1 en1 H1 xx en3 st4)) (Epost B σ W F1 r1 en1 H1)) (Epost B σ W F1 r1 en1 H1) := by
    refine ⟨F, r, en, st, R, ho.mono _ _ _ _ _ _ (fun x en1 st1 h1 => ?_) (fun _ _ _ z => z) q⟩
    intro F0 r0 H1 v S0 R0 t0
    obtain ⟨F1, S1, R1, rep1, _⟩ := freezeT S0 R0 t0
    split at h1
    · rename_i c fs hobj
      obtain ⟨hm, h1⟩ := h1
      split at h1
      · rename_i p hl'
        refine ⟨F1, r0, en1, st1, _, c, fs, p, R1, rep1, hobj, hm, hl', ?_⟩
        exact hA.mono _ _ _ _ _ _ (fun _ _ _ y => hK.mono _ _ _ _ _ _ (fun _ _ _ ⟨w1, w2, w3⟩ => ⟨w1, w2, (hp _ _ hl').mono _ _ _ _ _ _ (fun _ _ v => v.shift S1) (fun _ _ v => v.shift S1) w3⟩) (fun _ _ _ v => v.shift S1) y) (fun _ _ _ v => v.shift S1) h1
      · exact h1.elim
    · exact h1.elim
  refine PySem.W.methodCall_KW (thn (ho.run.run pins s σ H _ I hb1) fun u s1 ⟨x, H1, I1, rx, F1, r1, en1, st1, d, c, fs, p, R1, rep1, hobj, hm, hl', h1⟩ => ?_) (meth_tree hb ns k1 hl hline)
  obtain ⟨a, dx, vs, rfl, ea, rf, _⟩ := obj_at R1 rep1 hobj
  obtain rfl : u = Value.ref a := rx
  obtain ⟨fa, hM, run⟩ := (hp c p hl').run
  refine getmeth_ok I1 ea (hp c p hl').cls hM (rf.none hm) ?_
  have h' : tMA B W tA σ H1 fun us H2 => tMA B W tB σ H2 fun zs H3 => us.length = es.length ∧ zs.length = ks.length ∧ ∃ F r en st ds, Rel B F r en st σ H3 ∧ Reps B F r ds (.ref a :: (us ++ zs)) ∧ Γ p ds st (fun t st' => Kpost B σ Q F r en H3 t en st') (fun x st' => Epost B σ W F r en H3 x en st') := by
    refine at_bindA (k := fun ds en2 st2 => tB en2 st2 (fun zs en3 st3 => ds.length = es.length ∧ zs.length = ks.length ∧ Γ p (d :: (ds ++ zs)) st3 (fun t st4 => Kpost B σ Q F1 r1 en1 H1 t en3 st4) (fun xx st4 => Epost B σ W F1 r1 en1 H1 xx en3 st4)) (Epost B σ W F1 r1 en1 H1)) hA.mono R1 h1 fun ds en2 st2 F2 r2 H2 us S2 R2 rep2 h2 => ?_
    refine at_bindA (k := fun zs en3 st3 => ds.length = es.length ∧ zs.length = ks.length ∧ Γ p (d :: (ds ++ zs)) st3 (fun t st4 => Kpost B σ Q F1 r1 en1 H1 t en3 st4) (fun xx st4 => Epost B σ W F1 r1 en1 H1 xx en3 st4)) hK.mono R2 (hK.mono _ _ _ _ _ _ (fun _ _ _ z => z) (fun _ _ _ z => z.shift S2) h2) fun zs en3 st3 F3 r3 H3 ws S3 R3 rep3 ⟨l1, l2, h3⟩ => ?_
    have S := S2.trans S3
    exact ⟨by rw [rep2.len]; exact l1, by rw [rep3.len]; exact l2, F3, r3, en3, st3, d :: (ds ++ zs), R3, ⟨.ref a, _, rfl, rep1.step S, Reps.app rep3 (rep2.step S3)⟩, (hp c p hl').mono _ _ _ _ _ _ (fun _ _ z => z.shift S) (fun _ _ z => z.shift S) h3⟩
  cases es with
  | nil =>
    rw [h0 rfl] at h'
    obtain ⟨F0, r0, en0, st0, R0, q0⟩ := h'
    have q1 := q0 F0 r0 H1 [] Step.refl R0 rfl
    refine PySem.W.callWith_KW0 (first := [.ref a]) (h₀ := X.base) I.ok.mod.kin hM.kp k1 ?_ (by rw [k2]; rfl)
    refine thn (hK.run.run pos pins s1 σ H1 _ I1 q1) fun ws s2 ⟨zs, H2, I2, r2, l1, l2, F, r, en, st, ds, R, rep, q2⟩ => ⟨I2.kIn, ?_⟩
    rw [k3, hks]
    exact run pins σ H2 s2 Q [.ref a] ws [.ref a] zs F r en st ds I2 (.cons rfl .nil) r2 rfl l2 R rep q2
  | cons e0 er =>
    refine PySem.W.callWith_KW (first := [.ref a]) (h₀ := X.base) I.ok.mod.kin hM.kp k1 (thn (hA.run.run pos pins s1 σ H1 _ I1 h') fun us s2 ⟨vs', H2, I2, r1', q1⟩ => ?_) (by rw [ns, k2]; rfl) (notStar_each (hs e0 List.mem_cons_self))
    refine thn (hK.run.run pos pins s2 σ H2 _ I2 q1) fun ws s3 ⟨zs, H3, I3, r2, l1, l2, F, r, en, st, ds, R, rep, q2⟩ => ⟨I3.kIn, ?_⟩
    rw [k3, hks]
    exact run pins σ H3 s3 Q (.ref a :: us) ws (.ref a :: vs') zs F r en st ds I3 (.cons rfl r1') r2 (by rw [List.length_cons, l1]) l2 R rep q2
/-! ### o.f = e -/
def dFldS (f : Str) (cs : List Nat) (to te : DTE) : DTS := fun en st P => te en st (fun y en1 st1 => to en1 st1 (fun x en2 st2 => ∃ n c fs, x.d = .box n ∧ st2[n]? = some (.obj c fs) ∧ cs.contains c = true ∧ fs.length < 1000 ∧ P.nx en2 (st2.set n (.obj c (putFD f y.d fs)))) P.ex) P.ex
theorem dFldS_mono (m : MonoE te) (m' : MonoE to) : MonoS (dFldS f cs to te) := fun _ _ _ _ h q => m _ _ _ _ _ _ (fun _ _ _ z => m' _ _ _ _ _ _ (fun _ _ _ ⟨n, c, fs, z1, z2, z3, z4, z5⟩ => ⟨n, c, fs, z1, z2, z3, z4, h.nx _ _ z5⟩) h.ex z) h.ex q
theorem ds_fld {p' : Pos} (he : DE B W X e te) (ho : DE B W X o to) (hc : ∀ c, cs.contains c = true → Cls X.K (B.cls c) ∧ NoAttr X.K (B.cls c) f) (hs : swapsWith e (some (.Attribute o f p')) pos.line X.env = pure false) : DS B W X (.Assign [.Attribute o f p'] e pos) (dFldS f cs to te) := by
  refine ⟨dFldS_mono he.mono ho.mono, PS.weak (ps_fld ho.run he.run hs) fun D σ H ⟨F, r, en, st, R, q⟩ => ?_⟩
  refine at_bind (k := fun d _ en1 st1 => to en1 st1 (fun x en2 st2 => ∃ n c fs, x.d = .box n ∧ st2[n]? = some (.obj c fs) ∧ cs.contains c = true ∧ fs.length < 1000 ∧ (postOf B W D σ F r en H).nx en2 (st2.set n (.obj c (putFD f d fs)))) (postOf B W D σ F r en H).ex) he.mono R (he.mono _ _ _ _ _ _ (fun _ _ _ z => z) (fun _ _ _ z => ex_of z) q) fun d en1 st1 F1 r1 H1 v S1 R1 rep1 h1 => ?_
  refine at_bind (k := fun d' _ en2 st2 => ∃ n c fs, d' = .box n ∧ st2[n]? = some (.obj c fs) ∧ cs.contains c = true ∧ fs.length < 1000 ∧ (postOf B W D σ F r en H).nx en2 (st2.set n (.obj c (putFD f d fs)))) ho.mono R1 (ho.mono _ _ _ _ _ _ (fun _ _ _ z => z) (fun _ _ _ z => (ex_of z).shift S1) h1) fun d' en2 st2 F2 r2 H2 u S2 R2 rep2 h2 => ?_
  obtain ⟨n, c, fs, rfl, z2, z3, z4, z5⟩ := h2
  obtain ⟨k1, k2⟩ := hc c z3
  obtain ⟨a, e1, rfl⟩ := rep2
  obtain ⟨_, o', e2, l, dx, vs, rfl, e3⟩ := R2.w.box n a _ e1 z2
  obtain ⟨S3, R3⟩ := Rel.putBox R2 z2 e1 (d' := .obj c (putFD f d fs)) (o' := .ins (B.cls c) dx (putF f v vs)) ⟨l, dx, _, rfl, RepF.put (rep1.step S2) e3⟩
  exact ⟨a, B.cls c, dx, vs, rfl, e2, k1, k2, by rw [e3.len]; exact z4, z5 σ F2 r2 _ ((S1.trans S2).trans S3) R3⟩
end
end Ev
set_option Elab.async false
set_option linter.all false
set_option autoImplicit false
set_option maxRecDepth 100000
/-! Ev, part Kq: new instances of own classes. -/
namespace Ev
open PySem PySem.Spec PyProof.Rows L2
/-! ### data that speaks of boxes below n alone -/
mutual
def bnd (n : Nat) : D → Bool
  | .box m => decide (m < n)
  | .tup ds => bndL n ds
  | .lst ds => bndL n ds
  | .dct ks => bndK n ks
  | .obj _ fs => bndF n fs
  | _ => true
def bndL (n : Nat) : List D → Bool
  | [] => true
  | d :: ds => bnd n d && bndL n ds
def bndK (n : Nat) : List (Key × D) → Bool
  | [] => true
  | (_, d) :: ds => bnd n d && bndK n ds
def bndF (n : Nat) : List (Str × D) → Bool
  | [] => true
  | (_, d) :: ds => bnd n d && bndF n ds
end
def bndX (n : Nat) : Xn → Bool
  | (_, none) => true
  | (_, some d) => bnd n d
mutual
theorem Rep.bnd {B : Bg} {F : Hp} {r : List Addr} : ∀ (d : D) (v : V), Rep B F r d v → bnd r.length d = true
  | .non, v, h => rfl
  | .bl b, v, h => rfl
  | .int i, v, h => rfl
  | .str s, v, h => rfl
  | .ty n, v, h => rfl
  | .cl c, v, h => rfl
  | .scr ns, v, h => rfl
  | .box n, v, ⟨a, e, h⟩ => decide_eq_true (List.getElem?_eq_some_iff.mp e).1
  | .tup ds, v, ⟨a, vs, e, q, h⟩ => Reps.bnd ds vs h
  | .lst ds, v, ⟨a, vs, e, q, h⟩ => Reps.bnd ds vs h
  | .dct ks, v, ⟨a, vs, e, q, h⟩ => RepK.bnd ks vs h
  | .obj c fs, v, ⟨l, a, dx, vs, e, q, h⟩ => RepF.bnd fs vs h
theorem Reps.bnd {B : Bg} {F : Hp} {r : List Addr} : ∀ (ds : List D) (vs : List V), Reps B F r ds vs → bndL r.length ds = true
  | [], vs, h => rfl
  | d :: ds, vs, ⟨v, t, e, h1, h2⟩ => by unfold bndL; rw [Rep.bnd d v h1, Reps.bnd ds t h2]; rfl
theorem RepK.bnd {B : Bg} {F : Hp} {r : List Addr} : ∀ (ds : List (Key × D)) (vs : List (Key × V)), RepK B F r ds vs → bndK r.length ds = true
  | [], vs, h => rfl
  | (k, d) :: ds, vs, ⟨v, t, e, h1, h2⟩ => by unfold bndK; rw [Rep.bnd d v h1, RepK.bnd ds t h2]; rfl
theorem RepF.bnd {B : Bg} {F : Hp} {r : List Addr} : ∀ (ds : List (Str × D)) (vs : List (Str × V)), RepF B F r ds vs → bndF r.length ds = true
  | [], vs, h => rfl
  | (k, d) :: ds, vs, ⟨v, t, e, h1, h2⟩ => by unfold bndF; rw [Rep.bnd d v h1, RepF.bnd ds t h2]; rfl
end
mutual
theorem Rep.cut {B : Bg} {F : Hp} {r t : List Addr} : ∀ (d : D) (v : V), bnd r.length d = true → Rep B F (r ++ t) d v → Rep B F r d v
  | .non, v, _, h => h
  | .bl b, v, _, h => h
  | .int i, v, _, h => h
  | .str s, v, _, h => h
  | .ty n, v, _, h => h
  | .cl c, v, _, h => h
  | .scr ns, v, _, h => h
  | .box n, v, b, ⟨a, e, h⟩ => ⟨a, by rw [List.getElem?_append_left (of_decide_eq_true b)] at e; exact e, h⟩
  | .tup ds, v, b, ⟨a, vs, e, q, h⟩ => ⟨a, vs, e, q, Reps.cut ds vs b h⟩
  | .lst ds, v, b, ⟨a, vs, e, q, h⟩ => ⟨a, vs, e, q, Reps.cut ds vs b h⟩
  | .dct ks, v, b, ⟨a, vs, e, q, h⟩ => ⟨a, vs, e, q, RepK.cut ks vs b h⟩
  | .obj c fs, v, b, ⟨l, a, dx, vs, e, q, h⟩ => ⟨l, a, dx, vs, e, q, RepF.cut fs vs b h⟩
theorem Reps.cut {B : Bg} {F : Hp} {r t : List Addr} : ∀ (ds : List D) (vs : List V), bndL r.length ds = true → Reps B F (r ++ t) ds vs → Reps B F r ds vs
  | [], vs, _, h => h
  | d :: ds, vs, b, ⟨v, u, e, h1, h2⟩ => by
    unfold bndL at b
    rw [Bool.and_eq_true] at b
    exact ⟨v, u, e, Rep.cut d v b.1 h1, Reps.cut ds u b.2 h2⟩
theorem RepK.cut {B : Bg} {F : Hp} {r t : List Addr} : ∀ (ds : List (Key × D)) (vs : List (Key × V)), bndK r.length ds = true → RepK B F (r ++ t) ds vs → RepK B F r ds vs
  | [], vs, _, h => h
  | (k, d) :: ds, vs, b, ⟨v, u, e, h1, h2⟩ => by
    unfold bndK at b
    rw [Bool.and_eq_true] at b
    exact ⟨v, u, e, Rep.cut d v b.1 h1, RepK.cut ds u b.2 h2⟩
theorem RepF.cut {B : Bg} {F : Hp} {r t : List Addr} : ∀ (ds : List (Str × D)) (vs : List (Str × V)), bndF r.length ds = true → RepF B F (r ++ t) ds vs → RepF B F r ds vs
  | [], vs, _, h => h
  | (k, d) :: ds, vs, b, ⟨v, u, e, h1, h2⟩ => by
    unfold bndF at b
    rw [Bool.and_eq_true] at b
    exact ⟨v, u, e, Rep.cut d v b.1 h1, RepF.cut ds u b.2 h2⟩
end
theorem ORep.bnd {B : Bg} {F : Hp} {r : List Addr} : ∀ {d : D} {o : HO}, ORep B F r d o → bnd r.length d = true
  | .lst ds, o, ⟨vs, e, h⟩ => Reps.bnd ds vs h
  | .dct ds, o, ⟨vs, e, h⟩ => RepK.bnd ds vs h
  | .obj c ds, o, ⟨l, dx, vs, e, h⟩ => RepF.bnd ds vs h
theorem ORep.cut {B : Bg} {F : Hp} {r t : List Addr} : ∀ {d : D} {o : HO}, Ev.bnd r.length d = true → ORep B F (r ++ t) d o → ORep B F r d o
  | .lst ds, o, b, ⟨vs, e, h⟩ => ⟨vs, e, Reps.cut ds vs b h⟩
  | .dct ds, o, b, ⟨vs, e, h⟩ => ⟨vs, e, RepK.cut ds vs b h⟩
  | .obj c ds, o, b, ⟨l, dx, vs, e, h⟩ => ⟨l, dx, vs, e, RepF.cut ds vs b h⟩
theorem XRep.cut {B : Bg} {F : Hp} {r t : List Addr} : ∀ {x : Xn} {cls : Value} {d : Option Addr}, bndX r.length x = true → XRep B F (r ++ t) x cls d → XRep B F r x cls d
  | (c, none), _, _, _, h => h
  | (c, some x), _, _, b, ⟨h0, h1, da, v, h2, h3, h4⟩ => ⟨h0, h1, da, v, h2, h3, Rep.cut _ _ b h4⟩
theorem World.bnd {B : Bg} {F : Hp} {r : List Addr} {st : List D} {H : Hp} (W : World B F r st H) {n : Nat} {d : D} (h : st[n]? = some d) : bnd r.length d = true := by
  have hl : n < r.length := by rw [← W.len]; exact (List.getElem?_eq_some_iff.mp h).1
  obtain ⟨_, o, _, q⟩ := W.box n r[n] d (by rw [List.getElem?_eq_getElem hl]) h
  exact q.bnd
/-- the last boxes go, the others are as they were told -/
theorem World.cut {B : Bg} {F F' : Hp} {r t : List Addr} {st su : List D} {H H' : Hp} (W0 : World B F r st H) (W : World B F' (r ++ t) (st ++ su) H') : World B F' r st H' where
  sub := W.sub
  tab := W.tab
  nd := (List.nodup_append.mp W.nd).1
  len := W0.len
  box := fun n a d e1 e2 => by
    have hl : n < r.length := (List.getElem?_eq_some_iff.mp e1).1
    obtain ⟨q1, o, q2, q3⟩ := W.box n a d (by rw [List.getElem?_append_left hl]; exact e1) (by rw [List.getElem?_append_left (by rw [W0.len]; exact hl)]; exact e2)
    exact ⟨q1, o, q2, q3.cut (W0.bnd e2)⟩
/-! ### C(..) -/
theorem CStep.drop {F F' : Hp} {r t : List Addr} {H H' : Hp} (C : CStep F r H F' (r ++ t) H') : CStep F r H F' r H' := ⟨C.keep, C.there, C.grow, ⟨[], by simp, fun _ h => by cases h⟩, C.new⟩
theorem CStep.frz {F F' : Hp} {r : List Addr} {H H' : Hp} {x : Addr} {o : HO} (C : CStep F r H F' r H') (h1 : F' x = none) (h2 : H x = none) : CStep F r H (upd F' x o) r H' := ⟨C.keep, C.there, C.grow.trans (sub_upd h1), C.pre, fun a u e => by
  by_cases q : a = x
  · subst q; exact .inr h2
  · rw [upd_ne q] at e; exact C.new a u e⟩
/-- what a class promises that is made with so many arguments: the new instance is the box behind all -/
structure MakeOk (B : Bg) (W : WX) (X : Cx) (c : Nat) (n : Nat) (ks : List Str) (g : Gam) : Prop where
  mono : MonoC g
  kp : PySem.W.keepIn X.K (.ref (B.cls c)) = true
  run : ∀ (pins : List (Addr × Obj)) (σ : Sl) (H : Hp) (s : Shared) (Q : VK) (us ws : List Value) (vs zs : List V) (F : Hp) (r : List Addr) (en : En) (st ds : List D), Inv X pins σ H s → Vals vs us → Vals zs ws → vs.length = n → zs.length = ks.length → Rel B F r en st σ H → Reps B F r ds (vs ++ zs) →
    g (.box st.length :: ds) (st ++ [.obj c []]) (fun t st' => t = .v .non ∧ ∀ F' x r' H', CStep F r H F' (r ++ x :: r') H' → World B F' (r ++ x :: r') st' H' → Q (.ref x) H') (fun xx st' => ∀ F' x r' H' cls d, CStep F r H F' (r ++ x :: r') H' → World B F' (r ++ x :: r') st' H' → XRep B F' (r ++ x :: r') xx cls d → W cls d σ H') →
    wpAny (model X.prog X.w) X.A (call (.ref (B.cls c)) us (ks.zip ws)) (EP X pins σ Q) X.xe s
section
variable {B : Bg} {W : WX} {X : Cx} {e o : Expr} {es : List Expr} {kws : List Keyword} {pos apos : Pos} {tA tB : DTA} {g : Gam} {c : Nat} {ks : List Str}
def kMk (v : Bool) (c : Nat) (st : List D) (k : T → List D → Prop) (st3 : List D) : Prop := match v with
  | false => k (.v (.box st.length)) st3
  | true => ∃ fs, st3 = st ++ [.obj c fs] ∧ bndF st.length fs = true ∧ k (.v (.obj c fs)) st
def eMk (v : Bool) (st : List D) (k : Xn → List D → Prop) (x : Xn) (st3 : List D) : Prop := match v with
  | false => k x st3
  | true => ∃ d0, st3 = st ++ [d0] ∧ bndX st.length x = true ∧ k x st
theorem kMk_mono {v : Bool} {st st3 : List D} {k k' : T → List D → Prop} (h : ∀ t s, k t s → k' t s) (q : kMk v c st k st3) : kMk v c st k' st3 := by
  cases v with
  | false => exact h _ _ q
  | true =>
    obtain ⟨fs, q1, q2, q3⟩ := q
    exact ⟨fs, q1, q2, h _ _ q3⟩
theorem eMk_mono {v : Bool} {st st3 : List D} {k k' : Xn → List D → Prop} {x : Xn} (h : ∀ t s, k t s → k' t s) (q : eMk v st k x st3) : eMk v st k' x st3 := by
  cases v with
  | false => exact h _ _ q
  | true =>
    obtain ⟨fs, q1, q2, q3⟩ := q
    exact ⟨fs, q1, q2, h _ _ q3⟩
/-- the instance stays a box (v = false), or is data from now on -/
def dMake (g : Gam) (v : Bool) (c n m : Nat) (ta tk : DTA) : DTE := fun en st k e => ta en st (fun ds en1 st1 => tk en1 st1 (fun zs en2 st2 => ds.length = n ∧ zs.length = m ∧
  g (.box st2.length :: (ds ++ zs)) (st2 ++ [.obj c []]) (fun t st3 => t = .v .non ∧ kMk v c st2 (fun t s => k t en2 s) st3) (fun x st3 => eMk v st2 (fun x s => e x en2 s) x st3)) e) e
theorem dMake_mono {v : Bool} {n m : Nat} (mg : MonoC g) (ma : MonoA tA) (mk : MonoA tB) : MonoE (dMake g v c n m tA tB) := fun _ _ _ _ _ _ hk he q => ma _ _ _ _ _ _ (fun _ _ _ z => mk _ _ _ _ _ _ (fun _ _ _ ⟨y1, y2, y3⟩ => ⟨y1, y2, mg _ _ _ _ _ _ (fun _ _ ⟨x1, x2⟩ => ⟨x1, kMk_mono (fun _ _ w => hk _ _ _ w) x2⟩) (fun _ _ x => eMk_mono (fun _ _ w => he _ _ _ w) x) y3⟩) he z) he q
theorem mk_k {v : Bool} {F F0 F' : Hp} {r r0 r' : List Addr} {en en0 : En} {st st3 : List D} {σ : Sl} {H H0 H' : Hp} {x : Addr} {Q : VK} (S : Step σ en0 F0 r0 H0 σ en F r H) (R : Rel B F r en st σ H) (C : CStep F r H F' (r ++ x :: r') H') (W3 : World B F' (r ++ x :: r') st3 H')
    (z : kMk v c st (fun t s => Kpost B σ Q F0 r0 en0 H0 t en s) st3) : Q (.ref x) H' := by
  have hx : H x = none := by
    obtain ⟨t, e1, e2⟩ := C.pre
    exact e2 x (List.append_cancel_left e1 ▸ List.mem_cons_self)
  cases v with
  | false =>
    refine z F' (r ++ x :: r') H' (.ref x) (S.trans C.step) (R.call C W3) ⟨x, ?_, rfl⟩
    rw [R.w.len, List.getElem?_append_right (Nat.le_refl _), Nat.sub_self]
    rfl
  | true =>
    obtain ⟨fs, rfl, q2, q3⟩ := z
    have hl := W3.len
    rw [List.length_append, List.length_append, R.w.len] at hl
    have er : r' = [] := List.eq_nil_of_length_eq_zero (by
      have e1 : [D.obj c fs].length = 1 := rfl
      have e2 : (x :: r').length = r'.length + 1 := rfl
      omega)
    subst er
    obtain ⟨g1, o, g2, l, dx, vs, rfl, g3⟩ := W3.box st.length x (.obj c fs) (by rw [R.w.len, List.getElem?_append_right (Nat.le_refl _), Nat.sub_self]; rfl) (by rw [List.getElem?_append_right (Nat.le_refl _), Nat.sub_self]; rfl)
    have W4 := World.cut R.w W3
    have xr : x ∉ r := fun z => (List.nodup_append.mp W3.nd).2.2 x z x List.mem_cons_self rfl
    have C4 := C.drop.frz (o := .ins (B.cls c) dx vs) g1 hx
    refine q3 _ r H' (.ref x) (S.trans C4.step) (R.call C4 (W4.freeze g2 g1 xr)) ⟨l, x, dx, vs, rfl, upd_same, RepF.mono (sub_upd g1) (Pre.refl _) _ _ (RepF.cut fs vs (by rw [← R.w.len]; exact q2) g3)⟩
theorem mk_e {v : Bool} {F F0 F' : Hp} {r r0 r' : List Addr} {en en0 : En} {st st3 : List D} {σ : Sl} {H H0 H' : Hp} {x : Addr} {xx : Xn} {cls : Value} {d : Option Addr} (S : Step σ en0 F0 r0 H0 σ en F r H) (R : Rel B F r en st σ H) (C : CStep F r H F' (r ++ x :: r') H') (W3 : World B F' (r ++ x :: r') st3 H')
    (z : eMk v st (fun x s => Epost B σ W F0 r0 en0 H0 x en s) xx st3) (xr : XRep B F' (r ++ x :: r') xx cls d) : W cls d σ H' := by
  cases v with
  | false => exact z F' (r ++ x :: r') H' cls d (S.trans C.step) (R.call C W3) xr
  | true =>
    obtain ⟨d0, rfl, q2, q3⟩ := z
    exact q3 F' r H' cls d (S.trans C.drop.step) (R.call C.drop (World.cut R.w W3)) (xr.cut (by rw [← R.w.len]; exact q2))
theorem de_make {x : Str} {p : Pos} {v : Bool} (hc : MakeOk B W X c es.length ks g) (hm : X.mg x = some (.ref (B.cls c))) (hg : Gl X x) (hdb : (x == ("__debug__" : Str)) = false) (ha : DA B W X es tA) (hk : DK B W X kws tB) (hs : ∀ e ∈ es, ∀ x p, e ≠ .Starred x p)
    (hkn : ∀ k ∈ kws, k.arg.isSome = true) (hks : kws.filterMap (·.arg) = ks) (h0 : es = [] → tA = dNil) : DE B W X (.Call (.Name x p) es kws pos) (dMake g v c es.length ks.length tA tB) := by
  refine ⟨dMake_mono hc.mono ha.mono hk.mono, ⟨fun pins s σ H Q I h => ?_⟩⟩
  -- what is left behind the arguments
  have h' : tMA B W tA σ H fun vs H1 => tMA B W tB σ H1 fun zs H2 => vs.length = es.length ∧ zs.length = ks.length ∧ ∃ F r en st ds, Rel B F r en st σ H2 ∧ Reps B F r ds (vs ++ zs) ∧
      g (.box st.length :: ds) (st ++ [.obj c []]) (fun t st' => t = .v .non ∧ ∀ F' x r' H', CStep F r H2 F' (r ++ x :: r') H' → World B F' (r ++ x :: r') st' H' → Q (.ref x) H') (fun xx st' => ∀ F' x r' H' cls d, CStep F r H2 F' (r ++ x :: r') H' → World B F' (r ++ x :: r') st' H' → XRep B F' (r ++ x :: r') xx cls d → W cls d σ H') := by
    obtain ⟨F, r, en, st, R, q⟩ := h
    have q' : tA en st (fun ds en1 st1 => tB en1 st1 (fun zs en2 st2 => ds.length = es.length ∧ zs.length = ks.length ∧ g (.box st2.length :: (ds ++ zs)) (st2 ++ [.obj c []]) (fun t st3 => t = .v .non ∧ kMk v c st2 (fun t s => Kpost B σ Q F r en H t en2 s) st3) (fun x st3 => eMk v st2 (fun x s => Epost B σ W F r en H x en2 s) x st3)) (Epost B σ W F r en H)) (Epost B σ W F r en H) := q
    refine at_bindA ha.mono R q' fun ds en1 st1 F1 r1 H1 vs S1 R1 rep1 h1 => ?_
    refine at_bindA hk.mono R1 (hk.mono _ _ _ _ _ _ (fun _ _ _ z => z) (fun _ _ _ z => z.shift S1) h1) fun zs en2 st2 F2 r2 H2 us S2 R2 rep2 ⟨l1, l2, h2⟩ => ?_
    have S := S1.trans S2
    refine ⟨by rw [rep1.len]; exact l1, by rw [rep2.len]; exact l2, F2, r2, en2, st2, ds ++ zs, R2, Reps.app rep2 (rep1.step S2), hc.mono _ _ _ _ _ _ (fun t st3 z => ?_) (fun xx st3 z => ?_) h2⟩
    · obtain ⟨rfl, z⟩ := z
      exact ⟨rfl, fun F' x r' H' C W3 => mk_k S R2 C W3 z⟩
    · exact fun F' x r' H' cls d C W3 xr => mk_e S R2 C W3 z xr
  obtain ⟨k1, k2, k3⟩ := noKw (env := X.env) hkn pos
  refine wpAny_Call_Name_kw (ld_glob I hg hm ?_ hdb)
  cases es with
  | nil =>
    rw [h0 rfl] at h'
    obtain ⟨F0, r0, en0, st0, R0, q0⟩ := h'
    have q1 := q0 F0 r0 H [] Step.refl R0 rfl
    refine PySem.W.callWith_KW0 (h₀ := X.base) I.ok.mod.kin hc.kp k1 ?_ (by rw [k2]; rfl)
    refine thn (hk.run.run pos pins s σ H _ I q1) fun ws s2 ⟨zs, H2, I2, r2, l1, l2, F, r, en, st, ds, R, rep, q2⟩ => ⟨I2.kIn, ?_⟩
    rw [k3, hks]
    exact hc.run pins σ H2 s2 Q [] ws [] zs F r en st ds I2 .nil r2 l1 l2 R rep q2
  | cons e0 er =>
    refine PySem.W.callWith_KW (h₀ := X.base) I.ok.mod.kin hc.kp k1 (thn (ha.run.run pos pins s σ H _ I h') fun us s1 ⟨vs, H1, I1, r1, q1⟩ => ?_) (by rw [noStars hs, k2]; rfl) (notStar_each (hs e0 List.mem_cons_self))
    refine thn (hk.run.run pos pins s1 σ H1 _ I1 q1) fun ws s2 ⟨zs, H2, I2, r2, l1, l2, F, r, en, st, ds, R, rep, q2⟩ => ⟨I2.kIn, ?_⟩
    rw [k3, hks]
    exact hc.run pins σ H2 s2 Q us ws vs zs F r en st ds I2 r1 r2 l1 l2 R rep q2
end
end Ev
set_option Elab.async false
set_option linter.all false
set_option autoImplicit false
set_option maxRecDepth 100000
/-! Ev, part Kt: starred elements, f-strings, methods of texts and lists, [::-1]. -/
namespace Ev
open PySem PySem.Spec PyProof.Rows L2
/-! ### [::-1] -/
theorem adj_rev (n : Nat) : Builtin.Slice.sliceAdjust none none (-1) (n : Int) = ((n : Int) - 1, (-1 : Int)) := by
  unfold Builtin.Slice.sliceAdjust
  simp
theorem pla_rev (n : Nat) : Builtin.Slice.slicePlaces ((n : Int) - 1) (-1) (-1) = n := by
  unfold Builtin.Slice.slicePlaces
  rw [if_neg (by decide)]
  have e : ((n : Int) - 1 - -1 - 1) / - -1 + 1 = n := by
    rw [show (- -1 : Int) = 1 from rfl, Int.ediv_one]
    omega
  rw [e]
  split <;> omega
theorem pick_rev (zs : List Value) : ((List.range zs.length).filterMap fun (k : Nat) => zs.toArray[(((zs.length : Int) - 1) + (k : Int) * (-1)).toNat]?) = zs.reverse := by
  have e0 : ∀ k ∈ List.range zs.length, zs.toArray[(((zs.length : Int) - 1) + (k : Int) * (-1)).toNat]? = zs.reverse[k]? := fun k hk => by
    have hk := List.mem_range.mp hk
    have e1 : (((zs.length : Int) - 1) + (k : Int) * (-1)).toNat = zs.length - 1 - k := by omega
    rw [e1, List.getElem?_reverse hk]
    simp
  have fc : ∀ (l : List Nat) (f g : Nat → Option Value), (∀ k ∈ l, f k = g k) → l.filterMap f = l.filterMap g := by
    intro l f g
    induction l with
    | nil => intro _; rfl
    | cons k l ih =>
      intro h
      rw [List.filterMap_cons, List.filterMap_cons, h k List.mem_cons_self, ih fun j hj => h j (List.mem_cons_of_mem _ hj)]
  rw [fc _ _ _ e0]
  have e2 : ∀ ys : List Value, (List.range ys.length).filterMap (fun k => ys[k]?) = ys := by
    intro ys
    induction ys with
    | nil => rfl
    | cons y ys ih =>
      rw [List.length_cons, List.range_succ_eq_map, List.filterMap_cons, List.filterMap_map]
      show y :: List.filterMap (fun k => ys[k]?) (List.range ys.length) = y :: ys
      rw [ih]
  have e3 := e2 zs.reverse
  rw [List.length_reverse] at e3
  exact e3
theorem app_rev {prog : Program} {w : PySem.World} {A : Around} {E : Value → Shared → Prop} {s : Shared} {q : Addr} {n : Nat} {v1 v2 v3 : Value} {Q : Int × Int × Nat → Shared → Prop} (hs : s.heap.IsSliceOf q v1 v2 v3) (p1 : IsPart v1 none) (p2 : IsPart v2 none) (p3 : IsPart v3 (some (-1))) (h : Q ((n : Int) - 1, -1, n) s) :
    wpAny (model prog w) A (Builtin.Slice.sliceApplied (.ref q) (pure (n : Int))) Q E s := by
  obtain ⟨os, g1, g2, g3⟩ := id hs
  cases p1
  cases p2
  cases p3
  unfold Builtin.Slice.sliceApplied Builtin.Slice.sliceFields
  refine wpAny_bind (wpAny_bind (wpAny_field g1 g3 (x := .none) rfl (wpAny_bind (wpAny_field g1 g3 (x := .none) rfl (wpAny_bind (wpAny_field g1 g3 rfl (wpAny_pure ?_)))))))
  refine wpAny_bind (PyProof.Rows.slicePart_int ?_)
  show wpAny _ _ (if ((-1 : Int) == 0) = true then _ else _) _ _ s
  rw [if_neg (show ¬ ((-1 : Int) == 0) = true by decide)]
  refine wpAny_bind (PyProof.Rows.slicePart_none (wpAny_bind (PyProof.Rows.slicePart_none (wpAny_bind (wpAny_pure ?_)))))
  show wpAny _ _ (match Builtin.Slice.sliceAdjust none none (-1) (n : Int) with | (lo, hi) => pure (lo, (-1 : Int), Builtin.Slice.slicePlaces lo hi (-1))) _ _ s
  rw [adj_rev n]
  show wpAny _ _ (pure ((n : Int) - 1, (-1 : Int), Builtin.Slice.slicePlaces ((n : Int) - 1) (-1) (-1))) _ _ s
  rw [pla_rev n]
  exact wpAny_pure h
theorem get_rev {prog : Program} {w : PySem.World} {A : Around} {E : Value → Shared → Prop} {s : Shared} {t q : Addr} {zs : List Value} {v1 v2 v3 : Value} {Q : Value → Shared → Prop} (hT : IsTup s.heap t zs.toArray) (hs : s.heap.IsSliceOf q v1 v2 v3) (p1 : IsPart v1 none) (p2 : IsPart v2 none) (p3 : IsPart v3 (some (-1)))
    (hz : zs.length ≤ sizeLine) (h : Q (.ref s.heap.objs.size) { s with heap := s.heap.push { cls := .type "tuple", data := .seq zs.reverse.toArray } }) : wpAny (model prog w) A (getItem (.ref t) (.ref q)) Q E s := by
  have big : sizeOk (.seq zs.reverse.toArray) := by
    show zs.reverse.toArray.size ≤ sizeLine
    rw [List.size_toArray, List.length_reverse]
    exact hz
  obtain ⟨os, g1, g2, g3⟩ := id hs
  have ty : s.TypeIs (.ref q) "slice" := ⟨os, g1, g2⟩
  unfold getItem
  try with_reducible refine wpAny_holding ?_
  first | refine wpAny_bind (wpAny_pure ?_) | skip
  refine wpAny_bind (wpAny_sequenceKey hT.typeIs (by decide) ?_)
  refine wpAny_bind (wpAny_callSpecial?_slot (name := Str.ofString "__getitem__") hT.typeIs PyProof.Rows.slot_tuple_getitem (wpAny_call_entry PyProof.Rows.slot_tuple_getitem hT.typeIs PyProof.Rows.entry_tuple_getitem ?_ (PyProof.Rows.args_tuple_getitem _ _)))
  show wpAny _ _ (Builtin.Tuple.tupleItemsOf (.ref t) >>= _) _ _ s
  refine wpAny_bind (tupleItemsOf_ hT (wpAny_bind (wpAny_typeOf ty ?_)))
  rw [if_pos (show (Value.type "slice" == Value.type "slice") = true by decide)]
  refine wpAny_bind (app_rev (n := zs.toArray.size) hs p1 p2 p3 ?_)
  show wpAny _ _ (if (((zs.toArray.size : Int) - 1 == 0 && (-1 : Int) == 1 && zs.toArray.size == zs.toArray.size)) = true then _ else _) _ _ s
  rw [if_neg (by simp)]
  have e1 : ((List.range zs.toArray.size).filterMap fun (k : Nat) => zs.toArray[(((zs.toArray.size : Int) - 1) + (k : Int) * (-1)).toNat]?).toArray = zs.reverse.toArray := congrArg List.toArray (by rw [List.size_toArray]; exact pick_rev zs)
  rw [e1]
  first
    | exact wpAny_bind (m := Builtin.Tuple.tupleExact _) (wpAny_newObj_type (wpAny_pure ⟨_, rfl, wpAny_pure h⟩) big)
    | exact wpAny_bind (m := Builtin.Tuple.tupleExact _) (wpAny_newObj_type (wpAny_bind (wpAny_pure (wpAny_pure ⟨_, rfl, wpAny_pure h⟩))) big)
    | exact wpAny_bind (wpAny_bind (m := Builtin.Tuple.tupleExact _) (wpAny_newObj_type (wpAny_pure (wpAny_pure ⟨_, rfl, wpAny_pure h⟩)) big))
    | exact wpAny_bind (wpAny_bind (m := Builtin.Tuple.tupleExact _) (wpAny_newObj_type (wpAny_pure ⟨_, rfl, wpAny_pure h⟩) big))
/-- [::-1] of a list, of a tuple -/
def tRevX (K : PySem.W.Frag) (te : TE) : TE := fun σ H Q => te σ H fun x H1 => (∃ a xs, x = .ref a ∧ SqL K H1 a xs ∧ ∀ p, H1 p = none → Q (.ref p) (upd H1 p (.lst xs.reverse))) ∨ ∃ a xs, x = .ref a ∧ SqT K H1 a xs ∧ ∀ p, H1 p = none → Q (.ref p) (upd H1 p (.tup xs.reverse))
theorem pe_revX {X : Cx} {o : Expr} {te : TE} {j : Nat} {q1 q2 q3 q4 : Pos} (he : PE X o te) : PE X (.Subscript o (.Slice none none (some (.UnaryOp .USub (.Constant (.int 1) j q1) q2)) q3) q4) (tRevX X.K te) := by
  refine ⟨fun pins s σ H Q I h => Subscript_ (thn (he.run pins s σ H _ I h) fun v s1 ⟨x, H1, I1, r1, c⟩ => ?_)⟩
  have neg : PO X (some (.UnaryOp .USub (.Constant (.int 1) j q1) q2)) (tPart (tUn (rU fun i => .int (-i)) (tC (.int 1)))) := po_some (pe_un un_neg pe_int)
  obtain ⟨a, rfl⟩ : ∃ a, x = .ref a := by
    rcases c with ⟨a, _, e, _⟩ | ⟨a, _, e, _⟩ <;> exact ⟨a, e⟩
  cases r1
  refine wpAny_Slice (thn (po_none.run pins s1 σ H1 (fun y H2 => y = none ∧ H2 = H1) I1 ⟨rfl, rfl⟩) fun v1 s2 ⟨y1, H2, I2, d1, e1, e2⟩ => ?_)
  subst e1 e2
  refine thn (po_none.run pins s2 σ H2 (fun y H3 => y = none ∧ H3 = H2) I2 ⟨rfl, rfl⟩) fun v2 s3 ⟨y2, H3, I3, d2, e3, e4⟩ => ?_
  subst e3 e4
  refine thn (neg.run pins s3 σ H3 (fun y H4 => y = some (-1) ∧ H4 = H3) I3 ⟨1, rfl, -1, rfl, rfl, rfl⟩) fun v3 s4 ⟨y3, H4, I4, d3, e5, e6⟩ => ?_
  subst e5 e6
  have J : Inv X pins σ H4 { s4 with heap := s4.heap.push { cls := .type "slice", data := .fields #[v1, v2, v3] } } := I4.kept (t' := s4.toks) fun b z q => Heap.get?_push_of_some _ q
  show wpAny (model X.prog X.w) X.A (subscriptTail o (.Slice none none (some (.UnaryOp .USub (.Constant (.int 1) j q1) q2)) q3) (.ref a) (.ref s4.heap.objs.size)) (EP X pins σ Q) X.xe { s4 with heap := s4.heap.push { cls := .type "slice", data := .fields #[v1, v2, v3] } }
  rcases c with ⟨b, ws, eb, hx, q⟩ | ⟨b, ws, eb, hx, q⟩
  · cases eb
    obtain ⟨us, rv, hl, hz⟩ := J.list hx
    have hn := rv.length
    refine tail_any (ops := [.ref a, .ref s4.heap.objs.size]) hl.isList.typeIs (PySem.slot_list_getitem.lookup) (wpAny_getItem_list_slice hl.isList (Heap.IsSliceOf.new _ v1 v2 v3) d1 d2 d3 (by decide) ?_ (by rw [List.size_toArray]; omega)) (by with_unfolding_all rfl)
    rw [PySem.W.krv_pick]
    exact ⟨.ref _, _, J.laid (t' := s4.toks) (o := .lst ws.reverse) (fun b z q => Heap.get?_push_of_some _ q) (Nat.le_refl _) ⟨by rw [List.length_reverse]; exact hz, _, 0, rv.reverse, Heap.get?_push_size _ rfl⟩, rfl, q _ (J.hok.fresh (Nat.le_refl _))⟩
  · cases eb
    obtain ⟨us, rv, hl, hz⟩ := J.tuple hx
    have hn := rv.length
    refine tail_any (ops := [.ref a, .ref s4.heap.objs.size]) hl.typeIs (PyProof.Rows.slot_tuple_getitem.lookup) (get_rev hl (Heap.IsSliceOf.new _ v1 v2 v3) d1 d2 d3 (by omega) ?_) (by with_unfolding_all rfl)
    exact ⟨.ref _, _, J.laid (t' := s4.toks) (o := .tup ws.reverse) (fun b z q => Heap.get?_push_of_some _ q) (Nat.le_refl _) ⟨by rw [List.length_reverse]; exact hz, _, rv.reverse, IsTup.new _ _⟩, rfl, q _ (J.hok.fresh (Nat.le_refl _))⟩
/-! ### [::2] of three -/
theorem app_two {prog : Program} {w : PySem.World} {A : Around} {E : Value → Shared → Prop} {s : Shared} {q : Addr} {v1 v2 v3 : Value} {Q : Int × Int × Nat → Shared → Prop} (hs : s.heap.IsSliceOf q v1 v2 v3) (p1 : IsPart v1 none) (p2 : IsPart v2 none) (p3 : IsPart v3 (some 2)) (h : Q (0, 2, 2) s) :
    wpAny (model prog w) A (Builtin.Slice.sliceApplied (.ref q) (pure ((3 : Nat) : Int))) Q E s := by
  obtain ⟨os, g1, g2, g3⟩ := id hs
  cases p1
  cases p2
  cases p3
  unfold Builtin.Slice.sliceApplied Builtin.Slice.sliceFields
  refine wpAny_bind (wpAny_bind (wpAny_field g1 g3 (x := .none) rfl (wpAny_bind (wpAny_field g1 g3 (x := .none) rfl (wpAny_bind (wpAny_field g1 g3 rfl (wpAny_pure ?_)))))))
  refine wpAny_bind (PyProof.Rows.slicePart_int ?_)
  show wpAny _ _ (if ((2 : Int) == 0) = true then _ else _) _ _ s
  rw [if_neg (show ¬ ((2 : Int) == 0) = true by decide)]
  refine wpAny_bind (PyProof.Rows.slicePart_none (wpAny_bind (PyProof.Rows.slicePart_none (wpAny_bind (wpAny_pure ?_)))))
  exact wpAny_pure h
theorem get_two {prog : Program} {w : PySem.World} {A : Around} {E : Value → Shared → Prop} {s : Shared} {t q : Addr} {a b c : Value} {v1 v2 v3 : Value} {Q : Value → Shared → Prop} (hT : IsTup s.heap t #[a, b, c]) (hs : s.heap.IsSliceOf q v1 v2 v3) (p1 : IsPart v1 none) (p2 : IsPart v2 none) (p3 : IsPart v3 (some 2))
    (h : Q (.ref s.heap.objs.size) { s with heap := s.heap.push { cls := .type "tuple", data := .seq #[a, c] } }) : wpAny (model prog w) A (getItem (.ref t) (.ref q)) Q E s := by
  have big : sizeOk (.seq #[a, c]) := by
    show 2 ≤ sizeLine
    rw [sizeLine_eq]
    decide
  obtain ⟨os, g1, g2, g3⟩ := id hs
  have ty : s.TypeIs (.ref q) "slice" := ⟨os, g1, g2⟩
  unfold getItem
  try with_reducible refine wpAny_holding ?_
  first | refine wpAny_bind (wpAny_pure ?_) | skip
  refine wpAny_bind (wpAny_sequenceKey hT.typeIs (by decide) ?_)
  refine wpAny_bind (wpAny_callSpecial?_slot (name := Str.ofString "__getitem__") hT.typeIs PyProof.Rows.slot_tuple_getitem (wpAny_call_entry PyProof.Rows.slot_tuple_getitem hT.typeIs PyProof.Rows.entry_tuple_getitem ?_ (PyProof.Rows.args_tuple_getitem _ _)))
  show wpAny _ _ (Builtin.Tuple.tupleItemsOf (.ref t) >>= _) _ _ s
  refine wpAny_bind (tupleItemsOf_ hT (wpAny_bind (wpAny_typeOf ty ?_)))
  rw [if_pos (show (Value.type "slice" == Value.type "slice") = true by decide)]
  refine wpAny_bind (app_two hs p1 p2 p3 ?_)
  show wpAny _ _ (if (((0 : Int) == 0 && (2 : Int) == 1 && (2 : Nat) == 3)) = true then _ else _) _ _ s
  rw [if_neg (by decide)]
  show wpAny _ _ (Builtin.Tuple.tupleExact #[a, c] >>= _) _ _ s
  first
    | exact wpAny_bind (m := Builtin.Tuple.tupleExact _) (wpAny_newObj_type (wpAny_pure ⟨_, rfl, wpAny_pure h⟩) big)
    | exact wpAny_bind (m := Builtin.Tuple.tupleExact _) (wpAny_newObj_type (wpAny_bind (wpAny_pure (wpAny_pure ⟨_, rfl, wpAny_pure h⟩))) big)
    | exact wpAny_bind (wpAny_bind (m := Builtin.Tuple.tupleExact _) (wpAny_newObj_type (wpAny_pure (wpAny_pure ⟨_, rfl, wpAny_pure h⟩)) big))
    | exact wpAny_bind (wpAny_bind (m := Builtin.Tuple.tupleExact _) (wpAny_newObj_type (wpAny_pure ⟨_, rfl, wpAny_pure h⟩) big))
def tTwo (K : PySem.W.Frag) (te : TE) : TE := fun σ H Q => te σ H fun x H1 => ∃ a u v w, x = .ref a ∧ SqT K H1 a [u, v, w] ∧ ∀ p, H1 p = none → Q (.ref p) (upd H1 p (.tup [u, w]))
theorem vals3 {u v w : V} {us : List Value} (h : Vals [u, v, w] us) : ∃ a b c, us = [a, b, c] ∧ Vals [u, w] [a, c] := by
  cases h with
  | cons h1 h => cases h with
    | cons h2 h => cases h with
      | cons h3 h => cases h; exact ⟨_, _, _, rfl, .cons h1 (.cons h3 .nil)⟩
theorem pe_two {X : Cx} {o : Expr} {te : TE} {j : Nat} {q1 q3 q4 : Pos} (he : PE X o te) : PE X (.Subscript o (.Slice none none (some (.Constant (.int 2) j q1)) q3) q4) (tTwo X.K te) := by
  refine ⟨fun pins s σ H Q I h => Subscript_ (thn (he.run pins s σ H _ I h) fun v s1 ⟨x, H1, I1, r1, c⟩ => ?_)⟩
  have neg : PO X (some (.Constant (.int 2) j q1)) (tPart (tC (.int 2))) := po_some pe_int
  obtain ⟨a, u, v', w, rfl, hx, q⟩ := c
  cases r1
  refine wpAny_Slice (thn (po_none.run pins s1 σ H1 (fun y H2 => y = none ∧ H2 = H1) I1 ⟨rfl, rfl⟩) fun v1 s2 ⟨y1, H2, I2, d1, e1, e2⟩ => ?_)
  subst e1 e2
  refine thn (po_none.run pins s2 σ H2 (fun y H3 => y = none ∧ H3 = H2) I2 ⟨rfl, rfl⟩) fun v2 s3 ⟨y2, H3, I3, d2, e3, e4⟩ => ?_
  subst e3 e4
  refine thn (neg.run pins s3 σ H3 (fun y H4 => y = some 2 ∧ H4 = H3) I3 ⟨2, rfl, rfl, rfl⟩) fun v3 s4 ⟨y3, H4, I4, d3, e5, e6⟩ => ?_
  subst e5 e6
  have J : Inv X pins σ H4 { s4 with heap := s4.heap.push { cls := .type "slice", data := .fields #[v1, v2, v3] } } := I4.kept (t' := s4.toks) fun b z q => Heap.get?_push_of_some _ q
  show wpAny (model X.prog X.w) X.A (subscriptTail o (.Slice none none (some (.Constant (.int 2) j q1)) q3) (.ref a) (.ref s4.heap.objs.size)) (EP X pins σ Q) X.xe { s4 with heap := s4.heap.push { cls := .type "slice", data := .fields #[v1, v2, v3] } }
  obtain ⟨us, rv, hl, hz⟩ := J.tuple hx
  obtain ⟨a1, b1, c1, rfl, rv2⟩ := vals3 rv
  refine tail_any (ops := [.ref a, .ref s4.heap.objs.size]) hl.typeIs (PyProof.Rows.slot_tuple_getitem.lookup) (get_two hl (Heap.IsSliceOf.new _ v1 v2 v3) d1 d2 d3 ?_) (by with_unfolding_all rfl)
  exact ⟨.ref _, _, J.laid (t' := s4.toks) (o := .tup [u, w]) (fun b z q => Heap.get?_push_of_some _ q) (Nat.le_refl _) ⟨by rw [sizeLine_eq]; show 2 ≤ 16777216; decide, _, rv2, IsTup.new _ _⟩, rfl, q _ (J.hok.fresh (Nat.le_refl _))⟩
section
variable {B : Bg} {W : WX} {X : Cx} {e o : Expr} {es : List Expr} {pos apos : Pos} {te ta to : DTE} {tA tB : DTA}
/-! ### [*e, ..] -/
def seqD : D → Option (List D)
  | .lst xs => some xs
  | .tup xs => some xs
  | _ => none
def dStar (te : DTE) (ta : DTA) : DTA := fun en st k e => te en st (fun x en1 st1 => ∃ xs, seqD x.d = some xs ∧ ta en1 st1 (fun ds en2 st2 => k (xs ++ ds) en2 st2) e) e
theorem dStar_mono (m : MonoE te) (ma : MonoA tA) : MonoA (dStar te tA) := fun _ _ _ _ _ _ hk he h => m _ _ _ _ _ _ (fun _ _ _ ⟨xs, z1, z2⟩ => ⟨xs, z1, ma _ _ _ _ _ _ (fun _ _ _ y => hk _ _ _ y) he z2⟩) he h
theorem da_star {p : Pos} (hK : X.K = B.K) (h : DE B W X e te) (ha : DA B W X es tA) : DA B W X (.Starred e p :: es) (dStar te tA) := by
  refine ⟨dStar_mono h.mono ha.mono, PA.weak (StX.pa_star h.run ha.run) fun σ H Q ⟨F, r, en, st, R, q⟩ => ?_⟩
  refine at_bind (k := fun d _ en1 st1 => ∃ xs, seqD d = some xs ∧ tA en1 st1 (fun ds en2 st2 => Apost B σ Q F r en H (xs ++ ds) en2 st2) (Epost B σ W F r en H)) h.mono R q fun d en1 st1 F1 r1 H1 v S1 R1 rep1 h1 => ?_
  obtain ⟨xs, e1, h1⟩ := h1
  have tail : ∀ ws : List V, Reps B F1 r1 xs ws → tMA B W tA σ H1 fun ys H2 => Q (ws ++ ys) H2 := fun ws hw => by
    refine at_bindA (k := fun ds en2 st2 => Apost B σ Q F r en H (xs ++ ds) en2 st2) ha.mono R1 (ha.mono _ _ _ _ _ _ (fun _ _ _ z => z) (fun _ _ _ z => z.shift S1) h1) fun ds en2 st2 F2 r2 H2 vs S2 R2 rep2 h2 => ?_
    exact h2 F2 r2 H2 (ws ++ vs) (S1.trans S2) R2 (Reps.app rep2 (hw.step S2))
  cases d <;> simp only [seqD, reduceCtorEq, Option.some.injEq] at e1
  · subst e1
    obtain ⟨a, ws, rfl, g1, g2⟩ := rep1
    exact ⟨a, ws, rfl, .inl (by rw [hK]; exact R1.w.sub.sqT g1), tail ws g2⟩
  · subst e1
    obtain ⟨a, ws, rfl, g1, g2⟩ := rep1
    exact ⟨a, ws, rfl, .inr (SqL.of (R1.w.sub _ _ g1)), tail ws g2⟩
/-! ### f-strings -/
def fmtD : D → Option Str
  | .str y => if y.length ≤ sizeLine then some y else none
  | .int i => if i.natAbs.log2 < 1920 then some (toString i) else none
  | _ => none
def dJs : List DTE → Str → En → List D → (Str → En → List D → Prop) → KX → Prop
  | [], acc, en, st, k, _ => k acc en st
  | t :: ts, acc, en, st, k, e => t en st (fun x en1 st1 => ∃ y, fmtD x.d = some y ∧ (acc ++ y).length ≤ sizeLine ∧ dJs ts (acc ++ y) en1 st1 k e) e
theorem dJs_mono {k k' : Str → En → List D → Prop} {e e' : KX} (hk : ∀ x n s, k x n s → k' x n s) (he : ∀ x n s, e x n s → e' x n s) : ∀ (ts : List DTE) (acc : Str) (en : En) (st : List D), (∀ t ∈ ts, MonoE t) → dJs ts acc en st k e → dJs ts acc en st k' e'
  | [], acc, en, st, _, h => hk _ _ _ h
  | t :: ts, acc, en, st, m, h => m t List.mem_cons_self _ _ _ _ _ _ (fun _ _ _ ⟨y, z1, z2, z3⟩ => ⟨y, z1, z2, dJs_mono hk he ts _ _ _ (fun u hu => m u (List.mem_cons_of_mem _ hu)) z3⟩) he h
/-- a part of an f-string and its reading -/
inductive DJ (B : Bg) (W : WX) (X : Cx) : List Expr → List DTE → Prop where
  | nil : DJ B W X [] []
  | con {s : Str} {j : Nat} {p : Pos} {es : List Expr} {ts : List DTE} (r : DJ B W X es ts) : DJ B W X (.Constant (.str s) j p :: es) (dC (.str s) :: ts)
  | fmt {e : Expr} {t : DTE} {p : Pos} {es : List Expr} {ts : List DTE} (h : DE B W X e t) (r : DJ B W X es ts) : DJ B W X (.FormattedValue e (-1) none p :: es) (t :: ts)
theorem DJ.mono {es : List Expr} {ts : List DTE} (h : DJ B W X es ts) : ∀ t ∈ ts, MonoE t := by
  induction h with
  | nil => intro t ht; cases ht
  | con r ih =>
    intro t ht
    rcases List.mem_cons.mp ht with z | z
    · rw [z]; exact dC_mono _
    · exact ih t z
  | fmt h r ih =>
    intro t ht
    rcases List.mem_cons.mp ht with z | z
    · rw [z]; exact h.mono
    · exact ih t z
def tDJ (B : Bg) (W : WX) : List Expr → List DTE → List TE
  | .Constant (.str s) _ _ :: es, _ :: ts => tC (.str s) :: tDJ B W es ts
  | _ :: es, t :: ts => tFmt (tM B W t) :: tDJ B W es ts
  | _, _ => []
theorem DJ.pj {es : List Expr} {ts : List DTE} (h : DJ B W X es ts) : PJ X es (tDJ B W es ts) := by
  induction h with
  | nil => exact .nil
  | con r ih => exact .cons pe_str ih
  | fmt h r ih => exact .cons (pe_fmt h.run) ih
theorem dj_read {σ : Sl} {Q : Str → Hp → Prop} {F : Hp} {r : List Addr} {en : En} {H : Hp} {es : List Expr} {ts : List DTE} (h : DJ B W X es ts) : ∀ {acc : Str} {F1 : Hp} {r1 : List Addr} {en1 : En} {st1 : List D} {H1 : Hp}, Step σ en F r H σ en1 F1 r1 H1 → Rel B F1 r1 en1 st1 σ H1 →
    dJs ts acc en1 st1 (fun out en2 st2 => ∀ F2 r2 H2, Step σ en F r H σ en2 F2 r2 H2 → Rel B F2 r2 en2 st2 σ H2 → Q out H2) (Epost B σ W F r en H) → tJs (tDJ B W es ts) acc σ H1 Q := by
  induction h with
  | nil => intro acc F1 r1 en1 st1 H1 S1 R1 q; exact q F1 r1 H1 S1 R1
  | @con s0 j p es ts r ih =>
    intro acc F1 r1 en1 st1 H1 S1 R1 q
    obtain ⟨y, z1, z2, z3⟩ := q
    have ey : y = s0 := by
      simp only [T.d, fmtD] at z1
      split at z1
      · exact (Option.some.inj z1).symm
      · cases z1
    subst ey
    exact ⟨_, rfl, z2, ih S1 R1 z3⟩
  | fmt h r ih =>
    intro acc F1 r1 en1 st1 H1 S1 R1 q
    refine at_bind (k := fun d _ en2 st2 => ∃ y, fmtD d = some y ∧ (acc ++ y).length ≤ sizeLine ∧ dJs _ (acc ++ y) en2 st2 _ _) h.mono R1 (h.mono _ _ _ _ _ _ (fun _ _ _ z => z) (fun _ _ _ z => z.shift S1) q) fun d en2 st2 F2 r2 H2 v S2 R2 rep2 h2 => ?_
    obtain ⟨y, z1, z2, z3⟩ := h2
    cases d <;> simp only [fmtD, reduceCtorEq] at z1
    · split at z1
      · cases z1
        cases rep2
        exact .inr ⟨_, rfl, by assumption, _, rfl, z2, ih (S1.trans S2) R2 z3⟩
      · cases z1
    · split at z1
      · cases z1
        cases rep2
        exact .inl ⟨_, rfl, by assumption, _, rfl, z2, ih (S1.trans S2) R2 z3⟩
      · cases z1
def dFs (ts : List DTE) : DTE := fun en st k e => dJs ts Str.empty en st (fun out en1 st1 => k (.v (.str out)) en1 st1) e
theorem de_fs {v1 v2 : Expr} {rest : List Expr} {ts : List DTE} (h : DJ B W X (v1 :: v2 :: rest) ts) : DE B W X (.JoinedStr (v1 :: v2 :: rest) pos) (dFs ts) := by
  refine ⟨fun _ _ _ _ _ _ hk he q => dJs_mono (fun _ _ _ z => hk _ _ _ z) he ts _ _ _ h.mono q, PE.weak (pe_joined h.pj) fun σ H Q ⟨F, r, en, st, R, q⟩ => ?_⟩
  exact dj_read (Q := fun out H1 => Q (.str out) H1) h Step.refl R (dJs_mono (fun out n s z F2 r2 H2 S2 R2 => z F2 r2 H2 _ S2 R2 rfl) (fun _ _ _ z => z) ts _ _ _ h.mono q)
/-! ### [::-1], by data -/
def dRev (ta : DTE) : DTE := fun en st k e => ta en st (fun x en1 st1 => match x.d with
  | .lst xs => k (.o (.lst xs.reverse)) en1 st1
  | .tup xs => k (.v (.tup xs.reverse)) en1 st1
  | _ => False) e
theorem Reps.rev {F : Hp} {r : List Addr} : ∀ {ds : List D} {vs : List V}, Reps B F r ds vs → Reps B F r ds.reverse vs.reverse
  | [], vs, h => by cases h; rfl
  | d :: ds, vs, ⟨v, t, e, h1, h2⟩ => by
    subst e
    rw [List.reverse_cons, List.reverse_cons]
    exact Reps.app (show Reps B F r [d] [v] from ⟨v, [], rfl, h1, rfl⟩) (Reps.rev h2)
theorem dRev_mono (m : MonoE ta) : MonoE (dRev ta) := fun _ _ _ _ _ _ hk he h => m _ _ _ _ _ _ (fun _ _ _ z => by
  split at z
  · exact hk _ _ _ z
  · exact hk _ _ _ z
  · exact z.elim) he h
theorem de_rev (hK : X.K = B.K) {k : Nat} {p1 p2 p3 : Pos} (h : DE B W X e ta) : DE B W X (.Subscript e (.Slice none none (some (.UnaryOp .USub (.Constant (.int 1) k p1) p2)) p3) pos) (dRev ta) := by
  refine ⟨dRev_mono h.mono, PE.weak (pe_revX h.run) fun σ H Q ⟨F, r, en, st, R, q⟩ => ?_⟩
  refine at_bind (k := fun d _ en1 st1 => match d with
    | .lst xs => Kpost B σ Q F r en H (.o (.lst xs.reverse)) en1 st1
    | .tup xs => Kpost B σ Q F r en H (.v (.tup xs.reverse)) en1 st1
    | _ => False) h.mono R q fun d en1 st1 F1 r1 H1 v S1 R1 rep1 h1 => ?_
  split at h1
  · obtain ⟨a, ws, rfl, g1, g2⟩ := rep1
    exact .inl ⟨a, ws, rfl, SqL.of (R1.w.sub _ _ g1), fun p hp => kp_new (h1.shift S1) R1 hp ⟨_, rfl, g2.rev⟩⟩
  · obtain ⟨a, ws, rfl, g1, g2⟩ := rep1
    exact .inr ⟨a, ws, rfl, by rw [hK]; exact R1.w.sub.sqT g1, fun p hp => kp_tup (h1.shift S1) R1 hp g2.rev⟩
  · exact h1.elim
def dTwo (ta : DTE) : DTE := fun en st k e => ta en st (fun x en1 st1 => match x.d with
  | .tup [a, b, c] => k (.v (.tup [a, c])) en1 st1
  | _ => False) e
theorem dTwo_mono (m : MonoE ta) : MonoE (dTwo ta) := fun _ _ _ _ _ _ hk he h => m _ _ _ _ _ _ (fun _ _ _ z => by
  split at z
  · exact hk _ _ _ z
  · exact z.elim) he h
theorem de_two (hK : X.K = B.K) {k : Nat} {p1 p3 : Pos} (h : DE B W X e ta) : DE B W X (.Subscript e (.Slice none none (some (.Constant (.int 2) k p1)) p3) pos) (dTwo ta) := by
  refine ⟨dTwo_mono h.mono, PE.weak (pe_two h.run) fun σ H Q ⟨F, r, en, st, R, q⟩ => ?_⟩
  refine at_bind (k := fun d _ en1 st1 => match d with
    | .tup [a, b, c] => Kpost B σ Q F r en H (.v (.tup [a, c])) en1 st1
    | _ => False) h.mono R q fun d en1 st1 F1 r1 H1 v S1 R1 rep1 h1 => ?_
  split at h1
  · obtain ⟨a, ws, rfl, g1, u, t1, rfl, w1, v, t2, rfl, w2, w', t3, rfl, w3, w4⟩ := rep1
    cases w4
    exact ⟨a, u, v, w', rfl, by rw [hK]; exact R1.w.sub.sqT g1, fun p hp => kp_tup (h1.shift S1) R1 hp ⟨u, [w'], rfl, w1, w', [], rfl, w3, rfl⟩⟩
  · exact h1.elim
/-! ### methods of texts and lists -/
inductive Bm where
  | split | join | count | index
  deriving DecidableEq
def Bm.nm : Bm → Str
  | .split => "split"
  | .join => "join"
  | .count => "count"
  | .index => "index"
def bmAll : List Bm := [.split, .join, .count, .index]
def bmOf (x : Str) : Option Bm := bmAll.find? fun f => decide (f.nm = x)
theorem bmOf_nm {x : Str} {f : Bm} (h : bmOf x = some f) : f.nm = x := by
  have q := List.find?_some h
  exact of_decide_eq_true q
/-- the receiver's type -/
def Bm.rc : Bm → D → Bool
  | .count, .lst _ => true
  | .count, _ => false
  | .index, .lst _ => true
  | .index, _ => false
  | _, .str _ => true
  | _, _ => false
def Bm.g : Bm → D → D → (T → Prop) → Prop
  | .split, .str a, .str b, k => (b.length == 0) = false ∧ a.length + 2 ≤ sizeLine ∧ k (.o (.lst ((Txt.split a b).map D.str)))
  | .join, .str a, .lst xs, k => ∃ ys : List Str, xs = ys.map D.str ∧ (ys.map (·.length)).sum + ys.length * a.length ≤ 16777216 ∧ k (.v (.str (Txt.join a ys)))
  | .count, .lst xs, .int i, k => ∃ ns : List Int, xs = ns.map D.int ∧ k (.v (.int (ns.count i : Nat)))
  | .count, .lst xs, .bl b, k => ∃ bs : List Bool, xs = bs.map D.bl ∧ k (.v (.int (bs.count b : Nat)))
  | .count, .lst xs, .str z, k => ∃ zs : List Str, xs = zs.map D.str ∧ k (.v (.int (zs.count z : Nat)))
  | .index, .lst xs, .bl b, k => ∃ (bs : List Bool) (j : Nat), xs = bs.map D.bl ∧ bs[j]? = some b ∧ (∀ m, m < j → bs[m]? ≠ some b) ∧ k (.v (.int (j : Nat)))
  | _, _, _, _ => False
theorem Bm.mono (f : Bm) {d d' : D} {k k' : T → Prop} (hk : ∀ t, k t → k' t) (h : f.g d d' k) : f.g d d' k' := by
  unfold Bm.g at h ⊢
  split at h
  · exact ⟨h.1, h.2.1, hk _ h.2.2⟩
  · obtain ⟨ys, h1, h2, h3⟩ := h; exact ⟨ys, h1, h2, hk _ h3⟩
  · obtain ⟨ys, h1, h2⟩ := h; exact ⟨ys, h1, hk _ h2⟩
  · obtain ⟨ys, h1, h2⟩ := h; exact ⟨ys, h1, hk _ h2⟩
  · obtain ⟨ys, h1, h2⟩ := h; exact ⟨ys, h1, hk _ h2⟩
  · obtain ⟨ys, j, h1, h2, h3, h4⟩ := h; exact ⟨ys, j, h1, h2, h3, hk _ h4⟩
  · exact h.elim
def dBm (f : Bm) (to te : DTE) : DTE := fun en st k e => to en st (fun x en1 st1 => f.rc x.d = true ∧ te en1 st1 (fun y en2 st2 => f.g x.d y.d fun t => k t en2 st2) e) e
theorem dBm_mono {f : Bm} (m : MonoE to) (me : MonoE te) : MonoE (dBm f to te) := fun _ _ _ _ _ _ hk he h => m _ _ _ _ _ _ (fun _ _ _ z => ⟨z.1, me _ _ _ _ _ _ (fun _ _ _ y => f.mono (fun _ w => hk _ _ _ w) y) he z.2⟩) he h
def rGM (B : Bg) (f : Bm) : V → List V → Hp → VK → Prop := fun x xs H Q => ∃ σ F r en st d d' u, xs = [u] ∧ Rel B F r en st σ H ∧ Rep B F r d x ∧ Rep B F r d' u ∧ f.g d d' fun t => Kpost B σ Q F r en H t en st
theorem strs_rep {F : Hp} {r : List Addr} : ∀ (ns : List Str), Reps B F r (ns.map D.str) (ns.map V.str)
  | [] => rfl
  | n :: ns => ⟨_, _, rfl, rfl, strs_rep ns⟩
theorem all_flat : ∀ bs : List Bool, (bs.map V.bl).all flatV = true
  | [] => rfl
  | b :: bs => by rw [List.map_cons, List.all_cons, all_flat bs]; rfl
/-- list.count at truths -/
theorem mt_countB {p : Addr} {bs : List Bool} {b : Bool} {pins : List (Addr × Obj)} {s : Shared} {σ : Sl} {H : Hp} {v : Value} {us : List Value} {Q : VK} (I : Inv X pins σ H s) (rx : RelV (.ref p) v) (rxs : Vals [.bl b] us) (hs : SqL X.K H p (bs.map V.bl)) (q : Q (.int (bs.count b : Nat)) H) :
    wpAny (model X.prog X.w) X.A (call (.builtin "list.count") (v :: us)) (EP X pins σ Q) X.xe s := by
  cases rx
  obtain ⟨u, rfl, ru⟩ := rxs.one
  cases ru
  obtain ⟨its, rv, ⟨⟨cls, dd, data, sl⟩, n, ho, hc, hdn, hd⟩, hlen⟩ := I.list hs
  simp only at hc hd
  subst hc hd
  refine call_meets PySem.F.slot_list_count ⟨_, ho, rfl⟩ PySem.F.entry_list_count (PySem.F.args_list_count_2 _ _)
    (SeqAt.list_countAt p its.toArray n dd sl (.bool b) (eqU (.bl b))) ⟨ho, fun u' hu' => mem_eqAt (x := .bl b) rfl rfl rv (all_flat bs) u' (by simpa using hu'), ?_⟩
  have ec : ∀ (bs : List Bool) (its : List Value), Vals (bs.map V.bl) its → its.countP (eqU (.bl b)) = bs.count b := by
    intro bs
    induction bs with
    | nil => intro its h; cases h; rfl
    | cons c bs ih =>
      intro its h
      cases h with
      | cons r1 r2 =>
        cases r1
        rw [List.countP_cons, List.count_cons, ih _ r2]
        rfl
  refine ⟨.int (bs.count b : Nat), H, I.tok _, ⟨s.toks, ?_⟩, q⟩
  show Value.int ((its.toArray.toList.countP (eqU (.bl b)) : Nat) : Int) s.toks = _
  rw [show its.toArray.toList = its from rfl, ec bs its rv]
theorem all_flatS : ∀ zs : List Str, (zs.map V.str).all flatV = true
  | [] => rfl
  | z :: zs => by rw [List.map_cons, List.all_cons, all_flatS zs]; rfl
/-- list.count at texts -/
theorem mt_countS {p : Addr} {zs : List Str} {z : Str} {pins : List (Addr × Obj)} {s : Shared} {σ : Sl} {H : Hp} {v : Value} {us : List Value} {Q : VK} (I : Inv X pins σ H s) (rx : RelV (.ref p) v) (rxs : Vals [.str z] us) (hs : SqL X.K H p (zs.map V.str)) (q : Q (.int (zs.count z : Nat)) H) :
    wpAny (model X.prog X.w) X.A (call (.builtin "list.count") (v :: us)) (EP X pins σ Q) X.xe s := by
  cases rx
  obtain ⟨u, rfl, tk, rfl⟩ := rxs.one
  obtain ⟨its, rv, ⟨⟨cls, dd, data, sl⟩, n, ho, hc, hdn, hd⟩, hlen⟩ := I.list hs
  simp only at hc hd
  subst hc hd
  refine call_meets PySem.F.slot_list_count ⟨_, ho, rfl⟩ PySem.F.entry_list_count (PySem.F.args_list_count_2 _ _)
    (SeqAt.list_countAt p its.toArray n dd sl (.str z tk) (eqU (.str z))) ⟨ho, fun u' hu' => mem_eqAt (x := .str z) ⟨tk, rfl⟩ rfl rv (all_flatS zs) u' (by simpa using hu'), ?_⟩
  have ec : ∀ (zs : List Str) (its : List Value), Vals (zs.map V.str) its → its.countP (eqU (.str z)) = zs.count z := by
    intro zs
    induction zs with
    | nil => intro its h; cases h; rfl
    | cons c zs ih =>
      intro its h
      cases h with
      | cons r1 r2 =>
        obtain ⟨t1, rfl⟩ := r1
        rw [List.countP_cons, List.count_cons, ih _ r2]
        rfl
  refine ⟨.int (zs.count z : Nat), H, I.tok _, ⟨s.toks, ?_⟩, q⟩
  show Value.int ((its.toArray.toList.countP (eqU (.str z)) : Nat) : Int) s.toks = _
  rw [show its.toArray.toList = its from rfl, ec zs its rv]
theorem mt_bm (hK : X.K = B.K) (f : Bm) : MtR X (match f with | .split => "str.split" | .join => "str.join" | .count => "list.count" | .index => "list.index") (rGM B f) := by
  intro pins s σ' H x xs v us Q I rx rxs ⟨σ, F, r, en, st, d, d', u, ex, R, p, q, h⟩
  subst ex
  cases f <;> cases d <;> first | exact False.elim h | (cases d' <;> first | exact False.elim h | skip)
  · cases p
    cases q
    exact mt_split pins s σ' H _ _ v us Q I rx rxs ⟨_, _, rfl, rfl, h.1, h.2.1, fun a ha => kp_new h.2.2 R ha ⟨_, rfl, strs_rep _⟩⟩
  · cases p
    obtain ⟨ys, rfl, h2, h3⟩ := h
    obtain ⟨l, ws, rfl, e1, w1⟩ := q
    have ew := reps_strs_inv w1
    subst ew
    exact mt_join pins s σ' H _ _ v us Q I rx rxs ⟨_, l, ys, rfl, rfl, .inl (SqL.of (R.w.sub _ _ e1)), h2, kp_val h3 R rfl⟩
  · obtain ⟨l, ws, rfl, e1, w1⟩ := p
    cases q
    obtain ⟨bs, rfl, h3⟩ := h
    have ew := reps_bls_inv w1
    subst ew
    exact mt_countB I rx rxs (SqL.of (R.w.sub _ _ e1)) (kp_val h3 R rfl)
  · obtain ⟨l, ws, rfl, e1, w1⟩ := p
    cases q
    obtain ⟨ns, rfl, h3⟩ := h
    have ew := reps_ints_inv w1
    subst ew
    exact mt_lcount pins s σ' H _ _ v us Q I rx rxs ⟨l, ns, _, rfl, rfl, SqL.of (R.w.sub _ _ e1), kp_val h3 R rfl⟩
  · obtain ⟨l, ws, rfl, e1, w1⟩ := p
    cases q
    obtain ⟨zs, rfl, h3⟩ := h
    have ew := reps_strs_inv w1
    subst ew
    exact mt_countS I rx rxs (SqL.of (R.w.sub _ _ e1)) (kp_val h3 R rfl)
  · obtain ⟨l, ws, rfl, e1, w1⟩ := p
    cases q
    obtain ⟨bs, j, rfl, hj, hno, h3⟩ := h
    have ew := reps_bls_inv w1
    subst ew
    rename_i b
    refine mt_index pins s σ' H _ _ v us Q I rx rxs ⟨l, _, .bl b, j, .bl b, rfl, rfl, SqL.of (R.w.sub _ _ e1), rfl, all_flat bs, by rw [List.getElem?_map, hj]; rfl, by show (b == b) = true; exact beq_self_eq_true b, fun m z' hm hz => ?_, kp_val h3 R rfl⟩
    rw [List.getElem?_map] at hz
    obtain ⟨c, hc, rfl⟩ := Option.map_eq_some_iff.mp hz
    show (c == b) = false
    exact beq_eq_false_iff_ne.mpr fun z => hno m hm (z ▸ hc)
theorem de_bm (hK : X.K = B.K) (f : Bm) (ho : DE B W X o to) (he : DE B W X e te) (hs : ∀ y q, e ≠ .Starred y q) (hb : attributeBase o f.nm X.env (eval o X.env) = eval o X.env) (hline : (apos.endLine == pos.line) = true) :
    DE B W X (.Call (.Attribute o f.nm apos) [e] [] pos) (dBm f to te) := by
  have hst : starEach [e] X.env = [(false, eval e X.env)] := notStar_each hs
  have ha := da_cons he da_nil hs
  have rd : ∀ (Ty : String) σ H Q, (∀ (d : D) (v : V) (F : Hp) (r : List Addr) (H1 : Hp), f.rc d = true → Sub F H1 → Rep B F r d v → L2.tyV X.K Ty v H1) → tM B W (dBm f to te) σ H Q → tBM X.K Ty (rGM B f) (tM B W to) (tMA B W (dCons te dNil)) σ H Q := fun Ty σ H Q hty ⟨F, r, en, st, R, q⟩ => by
    refine at_bind (k := fun d _ en1 st1 => f.rc d = true ∧ te en1 st1 (fun y en2 st2 => f.g d y.d fun t => Kpost B σ Q F r en H t en2 st2) (Epost B σ W F r en H)) ho.mono R q fun d en1 st1 F1 r1 H1 v S1 R1 rep1 ⟨h0, h1⟩ => ?_
    refine ⟨hty d v F1 r1 H1 h0 R1.w.sub rep1, F1, r1, en1, st1, R1, he.mono _ _ _ _ _ _ (fun y en2 st2 h2 => ?_) (fun _ _ _ z => z.shift S1) h1⟩
    intro F2 r2 H2 vs S2 R2 rep2
    obtain ⟨u, rfl, ru⟩ := reps1 rep2
    exact ⟨σ, F2, r2, en2, st2, d, y.d, u, rfl, R2, rep1.step S2, ru, f.mono (fun t ht => ht.shift (S1.trans S2)) h2⟩
  have hs1 : ∀ x ∈ [e], ∀ y q, x ≠ .Starred y q := fun x hx => by
    rw [List.mem_singleton] at hx
    rw [hx]
    exact hs
  have few : ((backTo pos (starEach [e] X.env)).all (fun x => !x.1) && (backToKw pos (keywordEach [] X.env)).all (fun x => x.1.isSome) && decide ([e].length + ([] : List Keyword).length + (if ([] : List Keyword).isEmpty then 0 else 1) < 30)) = true := by
    rw [any_all (noStars (env := X.env) hs1 pos)]
    rfl
  have str : ∀ (d : D) (v : V) (F : Hp) (r : List Addr) (H1 : Hp), (∃ z, d = .str z) → Sub F H1 → Rep B F r d v → L2.tyV X.K "str" v H1 := fun d v F r H1 ⟨z, e⟩ _ q => by
    subst e
    cases q
    exact (rfl : "str" = "str")
  refine ⟨dBm_mono ho.mono he.mono, ?_⟩
  cases f with
  | split => exact PE.weak (pe_bm PySem.F.plainAttrs_str PySem.F.slot_str_split PySem.F.type_str_split (mt_bm hK .split) ho.run ha.run hb few hline hst rfl) fun σ H Q h => rd "str" σ H Q (fun d v F r H1 h0 sb q => str d v F r H1 (by cases d <;> first | exact ⟨_, rfl⟩ | cases h0) sb q) h
  | join => exact PE.weak (pe_bm PySem.F.plainAttrs_str PySem.F.slot_str_join PySem.F.type_str_join (mt_bm hK .join) ho.run ha.run hb few hline hst rfl) fun σ H Q h => rd "str" σ H Q (fun d v F r H1 h0 sb q => str d v F r H1 (by cases d <;> first | exact ⟨_, rfl⟩ | cases h0) sb q) h
  | count => exact PE.weak (pe_bm PySem.F.plainAttrs_list PySem.F.slot_list_count PySem.F.type_list_count (mt_bm hK .count) ho.run ha.run hb few hline hst rfl) fun σ H Q h => rd "list" σ H Q (fun d v F r H1 h0 sb q => by
      cases d <;> first | (cases h0; done) | skip
      obtain ⟨l, ws, rfl, e1, w1⟩ := q
      exact .inl ⟨rfl, ws, SqL.of (sb _ _ e1)⟩) h
  | index => exact PE.weak (pe_bm PySem.F.plainAttrs_list PySem.F.slot_list_index PySem.F.type_list_index (mt_bm hK .index) ho.run ha.run hb few hline hst rfl) fun σ H Q h => rd "list" σ H Q (fun d v F r H1 h0 sb q => by
      cases d <;> first | (cases h0; done) | skip
      obtain ⟨l, ws, rfl, e1, w1⟩ := q
      exact .inl ⟨rfl, ws, SqL.of (sb _ _ e1)⟩) h
end
end Ev
set_option Elab.async false
set_option linter.all false
set_option autoImplicit false
set_option maxRecDepth 100000
/-! Ev, part Kv: == and != of own classes. -/
namespace Ev
open PySem PySem.Spec PyProof.Rows L2
section
variable {M : Model} {prog : Program} {w : PySem.World} {A : Around} {E : Value → Shared → Prop} {s : Shared} {K : PySem.W.Frag} {x C f : Addr} {ox : Obj} {od : Option Obj} {b : Value}
theorem bound_ne {args : List Value} {Q : Option Value → Shared → Prop} (KX : K.In s.heap) (J : PySem.W.InstAt s.heap x ox C od) (hs : PySem.W.findIn K (.ref C) "__ne__" = some (some (.builtin "object.__ne__")))
    (h : wpAny M A (call (.builtin "object.__ne__") (.ref x :: args)) (fun v => Q (some v)) E s) : wpAny M A (callSpecialIfBound? (.ref x) "__ne__" args) Q E s := by
  simp only [callSpecialIfBound?, bindSpecialIfBound?]
  refine wpAny_holding (wpAny_bind (wpAny_bind (wpAny_bind (J.type.here ((PySem.W.looks_findIn KX hs).here (wpAny_bind (wpAny_askSetting (wpAny_ite ?_))))))))
  have last : wpAny M A (call (.builtin "object.__ne__") ([.ref x] ++ args) >>= fun v => pure (some v)) Q E s := wpAny_bind (wpAny_mono h (fun v s' z => wpAny_pure z) fun _ _ z => z)
  split
  · exact wpAny_bind (wpAny_of_eq (F.cmp_object.ne.bind _) (wpAny_pure (by exact last)))
  · exact wpAny_tryCatch (wpAny_bind (wpAny_of_eq (F.cmp_object.ne.bind _) (wpAny_pure (by exact last))))
theorem entry_ne {Q : Fin → Shared → Prop} (hu : A.units < cLine) (KX : K.In s.heap) (J : PySem.W.InstAt s.heap x ox C od) (hs : PySem.W.findIn K (.ref C) "__eq__" = some (some (.ref f))) (hf : PySem.W.isFn K (.ref f) = true)
    (h : wpAny (model prog w) A (call (.ref f) [.ref x, b]) (fun v s' => ∃ t, v = .bool t ∧ Q (.done (.ret (.bool (!t)))) s') E s) : wpAny (model prog w) A (Builtin.«object.__ne__» ⟨[.ref x, b], []⟩) Q E s := by
  unfold Builtin.«object.__ne__»
  refine wpAny_bind (wpAny_pure ?_)
  refine wpAny_bind (wpAny_cRoomFor hu ?_)
  refine wpAny_bind (PySem.W.ifBound_K KX J hs hf (wpAny_mono h (fun v s' z => ?_) fun _ _ z => z))
  obtain ⟨t, rfl, q⟩ := z
  exact wpAny_bind (wpAny_truthy_bool (wpAny_pure q))
theorem call_ne {Q : Value → Shared → Prop} (hu : A.in1.units < cLine) (KX : K.In s.heap) (J : PySem.W.InstAt s.heap x ox C od) (hm : PySem.W.mroIn K C (.type "object") = some true) (hs : PySem.W.findIn K (.ref C) "__eq__" = some (some (.ref f))) (hf : PySem.W.isFn K (.ref f) = true)
    (h : wpAny (model prog w) A.in1 (call (.ref f) [.ref x, b]) (fun v s' => ∃ t, v = .bool t ∧ Q (.bool (!t)) s') E s) : wpAny (model prog w) A (call (.builtin "object.__ne__") [.ref x, b]) Q E s :=
  wpAny_call (codeAny_call_builtin F.cmp_object.ne.plain F.cmpEntry_ne (PySem.W.check_slot F.cmpKind_ne F.cmpSplit_ne (J.type.andThen (PySem.W.looks_mroIn KX hm)) (F.cmpArgs_ne _ _) (entry_ne (A := A.in1) hu KX J hs hf (wpAny_mono h (fun v s' ⟨t, e, q⟩ => ⟨t, e, q⟩) fun _ _ z => z))))
end

section
variable {prog : Program} {w : PySem.World} {A : Around} {E : Value → Shared → Prop} {s : Shared} {K : PySem.W.Frag} {x C f : Addr} {ox : Obj} {od : Option Obj} {y : Value} {m : Str → Option Value}
theorem rc_ne {Q : Value → Shared → Prop} (hu : A.units < cLine) (hu1 : A.in1.units < cLine) (KX : K.In s.heap) (J : PySem.W.InstAt s.heap x ox C od) (ty : PySem.W.Looks (model prog w) s.heap (typeOf y) (.ref C)) (hm : PySem.W.mroIn K C (.type "object") = some true) (hn : PySem.W.findIn K (.ref C) "__ne__" = some (some (.builtin "object.__ne__"))) (hs : PySem.W.findIn K (.ref C) "__eq__" = some (some (.ref f))) (hf : PySem.W.isFn K (.ref f) = true)
    (h : wpAny (model prog w) A.in1 (call (.ref f) [.ref x, y]) (fun v s' => ∃ t, v = .bool t ∧ Q (.bool (!t)) s') E s) : wpAny (model prog w) A (richCompare .NotEq (.ref x) y) Q E s := by
  have one : wpAny (model prog w) A (tryCompare (.ref x) "__ne__" y) (fun r s' => ∃ t, r = some (.bool t) ∧ Q (.bool t) s') E s := by
    unfold tryCompare
    refine wpAny_bind (bound_ne KX J hn (call_ne hu1 KX J hm hs hf (wpAny_mono h (fun v s' ⟨t, e, q⟩ => ⟨t, e, wpAny_pure ⟨_, rfl, q⟩⟩) fun _ _ z => z)))
  unfold richCompare
  simp only [oneThing_ref, cmpInfo_NotEq]
  refine wpAny_holding (wpAny_bind (wpAny_cRoomFor hu (wpAny_bind (J.type.here (wpAny_bind (ty.here ?_))))))
  rw [show (Value.ref C != Value.ref C) = false from by simp]
  simp only [Bool.false_eq_true, if_false]
  refine wpAny_bind (wpAny_pure ?_)
  simp only [Bool.false_eq_true, if_false]
  refine wpAny_bind (wpAny_mono one (fun r s' z => ?_) fun _ _ z => z)
  obtain ⟨t, rfl, q⟩ := z
  first | exact wpAny_pure q | exact wpAny_pure (wpAny_pure q)
end
/-- what a class's == promises -/
structure CmpOk (B : Bg) (X : Cx) (c : Nat) (g : Gam) : Prop where
  mono : MonoC g
  run : ∀ (neg : Bool) (pins : List (Addr × Obj)) (σ' σ : Sl) (H : Hp) (s : Shared) (Q : VK) (a b dx dy : Addr) (vs ws : List (Str × V)) (F : Hp) (r : List Addr) (en : En) (st : List D) (d d' : D) (E' : Value → Shared → Prop), Inv X pins σ' H s → H a = some (.ins (B.cls c) dx vs) → H b = some (.ins (B.cls c) dy ws) → Rel B F r en st σ H → Rep B F r d (.ref a) → Rep B F r d' (.ref b) →
    g [d, d'] st (fun t st' => ∃ t0 : Bool, t = .v (.bl t0) ∧ Kpost B σ Q F r en H (.v (.bl (neg != t0))) en st') (fun _ _ => False) → wpAny (model X.prog X.w) X.A (richCompare (if neg = true then .NotEq else .Eq) (.ref a) (.ref b)) (EP X pins σ' Q) E' s
abbrev OpX := List D → D → D → (T → List D → Prop) → Prop
def MonoX (g : OpX) : Prop := ∀ (st : List D) (x y : D) (k k' : T → List D → Prop), (∀ t s, k t s → k' t s) → g st x y k → g st x y k'
def rGX (B : Bg) (g : OpX) : R2 := fun v u H Q => ∃ σ F r en st x y, Rel B F r en st σ H ∧ Rep B F r x v ∧ Rep B F r y u ∧ g st x y fun t st' => Kpost B σ Q F r en H t en st'
def dOpX (g : OpX) (ta tb : DTE) : DTE := fun en st k e => ta en st (fun x en1 st1 => tb en1 st1 (fun y en2 st2 => g st2 x.d y.d fun t st3 => k t en2 st3) e) e
/-- x == y, x != y: of instances by their class, else by data -/
def oEqo (Γ : Nat → Gam) (neg : Bool) (ps : List (Nat × Nat)) : OpX := fun st x y k => match objOf st x, objOf st y with
  | some (c, _), some (c', _) => c = c' ∧ (match ps.lookup c with
    | some p => Γ p [x, y] st (fun t st' => ∃ t0 : Bool, t = .v (.bl t0) ∧ k (.v (.bl (neg != t0))) st') (fun _ _ => False)
    | none => False)
  | none, none => (if neg = true then oNe else oEq) x y fun t => k t st
  | _, _ => False
section
variable {B : Bg} {W : WX} {X : Cx} {a b : Expr} {pos : Pos} {ta tb : DTE} {Γ : Nat → Gam} {ps : List (Nat × Nat)} {g : OpX} {neg : Bool}
theorem oEqo_mono (hp : ∀ c p, ps.lookup c = some p → MonoC (Γ p)) : MonoX (oEqo Γ neg ps) := fun st x y k k' hk h => by
  unfold oEqo at h ⊢
  split at h
  · refine ⟨h.1, ?_⟩
    have h := h.2
    split at h
    · rename_i q
      exact hp _ _ q _ _ _ _ _ _ (fun t s ⟨t0, e, z⟩ => ⟨t0, e, hk _ _ z⟩) (fun _ _ z => z) h
    · exact h.elim
  · cases neg with
    | true => exact mono_oNe _ _ _ _ (fun t z => hk _ _ z) h
    | false => exact mono_oEq _ _ _ _ (fun t z => hk _ _ z) h
  · exact h.elim
theorem dOpX_mono (mg : MonoX g) (ma : MonoE ta) (mb : MonoE tb) : MonoE (dOpX g ta tb) := fun _ _ _ _ _ _ hk he h => ma _ _ _ _ _ _ (fun _ _ _ z => mb _ _ _ _ _ _ (fun _ _ _ y => mg _ _ _ _ _ (fun _ _ w => hk _ _ _ w) y) he z) he h
theorem opx_two {Q : VK} {σ : Sl} {H : Hp} (mg : MonoX g) (mb : MonoE tb) (ma : MonoE ta) (h : tM B W (dOpX g ta tb) σ H Q) : tOp (rGX B g) (tM B W ta) (tM B W tb) σ H Q := by
  obtain ⟨F, rr, en, st, R, q⟩ := h
  refine at_bind (k := fun d _ en1 st1 => tb en1 st1 (fun y en2 st2 => g st2 d y.d fun t st3 => Kpost B σ Q F rr en H t en2 st3) (Epost B σ W F rr en H)) ma R q fun d en1 st1 F1 r1 H1 v S1 R1 rep1 h1 => ?_
  refine at_bind (k := fun d' _ en2 st2 => g st2 d d' fun t st3 => Kpost B σ Q F rr en H t en2 st3) mb R1 (mb _ _ _ _ _ _ (fun _ _ _ z => z) (fun _ _ _ z => z.shift S1) h1) fun d' en2 st2 F2 r2 H2 u S2 R2 rep2 h2 => ?_
  exact ⟨σ, F2, r2, en2, st2, d, d', R2, rep1.step S2, rep2, mg _ _ _ _ _ (fun t s ht => ht.shift (S1.trans S2)) h2⟩
theorem or_eqo (hK : X.K = B.K) (hu : X.A.units + 64 < cLine) (hp : ∀ c p, ps.lookup c = some p → CmpOk B X c (Γ p)) : OpR X (compareOp (if neg = true then .NotEq else .Eq)) (rGX B (oEqo Γ neg ps)) := by
  intro pins s σ' H v u va ua Q I rv ru ⟨σ, F, r, en, st, x, y, R, p, q, h⟩
  unfold oEqo at h
  split at h
  · rename_i c fs c' fs' e1 e2
    obtain ⟨rfl, h⟩ := h
    split at h
    · rename_i i hi
      obtain ⟨a1, dx, vs, rfl, g1, _, _⟩ := obj_at R p e1
      obtain ⟨b1, dy, ws, rfl, g2, _, _⟩ := obj_at R q e2
      cases rv
      cases ru
      have z := (hp _ _ hi).run neg pins σ' σ H s Q a1 b1 dx dy vs ws F r en st x y X.xe I g1 g2 R p q h
      cases neg <;> exact z
    · exact h.elim
  · cases neg with
    | true => exact or_ne hK hu pins s σ' H v u va ua Q I rv ru ⟨σ, F, r, en, st, x, y, R, p, q, h⟩
    | false => exact or_eq hK hu pins s σ' H v u va ua Q I rv ru ⟨σ, F, r, en, st, x, y, R, p, q, h⟩
  · exact h.elim
theorem de_eqo (hK : X.K = B.K) (hu : X.A.units + 64 < cLine) (hp : ∀ c p, ps.lookup c = some p → CmpOk B X c (Γ p)) (ha : DE B W X a ta) (hb : DE B W X b tb) (hm : behindInMarks (if neg = true then .NotEq else .Eq) b = false) : DE B W X (.Compare a [if neg = true then .NotEq else .Eq] [b] pos) (dOpX (oEqo Γ neg ps) ta tb) :=
  ⟨dOpX_mono (oEqo_mono fun c p z => (hp c p z).mono) ha.mono hb.mono, PE.weak (pe_cmpR (or_eqo hK hu hp) ha.run hb.run hm) fun _ _ _ h => opx_two (oEqo_mono fun c p z => (hp c p z).mono) hb.mono ha.mono h⟩
theorem dt_eqo (hK : X.K = B.K) (hu : X.A.units + 64 < cLine) (hp : ∀ c p, ps.lookup c = some p → CmpOk B X c (Γ p)) (ha : DE B W X a ta) (hb : DE B W X b tb) (hm : behindInMarks (if neg = true then .NotEq else .Eq) b = false) : DT B W X (.Compare a [if neg = true then .NotEq else .Eq] [b] pos) (dTst (dOpX (oEqo Γ neg ps) ta tb)) := by
  have m := dOpX_mono (oEqo_mono (neg := neg) fun c p z => (hp c p z).mono) ha.mono hb.mono
  exact ⟨dTst_mono m, PT.weak (pt_cmpR (or_eqo hK hu hp) ha.run hb.run hm) fun _ _ _ h => opx_two (oEqo_mono fun c p z => (hp c p z).mono) hb.mono ha.mono (tst m h)⟩
end
end Ev
set_option Elab.async false
set_option linter.all false
set_option autoImplicit false
set_option maxRecDepth 100000
/-! Ev, part Kw: an element of a list that nobody else holds is read, and the list stays one's own. -/
namespace Ev
open PySem PySem.Spec PyProof.Rows L2
section
variable {B : Bg} {W : WX} {X : Cx} {b : Expr} {pos : Pos} {tb : DTE}
def dIxP (i : Nat) (tb : DTE) : DTE := fun en st k e => match en[i]? with
  | some (some (.o _)) => tb en st (fun y en1 st1 => ∃ ds n d, en1[i]? = some (some (.o (.lst ds))) ∧ y.d = .int n ∧ atI ds n = some d ∧ k (.v d) en1 st1) e
  | _ => dIx (dVar i) tb en st k e
theorem dIxP_mono {i : Nat} (mb : MonoE tb) : MonoE (dIxP i tb) := fun en st k k' e e' hk he h => by
  unfold dIxP at h ⊢
  split at h
  · exact mb _ _ _ _ _ _ (fun y n s ⟨ds, n, d, e1, e2, e3, z⟩ => ⟨ds, n, d, e1, e2, e3, hk _ _ _ z⟩) he h
  · exact dIx_mono (dVar_mono i) mb _ _ _ _ _ _ hk he h
theorem var_read {i : Nat} {σ : Sl} {H : Hp} {Q : VK} (h : tM B W (dVar i) σ H Q) : tVar i σ H Q := by
  obtain ⟨F, r, en, st, R, q⟩ := h
  unfold dVar at q
  split at q
  · rename_i d hd
    obtain ⟨v, e1, e2⟩ := R.val i d hd
    exact ⟨v, e1, kp_val q R e2⟩
  · rename_i d hd
    obtain ⟨F', S, R', v, e1, e2⟩ := R.freezeSlot hd
    exact ⟨v, e1, q F' r H v S R' e2⟩
  · exact q.elim
theorem ix_alt (hK : X.K = B.K) : IxR X (fun v u H Q => rGIx B v u H Q ∨ rIxL X.K v u H Q) := by
  intro value slice pins s σ' H v u c d Q I rv ru h hs
  rcases h with h | h
  · exact ix_all hK value slice pins s σ' H v u c d Q I rv ru h hs
  · exact ix_list value slice pins s σ' H v u c d Q I rv ru h hs
theorem de_ixP {i : Nat} {x : Str} {p : Pos} (hK : X.K = B.K) (hx : PE X (.Name x p) (tVar i)) (hb : DE B W X b tb) (hs : PlainIx b) : DE B W X (.Subscript (.Name x p) b pos) (dIxP i tb) := by
  refine ⟨dIxP_mono hb.mono, PE.weak (pe_ix (ix_alt hK) hx hb.run hs) fun σ H Q ⟨F, rr, en, st, R, q⟩ => ?_⟩
  unfold dIxP at q
  split at q
  · rename_i d0 hj
    obtain ⟨a, e1, _⟩ := R.own i d0 hj
    refine ⟨.ref a, e1, ?_⟩
    refine at_bind (k := fun y _ en1 st1 => ∃ ds n d, en1[i]? = some (some (.o (.lst ds))) ∧ y = .int n ∧ atI ds n = some d ∧ Kpost B σ Q F rr en H (.v d) en1 st1) hb.mono R q fun y en1 st1 F1 r1 H1 iv S1 R1 rep1 ⟨ds, n, d, h1, h2, h3, h4⟩ => ?_
    obtain ⟨a', f1, _, _, x0, f2, f3⟩ := R1.own i _ h1
    rw [e1] at f1; cases f1
    obtain ⟨vs, rfl, f4⟩ := f3
    subst h2
    cases rep1
    obtain ⟨v, g1, g2⟩ := atI_rep f4 h3
    exact .inr ⟨a, vs, n, v, rfl, rfl, SqL.of f2, g1, h4 F1 r1 H1 v S1 R1 g2⟩
  · refine var_read (W := W) (at_bind (k := fun d _ en1 st1 => tb en1 st1 (fun y en2 st2 => oIx st2 d y.d fun t => Kpost B σ Q F rr en H t en2 st2) (Epost B σ W F rr en H)) (dVar_mono i) R q fun d en1 st1 F1 r1 H1 v S1 R1 rep1 h1 => ?_)
    refine at_bind (k := fun d' _ en2 st2 => oIx st2 d d' fun t => Kpost B σ Q F rr en H t en2 st2) hb.mono R1 (hb.mono _ _ _ _ _ _ (fun _ _ _ z => z) (fun _ _ _ z => z.shift S1) h1) fun d' en2 st2 F2 r2 H2 u S2 R2 rep2 h2 => ?_
    exact .inl ⟨σ, F2, r2, en2, st2, d, d', R2, rep1.step S2, rep2, mono_oIx _ _ _ _ _ (fun t ht => ht.shift (S1.trans S2)) h2⟩
end
end Ev
set_option Elab.async false
set_option linter.all false
set_option autoImplicit false
set_option maxRecDepth 100000
/-! Ev, part Kx: str(o), o an instance of an own class. -/
namespace Ev
open PySem PySem.Spec PyProof.Rows L2
/-- what a class's __str__ promises -/
structure StoOk (B : Bg) (X : Cx) (c : Nat) (g : Gam) : Prop where
  mono : MonoC g
  run : ∀ (pins : List (Addr × Obj)) (σ' σ : Sl) (H : Hp) (s : Shared) (Q : VK) (a dx : Addr) (vs : List (Str × V)) (F : Hp) (r : List Addr) (en : En) (st : List D) (d : D) (E' : Value → Shared → Prop), Inv X pins σ' H s → H a = some (.ins (B.cls c) dx vs) → Rel B F r en st σ H → Rep B F r d (.ref a) →
    g [d] st (fun t st' => ∃ z : Str, t = .v (.str z) ∧ Kpost B σ Q F r en H (.v (.str z)) en st') (fun _ _ => False) → wpAny (model X.prog X.w) X.A (call (.type "str") [.ref a]) (EP X pins σ' Q) E' s
/-- str(x): of an instance by its class -/
def oSto (Γ : Nat → Gam) (ps : List (Nat × Nat)) (st : List D) (x : D) (k : T → List D → Prop) : Prop := match objOf st x with
  | some (c, _) => (match ps.lookup c with
    | some p => Γ p [x] st (fun t st' => ∃ z : Str, t = .v (.str z) ∧ k (.v (.str z)) st') (fun _ _ => False)
    | none => False)
  | none => oStr [x] fun t => k t st
def dSto (Γ : Nat → Gam) (ps : List (Nat × Nat)) (ta : DTE) : DTE := fun en st k e => ta en st (fun x en1 st1 => oSto Γ ps st1 x.d fun t st2 => k t en1 st2) e
section
variable {B : Bg} {W : WX} {X : Cx} {a : Expr} {p pos : Pos} {ta : DTE} {Γ : Nat → Gam} {ps : List (Nat × Nat)}
theorem oSto_mono (hp : ∀ c p, ps.lookup c = some p → MonoC (Γ p)) {st : List D} {x : D} {k k' : T → List D → Prop} (hk : ∀ t s, k t s → k' t s) (h : oSto Γ ps st x k) : oSto Γ ps st x k' := by
  unfold oSto at h ⊢
  split at h
  · split at h
    · rename_i q
      exact hp _ _ q _ _ _ _ _ _ (fun t s ⟨z, e, y⟩ => ⟨z, e, hk _ _ y⟩) (fun _ _ z => z) h
    · exact h.elim
  · exact mono_oStr _ _ _ (fun t z => hk _ _ z) h
theorem dSto_mono (hp : ∀ c p, ps.lookup c = some p → MonoC (Γ p)) (m : MonoE ta) : MonoE (dSto Γ ps ta) := fun _ _ _ _ _ _ hk he h => m _ _ _ _ _ _ (fun _ _ _ z => oSto_mono hp (fun _ _ y => hk _ _ _ y) z) he h
def rSto (B : Bg) (Γ : Nat → Gam) (ps : List (Nat × Nat)) : List V → Hp → VK → Prop := fun vs H Q => ∃ σ F r en st x v, vs = [v] ∧ Rel B F r en st σ H ∧ Rep B F r x v ∧ oSto Γ ps st x fun t st' => Kpost B σ Q F r en H t en st'
theorem cr_sto (hp : ∀ c p, ps.lookup c = some p → StoOk B X c (Γ p)) : CallR X (.type "str") (rSto B Γ ps) := by
  intro pins s σ' H vs us Q I rv ⟨σ, F, r, en, st, x, v, ev, R, rp, h⟩
  subst ev
  unfold oSto at h
  split at h
  · rename_i c fs e1
    split at h
    · rename_i i hi
      obtain ⟨a1, dx, ws, rfl, g1, _, _⟩ := obj_at R rp e1
      obtain ⟨u, rfl, ru⟩ := vals_one rv
      obtain rfl : u = Value.ref a1 := ru
      exact (hp _ _ hi).run pins σ' σ H s Q a1 dx ws F r en st x X.xe I g1 R rp h
    · exact h.elim
  · exact cr_str pins s σ' H [v] us Q I rv ⟨σ, F, r, en, st, [x], R, ⟨v, [], rfl, rp, rfl⟩, h⟩
theorem de_sto (hp : ∀ c p, ps.lookup c = some p → StoOk B X c (Γ p)) (hg : Gl X "str") (hm : X.mg "str" = none) (ha : DE B W X a ta) (hs : ∀ x p, a ≠ .Starred x p) : DE B W X (.Call (.Name "str" p) [a] [] pos) (dSto Γ ps ta) := by
  refine ⟨dSto_mono (fun c p z => (hp c p z).mono) ha.mono, PE.weak (pe_callTy (cr_sto hp) hg hm (by decide +kernel) (da_cons ha da_nil hs).run (by decide) (by decide) (notStar_each hs) rfl) fun σ H Q ⟨F, r, en, st, R, q⟩ => ?_⟩
  refine ⟨F, r, en, st, R, ha.mono _ _ _ _ _ _ (fun x en1 st1 z => ?_) (fun _ _ _ z => z) q⟩
  intro F1 r1 H1 vs S1 R1 rp
  obtain ⟨v, rfl, rv⟩ := reps1 rp
  exact ⟨σ, F1, r1, en1, st1, x.d, v, rfl, R1, rv, oSto_mono (fun c p z => (hp c p z).mono) (fun t s' y => Kpost.shift S1 y) z⟩
end
end Ev
set_option Elab.async false
set_option linter.all false
set_option autoImplicit false
set_option maxRecDepth 100000
set_option maxHeartbeats 400000
/-! Ev, part Dk: dicts of constants as displays: {} and {text: integer}. -/
namespace Ev
open PySem PySem.Spec PyProof.Rows L2
def dDcn (kvs : List (Key × D)) : DTE := fun en st k _ => k (.o (.dct kvs)) en st
theorem dDcn_mono (kvs : List (Key × D)) : MonoE (dDcn kvs) := fun _ _ _ _ _ _ hk _ h => hk _ _ _ h
def dcOf : List (Option Expr) → List Expr → Option (List (Key × D))
  | [], [] => some []
  | [some (.Constant (.str s) _ _)], [.Constant (.int i) _ _] => some [(.inr s, .int i)]
  | _, _ => none
theorem de_dcn {B : Bg} {W : WX} {X : Cx} {keys : List (Option Expr)} {vals : List Expr} {pos : Pos} {kvs : List (Key × D)} (h : dcOf keys vals = some kvs) : DE B W X (.Dict keys vals pos) (dDcn kvs) := by
  refine ⟨dDcn_mono kvs, ?_⟩
  unfold dcOf at h
  split at h
  · cases h
    exact PE.weak pe_dnewK fun σ H Q ⟨F, r, en, st, R, q⟩ p hp => kp_new q R hp ⟨[], rfl, rfl⟩
  · rename_i s j1 p1 i j2 p2
    cases h
    refine PE.weak (pe_disp (pps_cons (pe_str (x := s)) (pe_int (i := i)) pps_nil) rfl rfl (by simp) (by simp)) fun σ H Q ⟨F, r, en, st, R, q⟩ p hp => ?_
    refine ⟨upd_same, [(.inr s, .int i)], rfl, by simp, ?_⟩
    rw [upd_upd]
    exact kp_new q R hp ⟨_, rfl, _, _, rfl, rfl, rfl⟩
  · cases h
end Ev
set_option Elab.async false
set_option linter.all false
set_option autoImplicit false
set_option maxRecDepth 100000
set_option maxHeartbeats 400000
/-! Ev, part Sm: C.m(..), m a static method of an own class. -/
namespace Ev
open PySem PySem.Spec PyProof.Rows L2
/-- C.m is a static method: its record at p, its def at f -/
structure SmAt (K : PySem.W.Frag) (C : Addr) (m : Str) (p f : Addr) : Prop where
  rd : ClX.CRead K C (.type "type")
  at_ : PySem.W.findCls K (.ref C) (.type "type") m = some (.get (.builtin "staticmethod.__get__") (.ref p) .none (.ref C))
  rc : ∃ rest, PySem.W.recIn K p "staticmethod" = some (.ref f :: rest)
  kp : PySem.W.keepIn K (.ref f) = true
structure StatOk (B : Bg) (W : WX) (X : Cx) (c : Nat) (m : Str) (n : Nat) (ks : List Str) (g : Gam) : Prop where
  mono : MonoC g
  run : ∃ p fa : Addr, SmAt X.K (B.cls c) m p fa ∧ RunAt B W X fa n ks g
theorem getmeth_sm {X : Cx} {pins : List (Addr × Obj)} {σ : L2.St} {H : Hp} {s : Shared} {C p f : Addr} {m : Str} {pl : Sem Bool} {A : Around} {E : Value → Shared → Prop} {Q : Value × List Value → Shared → Prop} (I : Inv X pins σ H s) (k : SmAt X.K C m p f) (h : ∀ s', Inv X pins σ H s' → Q (.ref f, []) s') :
    wpAny (model X.prog X.w) A (getMethod (.ref C) m pl) Q E s := by
  obtain ⟨rest, hp⟩ := k.rc
  refine PySem.W.method_cls I.kIn k.rd.ga (PySem.W.cls_bind I.kIn k.rd.rd k.at_ (wpAny_call ?_))
  exact PySem.W.sm_get (s := { s with toks := s.toks + 1 }) I.kIn hp (PySem.W.handed_on rfl (h _ (I.tok _)))
section
variable {B : Bg} {W : WX} {X : Cx} {es : List Expr} {kws : List Keyword} {pos apos : Pos} {tA tB : DTA} {g : Gam}
theorem de_stat {x m : Str} {p0 : Pos} {ks : List Str} {c : Nat} (hc : StatOk B W X c m es.length ks g) (hg : Gl X x) (hm : X.mg x = some (.ref (B.cls c))) (hdb : (x == ("__debug__" : Str)) = false) (ha : DA B W X es tA) (hk : DK B W X kws tB) (hs : ∀ e ∈ es, ∀ x p, e ≠ .Starred x p)
    (hkn : ∀ k ∈ kws, k.arg.isSome = true) (hks : kws.filterMap (·.arg) = ks) (h0 : es = [] → tA = dNil) (hb : attributeBase (.Name x p0) m X.env (eval (.Name x p0) X.env) = eval (.Name x p0) X.env) (hl : es.length + kws.length < 29) (hline : (apos.endLine == pos.line) = true) :
    DE B W X (.Call (.Attribute (.Name x p0) m apos) es kws pos) (dCall g es.length ks.length tA tB) := by
  obtain ⟨k1, k2, k3⟩ := noKw (env := X.env) hkn pos
  have ns := noStars (env := X.env) hs pos
  refine ⟨dCall_mono hc.mono ha.mono hk.mono, ⟨fun pins s0 σ H Q I0 h => ?_⟩⟩
  have h' := call_args hc.mono ha.mono hk.mono h
  obtain ⟨p, fa, sm, run⟩ := hc.run
  refine PySem.W.methodCall_KW (ld_glob I0 hg hm (getmeth_sm I0 sm fun s I => ?_) hdb) (meth_tree hb ns k1 hl hline)
  cases es with
  | nil =>
    rw [h0 rfl] at h'
    obtain ⟨F0, r0, en0, st0, R0, q0⟩ := h'
    have q1 := q0 F0 r0 H [] Step.refl R0 rfl
    refine PySem.W.callWith_KW0 (first := []) (h₀ := X.base) I.ok.mod.kin sm.kp k1 ?_ (by rw [k2]; rfl)
    refine thn (hk.run.run pos pins s σ H _ I q1) fun ws s2 ⟨zs, H2, I2, r2, l1, l2, F, r, en, st, ds, R, rep, q2⟩ => ⟨I2.kIn, ?_⟩
    rw [k3, hks]
    exact run pins σ H2 s2 Q [] ws [] zs F r en st ds I2 .nil r2 l1 l2 R rep q2
  | cons e0 er =>
    refine PySem.W.callWith_KW (first := []) (h₀ := X.base) I.ok.mod.kin sm.kp k1 (thn (ha.run.run pos pins s σ H _ I h') fun us s1 ⟨vs, H1, I1, r1, q1⟩ => ?_) (by rw [ns, k2]; rfl) (notStar_each (hs e0 List.mem_cons_self))
    refine thn (hk.run.run pos pins s1 σ H1 _ I1 q1) fun ws s2 ⟨zs, H2, I2, r2, l1, l2, F, r, en, st, ds, R, rep, q2⟩ => ⟨I2.kIn, ?_⟩
    rw [k3, hks]
    exact run pins σ H2 s2 Q us ws vs zs F r en st ds I2 r1 r2 l1 l2 R rep q2
end
end Ev
set_option Elab.async false
set_option linter.all false
set_option autoImplicit false
set_option maxRecDepth 100000
/-! Ev, part Sr: repr(o), o an instance of an own class. -/
namespace Ev
open PySem PySem.Spec PyProof.Rows L2
/-- what a class's __repr__ promises -/
structure RpoOk (B : Bg) (X : Cx) (c : Nat) (g : Gam) : Prop where
  mono : MonoC g
  run : ∀ (pins : List (Addr × Obj)) (σ' σ : Sl) (H : Hp) (s : Shared) (Q : VK) (a dx : Addr) (vs : List (Str × V)) (F : Hp) (r : List Addr) (en : En) (st : List D) (d : D) (E' : Value → Shared → Prop), Inv X pins σ' H s → H a = some (.ins (B.cls c) dx vs) → Rel B F r en st σ H → Rep B F r d (.ref a) →
    g [d] st (fun t st' => ∃ z : Str, t = .v (.str z) ∧ Kpost B σ Q F r en H (.v (.str z)) en st') (fun _ _ => False) → wpAny (model X.prog X.w) X.A (call (.builtin "repr") [.ref a]) (EP X pins σ' Q) E' s
/-- repr(x): of an instance by its class -/
def oRpo (Γ : Nat → Gam) (ps : List (Nat × Nat)) (st : List D) (x : D) (k : T → List D → Prop) : Prop := match objOf st x with
  | some (c, _) => (match ps.lookup c with
    | some p => Γ p [x] st (fun t st' => ∃ z : Str, t = .v (.str z) ∧ k (.v (.str z)) st') (fun _ _ => False)
    | none => False)
  | none => oRepr [x] fun t => k t st
def dRpo (Γ : Nat → Gam) (ps : List (Nat × Nat)) (ta : DTE) : DTE := fun en st k e => ta en st (fun x en1 st1 => oRpo Γ ps st1 x.d fun t st2 => k t en1 st2) e
section
variable {B : Bg} {W : WX} {X : Cx} {a : Expr} {p pos : Pos} {ta : DTE} {Γ : Nat → Gam} {ps : List (Nat × Nat)}
theorem oRpo_mono (hp : ∀ c p, ps.lookup c = some p → MonoC (Γ p)) {st : List D} {x : D} {k k' : T → List D → Prop} (hk : ∀ t s, k t s → k' t s) (h : oRpo Γ ps st x k) : oRpo Γ ps st x k' := by
  unfold oRpo at h ⊢
  split at h
  · split at h
    · rename_i q
      exact hp _ _ q _ _ _ _ _ _ (fun t s ⟨z, e, y⟩ => ⟨z, e, hk _ _ y⟩) (fun _ _ z => z) h
    · exact h.elim
  · exact mono_oRepr _ _ _ (fun t z => hk _ _ z) h
theorem dRpo_mono (hp : ∀ c p, ps.lookup c = some p → MonoC (Γ p)) (m : MonoE ta) : MonoE (dRpo Γ ps ta) := fun _ _ _ _ _ _ hk he h => m _ _ _ _ _ _ (fun _ _ _ z => oRpo_mono hp (fun _ _ y => hk _ _ _ y) z) he h
def rRpo (B : Bg) (Γ : Nat → Gam) (ps : List (Nat × Nat)) : List V → Hp → VK → Prop := fun vs H Q => ∃ σ F r en st x v, vs = [v] ∧ Rel B F r en st σ H ∧ Rep B F r x v ∧ oRpo Γ ps st x fun t st' => Kpost B σ Q F r en H t en st'
theorem cr_rpo (hK : X.K = B.K) (hgd : X.A.guards = some []) (hu : X.A.units + 66 < cLine) (hp : ∀ c p, ps.lookup c = some p → RpoOk B X c (Γ p)) : CallR X (.builtin "repr") (rRpo B Γ ps) := by
  intro pins s σ' H vs us Q I rv ⟨σ, F, r, en, st, x, v, ev, R, rp, h⟩
  subst ev
  unfold oRpo at h
  split at h
  · rename_i c fs e1
    split at h
    · rename_i i hi
      obtain ⟨a1, dx, ws, rfl, g1, _, _⟩ := obj_at R rp e1
      obtain ⟨u, rfl, ru⟩ := vals_one rv
      obtain rfl : u = Value.ref a1 := ru
      exact (hp _ _ hi).run pins σ' σ H s Q a1 dx ws F r en st x X.xe I g1 R rp h
    · exact h.elim
  · exact cr_repr hK hgd hu pins s σ' H [v] us Q I rv ⟨σ, F, r, en, st, [x], R, ⟨v, [], rfl, rp, rfl⟩, h⟩
theorem de_rpo (hK : X.K = B.K) (hgd : X.A.guards = some []) (hu : X.A.units + 66 < cLine) (hp : ∀ c p, ps.lookup c = some p → RpoOk B X c (Γ p)) (hg : Gl X "repr") (hm : X.mg "repr" = none) (ha : DE B W X a ta) (hs : ∀ x p, a ≠ .Starred x p) : DE B W X (.Call (.Name "repr" p) [a] [] pos) (dRpo Γ ps ta) := by
  refine ⟨dRpo_mono (fun c p z => (hp c p z).mono) ha.mono, PE.weak (pe_callB (cr_rpo hK hgd hu hp) hg hm (by decide +kernel) (da_cons ha da_nil hs).run (by decide) (by decide) (notStar_each hs) rfl) fun σ H Q ⟨F, r, en, st, R, q⟩ => ?_⟩
  refine ⟨F, r, en, st, R, ha.mono _ _ _ _ _ _ (fun x en1 st1 z => ?_) (fun _ _ _ z => z) q⟩
  intro F1 r1 H1 vs S1 R1 rp
  obtain ⟨v, rfl, rv⟩ := reps1 rp
  exact ⟨σ, F1, r1, en1, st1, x.d, v, rfl, R1, rv, oRpo_mono (fun c p z => (hp c p z).mono) (fun t s' y => Kpost.shift S1 y) z⟩
end
end Ev
set_option Elab.async false
set_option linter.all false
set_option autoImplicit false
set_option maxRecDepth 100000
set_option maxHeartbeats 400000
/-! Ev, part Lr: list(range(n)), list(range(a, b)). -/
namespace Ev
open PySem PySem.Spec PyProof.Rows L2
def lrgP (P : Int → Int → Prop) : D → D → Prop
  | .int a, .int b => RgOk a b ∧ P a b
  | _, _ => False
theorem lrgP_mono {P P' : Int → Int → Prop} (h : ∀ a b, P a b → P' a b) {x y : D} (q : lrgP P x y) : lrgP P' x y := by
  unfold lrgP at q ⊢
  split at q
  · exact ⟨q.1, h _ _ q.2⟩
  · exact q.elim
theorem lrgP_get {P : Int → Int → Prop} {x y : D} (q : lrgP P x y) : ∃ a b, x = .int a ∧ y = .int b ∧ RgOk a b ∧ P a b := by
  unfold lrgP at q
  split at q
  · exact ⟨_, _, rfl, rfl, q⟩
  · exact q.elim
def dLrg1 (te : DTE) : DTE := fun en st k e => te en st (fun x en1 st1 => match x.d with
  | .int n => (-(2 ^ 62) ≤ n ∧ n ≤ 2 ^ 24) ∧ k (.o (.lst (rangeD 0 1 n.toNat))) en1 st1
  | _ => False) e
def dLrg2 (ta tb : DTE) : DTE := fun en st k e => ta en st (fun x en1 st1 => tb en1 st1 (fun y en2 st2 => lrgP (fun a b => k (.o (.lst (rangeD a 1 (b - a).toNat))) en2 st2) x.d y.d) e) e
theorem dLrg1_mono {te : DTE} (m : MonoE te) : MonoE (dLrg1 te) := fun _ _ _ _ _ _ hk he q => m _ _ _ _ _ _ (fun x _ _ z => by
  split at z
  · exact ⟨z.1, hk _ _ _ z.2⟩
  · exact z.elim) he q
theorem dLrg2_mono {ta tb : DTE} (ma : MonoE ta) (mb : MonoE tb) : MonoE (dLrg2 ta tb) := fun _ _ _ _ _ _ hk he q => ma _ _ _ _ _ _ (fun x _ _ z => mb _ _ _ _ _ _ (fun y _ _ z => lrgP_mono (fun _ _ w => hk _ _ _ w) z) he z) he q
theorem reps_map {B : Bg} {F : Hp} {r : List Addr} {α : Type} {f : α → D} {g : α → V} (h : ∀ x, Rep B F r (f x) (g x)) : ∀ l : List α, Reps B F r (l.map f) (l.map g)
  | [] => rfl
  | x :: l => ⟨g x, l.map g, rfl, h x, reps_map h l⟩
theorem reps_rg {B : Bg} {F : Hp} {r : List Addr} (a b : Int) : Reps B F r (rangeD a 1 (b - a).toNat) (rgV a b) := by
  unfold rangeD rgV
  refine reps_map (fun i => ?_) _
  show V.int _ = V.int _
  rw [Int.mul_one]
section
variable {B : Bg} {W : WX} {X : Cx} {a b : Expr} {ta tb : DTE} {p p2 pos pos2 : Pos}
theorem de_lrg1 (hc : X.calm = true) (hgl : Gl X "list") (hml : X.mg "list" = none) (hg : Gl X "range") (hm : X.mg "range" = none) (ha : DE B W X a ta) (hs : ∀ x q, a ≠ .Starred x q) :
    DE B W X (.Call (.Name "list" p) [.Call (.Name "range" p2) [a] [] pos2] [] pos) (dLrg1 ta) := by
  refine ⟨dLrg1_mono ha.mono, PE.weak (pe_listRg hc hgl hml (prg_1 hg hm ha.run (notStar_each hs))) fun σ H Q ⟨F, r, en, st, R, q⟩ => ?_⟩
  refine at_bind (k := fun d _ en1 st1 => match d with
    | .int n => (-(2 ^ 62) ≤ n ∧ n ≤ 2 ^ 24) ∧ Kpost B σ Q F r en H (.o (.lst (rangeD 0 1 n.toNat))) en1 st1
    | _ => False) ha.mono R q fun d en1 st1 F1 r1 H1 v S1 R1 rep1 h1 => ?_
  split at h1
  · rename_i n
    cases rep1
    refine ⟨n, rfl, ⟨by omega, by omega, h1.1.1, by omega, by omega⟩, fun p hp => kp_new (h1.2.shift S1) R1 hp ⟨_, rfl, ?_⟩⟩
    have z := reps_rg (B := B) (F := F1) (r := r1) 0 n
    rw [Int.sub_zero] at z
    exact z
  · exact h1.elim
theorem de_lrg2 (hc : X.calm = true) (hgl : Gl X "list") (hml : X.mg "list" = none) (hg : Gl X "range") (hm : X.mg "range" = none) (ha : DE B W X a ta) (hb : DE B W X b tb) (hs : ∀ x q, a ≠ .Starred x q) (hs' : ∀ x q, b ≠ .Starred x q) :
    DE B W X (.Call (.Name "list" p) [.Call (.Name "range" p2) [a, b] [] pos2] [] pos) (dLrg2 ta tb) := by
  refine ⟨dLrg2_mono ha.mono hb.mono, PE.weak (pe_listRg hc hgl hml (prg_2 hg hm ha.run hb.run (by rw [notStar_each hs, notStar_each hs']) (notStar_each hs') (by rw [notStar_each hs']; rfl))) fun σ H Q ⟨F, r, en, st, R, q⟩ => ?_⟩
  refine at_bind (k := fun d _ en1 st1 => tb en1 st1 (fun y en2 st2 => lrgP (fun a b => Kpost B σ Q F r en H (.o (.lst (rangeD a 1 (b - a).toNat))) en2 st2) d y.d) (Epost B σ W F r en H)) ha.mono R q fun d en1 st1 F1 r1 H1 v S1 R1 rep1 h1 => ?_
  refine at_bind (k := fun d' _ en2 st2 => lrgP (fun a b => Kpost B σ Q F r en H (.o (.lst (rangeD a 1 (b - a).toNat))) en2 st2) d d') hb.mono R1 (hb.mono _ _ _ _ _ _ (fun _ _ _ z => z) (fun _ _ _ z => z.shift S1) h1) fun d' en2 st2 F2 r2 H2 u S2 R2 rep2 h2 => ?_
  obtain ⟨x, y, rfl, rfl, g1, g2⟩ := lrgP_get h2
  cases rep1
  cases rep2
  exact ⟨_, _, rfl, rfl, g1, fun p hp => kp_new (g2.shift (S1.trans S2)) R2 hp ⟨_, rfl, reps_rg _ _⟩⟩
end
/-- list(range(..)) -/
def lrgOf (sc : Scope) (okr : Bool) (x : Str) (es : List Expr) (kws : List Keyword) : Option (Expr × Option Expr) := match es, kws with
  | [.Call (.Name y _) [a] [] _], [] => if x = "list" ∧ y = "range" ∧ okr = true then some (a, none) else none
  | [.Call (.Name y _) [a, b] [] _], [] => if x = "list" ∧ y = "range" ∧ okr = true then some (a, some b) else none
  | _, _ => none
theorem lrgOf_get {sc : Scope} {okr : Bool} {x : Str} {es : List Expr} {kws : List Keyword} {a : Expr} {ob : Option Expr} (h : lrgOf sc okr x es kws = some (a, ob)) : x = "list" ∧ kws = [] ∧ okr = true ∧ ∃ p q, (ob = none ∧ es = [.Call (.Name "range" p) [a] [] q]) ∨ ∃ b, ob = some b ∧ es = [.Call (.Name "range" p) [a, b] [] q] := by
  unfold lrgOf at h
  split at h
  · split at h
    · rename_i c
      obtain ⟨rfl, rfl, c3⟩ := c
      cases h
      exact ⟨rfl, rfl, c3, _, _, .inl ⟨rfl, rfl⟩⟩
    · cases h
  · split at h
    · rename_i c
      obtain ⟨rfl, rfl, c3⟩ := c
      cases h
      exact ⟨rfl, rfl, c3, _, _, .inr ⟨_, rfl, rfl⟩⟩
    · cases h
  · cases h
end Ev
set_option Elab.async false
set_option linter.all false
set_option autoImplicit false
set_option maxRecDepth 100000
set_option maxHeartbeats 0
/-! Ex, part A: an own exception with one attribute is made, whatever its base (ValueError, ArithmeticError, LookupError). -/
namespace Ev
open PySem PySem.Spec PyProof.Rows L2
open PySem.Builtin PySem.Builtin.ObjectAttr PySem.HandSPX
/-- the three bases -/
inductive Bas where
  | ve | ae | le
  deriving DecidableEq
def Bas.nm : Bas → String
  | .ve => "ValueError"
  | .ae => "ArithmeticError"
  | .le => "LookupError"
def Bas.new : Bas → String
  | .ve => "ValueError.__new__"
  | .ae => "ArithmeticError.__new__"
  | .le => "LookupError.__new__"
def Bas.init : Bas → String
  | .ve => "ValueError.__init__"
  | .ae => "ArithmeticError.__init__"
  | .le => "LookupError.__init__"
def Bas.tl (b : Bas) : List Value := [.type b.nm, .type "Exception", .type "BaseException", .type "object"]
theorem Bas.facts : ∀ b : Bas, ExcBaseFacts b.nm b.new b.init b.tl
  | .ve => F.excBase_ValueError
  | .ae => F.excBase_ArithmeticError
  | .le => F.excBase_LookupError
theorem Bas.store : ∀ b : Bas, StoreFacts b.nm b.tl "object.__setattr__" "object"
  | .ve => F.store_ValueError
  | .ae => F.store_ArithmeticError
  | .le => F.store_LookupError
/-- own classes, then a base's mro -/
abbrev refsT (tl : List Value) : List Value → Bool := PySem.W.excTail tl
theorem refsT_contains {b : Bas} (X : String) (l : List Value) (h : refsT b.tl l = true) : l.contains (.type X) = b.tl.contains (.type X) := PySem.W.excTail_contains X l h
/-- what the program's head says of such a class -/
structure OexB (b : Bas) (K : PySem.W.Frag) (C : Addr) : Prop where
  cls : ∃ nm q N bs bm sn sub ab col dd k0 k1 k2 k3 k5, K.lookup C = some (excClassObj nm q C N bs bm true sn sub ab col dd k0 k1 k2 k3 k5 b.new) ∧ refsT b.tl bm = true
  is : PySem.W.findIn K (.ref C) "__setattr__" = some (some (.builtin "object.__setattr__")) ∧ PySem.W.subIn K (.ref C) (.type "BaseException") = some true ∧ PySem.W.typeIn K (.ref C) = some (.type "type") ∧ PySem.W.keepIn K (.ref C) = true
theorem OexB.over {b : Bas} {K : PySem.W.Frag} {C : Addr} (T : OexB b K C) : PySem.W.excOver K C b.tl = true ∧ ∃ cd, PySem.W.clsIn K C = some cd ∧ cd.hasDict = true := by
  obtain ⟨nm, q, N, bs, bm, sn, sub, ab, col, dd, k0, k1, k2, k3, k5, lk, tl⟩ := T.cls
  have ec : ∃ cd : ClassData, PySem.W.clsIn K C = some cd ∧ cd.mro = .ref C :: bm ∧ cd.hasDict = true := by
    unfold PySem.W.clsIn
    rw [lk]
    exact ⟨_, rfl, rfl, rfl⟩
  obtain ⟨cd, c1, c2, c3⟩ := ec
  refine ⟨?_, cd, c1, c3⟩
  unfold PySem.W.excOver
  rw [c1, Option.any_some, c2]
  show (C == C && PySem.W.excTail b.tl bm) = true
  rw [beq_self_eq_true, Bool.true_and]
  exact tl
section
variable {X : Cx} {pins : List (Addr × Obj)} {σ : L2.St} {H : Hp} {s : Shared} {a C dx : Addr} {f : Str} {y : V} {u : Value} {Q : Unit → Shared → Prop} {E : Value → Shared → Prop} {A : Around} {bb : Bas}
theorem upd_swap {H : Hp} {a b : Addr} {o p : HO} (h : a ≠ b) : upd (upd H a o) b p = upd (upd H b p) a o := by
  funext c
  by_cases h1 : c = a
  · rw [h1, upd_ne h, upd_same, upd_same]
  · by_cases h2 : c = b
    · rw [h2, upd_same, upd_ne (Ne.symm h), upd_same]
    · rw [upd_ne h2, upd_ne h1, upd_ne h1, upd_ne h2]
/-- self.f = y -/
theorem ost_newB (T : OexB bb X.K C) (I : Inv X pins σ H s) (e : H a = some (exo a C none)) (hno : PySem.W.findIn X.K (.ref C) f = some none) (ry : RelV y u)
    (h : ∀ dx s', H dx = none → dx ≠ a → Inv X pins σ (upd (upd H dx (exd dx [(f, y)])) a (exo a C (some dx))) s' → Q () s') : wpAny (model X.prog X.w) A (setAttr (.ref a) f u) Q E s := by
  obtain ⟨over, cd, c1, c3⟩ := T.over
  obtain ⟨t1, at_⟩ := exo_at I.hok e
  obtain ⟨hp, g, d, t, os⟩ := s
  have lt : a < hp.objs.size := Heap.lt_size at_
  refine PySem.W.set_plain (od := none) I.kIn ⟨at_, rfl, rfl, trivial⟩ T.is.1 (PySem.W.osa_openX (bmB := bb.tl) (od := none) (r := none) bb.store I.kIn ⟨at_, rfl, rfl, trivial⟩ over (by unfold PySem.W.takerIn; rw [hno]; rfl) fun flag => ?_)
  have ne : hp.objs.size ≠ a := Nat.ne_of_gt lt
  refine wpAny_bind (wpAny_pure (wpAny_bind (PySem.W.instanceDict_exc (t := t1) (c2 := .none) at_ (PySem.W.looks_clsIn I.kIn c1) c3 ?_)))
  refine store_in_new (dx := hp.objs.size) ⟨_, #[], _, (Heap.get?_update_ne _ _ _ _ ne).trans (Heap.get?_push_at rfl rfl), rfl, fun _ z => absurd z (by simp), fun _ => rfl⟩ fun h' tk' hn same => ?_
  have at1 : h'.get? a = some { cls := .ref C, dict := some hp.objs.size, data := .fields #[.ref t1, .none, .none, .none, .bool false, .none] } :=
    (same.2 a (Ne.symm ne)).trans (Heap.get?_update_self _ (Heap.get?_push_of_some _ at_) rfl)
  have kept : ∀ b o, b ≠ a → hp.get? b = some o → h'.get? b = some o := fun b o nb q =>
    (same.2 b (Nat.ne_of_lt (Heap.lt_size q))).trans ((Heap.get?_update_ne _ _ _ _ nb).trans (Heap.get?_push_of_some _ q))
  have fresh : H hp.objs.size = none := I.hok.fresh (Nat.le_refl _)
  obtain ⟨G, g1, g2⟩ := L2.restrict h' fun b => decide (b ≠ hp.objs.size)
  have gG : ∀ b, b ≠ hp.objs.size → G.get? b = h'.get? b := fun b nb => g1 b (decide_eq_true nb)
  have g0 : G.get? hp.objs.size = none := g2 _ (decide_eq_false fun z => z rfl)
  have atG : G.get? a = _ := (gG a (Ne.symm ne)).trans at1
  have J1 := I.write (h' := G) (t' := tk') (x := a) (e := a) (o := exo a C (some hp.objs.size)) (by rw [e]; exact True.intro) (.inl rfl) (fun b o nb q => (gG b (Nat.ne_of_lt (Heap.lt_size q))).trans (kept b o nb q)) ⟨_, atG⟩ (exo_ok atG)
  have J2 := J1.laidN (h' := h') (t' := tk') (a := hp.objs.size) (o := exd hp.objs.size [(f, y)]) (fun b o q => by
    by_cases z : b = hp.objs.size
    · rw [z, g0] at q
      cases q
    · exact (gG b z).symm.trans q) g0 (by rw [upd_ne ne]; exact fresh) (exd_ok hn (relO_put (fs := []) ry fun _ => trivial))
  rw [upd_swap (Ne.symm ne)] at J2
  exact h _ _ fresh ne J2
/-- self.f = e, the first one -/
def tOsB (bb : Bas) (K : PySem.W.Frag) (C : Addr) (f : Str) (to te : TE) : TS := fun D σ H => te σ H fun y H1 => to σ H1 fun x H2 => ∃ a : Addr, x = .ref a ∧ OexB bb K C ∧ PySem.W.findIn K (.ref C) f = some none ∧
  H2 a = some (exo a C none) ∧ ∀ dx, H2 dx = none → dx ≠ a → D.nx σ (upd (upd H2 dx (exd dx [(f, y)])) a (exo a C (some dx)))
theorem ps_osB {o e : Expr} {to te : TE} {p' pos : Pos} (ho : PE X o to) (he : PE X e te) (hs : swapsWith e (some (.Attribute o f p')) pos.line X.env = pure false := by rfl) : PS X (.Assign [.Attribute o f p'] e pos) (tOsB bb X.K C f to te) := by
  refine ⟨fun pins s σ H D I h => plainObj_wpAny_Assign_Attribute (thn (he.run pins s σ H _ I h) fun v s1 ⟨y, H1, I1, r1, q1⟩ => thn (ho.run pins s1 σ H1 _ I1 q1) fun u s2 ⟨x, H2, I2, r2, a, ex, T, hno, ea, q⟩ => ?_) hs⟩
  subst ex
  cases (show u = Value.ref a from r2)
  exact ost_newB T I2 ea hno r1 fun dx s' n ne J => ⟨σ, _, J, q dx n ne⟩
end
/-- the promise of an __init__ that keeps one thing -/
def spKeep (C : Addr) (f : Str) : Sp := fun vs H Q _ => ∃ a v, vs = [.ref a, v] ∧ H a = some (exo a C none) ∧ ∀ dx, H dx = none → dx ≠ a → Q .non (upd (upd H dx (exd dx [(f, v)])) a (exo a C (some dx)))
section
variable {X : Cx} {e : Expr} {ta : TE} {p pos : Pos}
/-- x(e): an own exception with one attribute -/
def tMkB (C : Addr) (f : Str) (te : TE) : L2.St → Hp → XK → Prop := fun σ H Q => te σ H fun v H1 => ∀ d, H1 d = none → Q (.ref C) (some d) (upd H1 d (.xd [(f, v)]))
/-- the object is laid, its dict is let go: the dict alone is left -/
theorem upd_left {H : Hp} {a dx : Addr} {o o' p q : HO} (hn : H a = none) : upd (del (upd (upd (upd H a o) dx p) a o') a) dx q = upd H dx q := by
  funext b
  by_cases h1 : b = dx
  · rw [h1, upd_same, upd_same]
  · rw [upd_ne h1, upd_ne h1]
    by_cases h2 : b = a
    · rw [h2, del_same, hn]
    · rw [del_ne h2, upd_ne h2, upd_ne h1, upd_ne h2]
/-- the call of the class itself -/
theorem own_call {bb : Bas} {f ps0 ps1 : Str} {C fI : Addr} {k : Nat} {fd : FuncData} {pins : List (Addr × Obj)} {σ : L2.St} {H : Hp} {s : Shared} {v : V} {u : Value} {Q : XK} (T : OexB bb X.K C) (iC : PySem.W.findIn X.K (.ref C) "__init__" = some (some (.ref fI))) (tI : PySem.W.typeIn X.K (.ref fI) = some (.type "function"))
    (F1 : FnOk X.prog X.w X.K X.mg X.base (L2.CX X.prog X.w) k fI fd [ps0, ps1] (spKeep C f)) (hr : Room (k + 1) X.A) (hb : L2.Binds X.K fd [ps0, ps1] []) (I : Inv X pins σ H s) (ru : RelV v u) (h : ∀ d, H d = none → Q (.ref C) (some d) (upd H d (.xd [(f, v)]))) :
    wpAny (model X.prog X.w) X.A (call (.ref C) [u]) (MkP X pins σ Q) X.xe s := by
  obtain ⟨_, _, _, _, bm, _, _, _, _, _, _, _, _, _, _, lk, tl⟩ := T.cls
  obtain ⟨hp, g, dr, tk, os⟩ := s
  obtain ⟨a, ea⟩ : ∃ a, a = hp.objs.size + 1 := ⟨_, rfl⟩
  obtain ⟨hp2, e2⟩ : ∃ h2, h2 = (hp.push (PySem.W.kdv_tup [u])).push (excO C hp.objs.size) := ⟨_, rfl⟩
  have big : hp.objs.size ≤ a := by omega
  have fresh : H a = none := I.hok.fresh big
  have grows : ∀ b o, hp.get? b = some o → hp2.get? b = some o := fun b o q => e2 ▸ Heap.get?_push_of_some _ (Heap.get?_push_of_some _ q)
  have at_ : hp2.get? a = some (excO C hp.objs.size) := by
    rw [e2, ea]
    heap_get
  have I2 := I.laid (t' := tk) (h' := hp2) grows big (exo_ok (H := upd H a (exo a C none)) (P := X.prog) (w := X.w) at_)
  have rv : Vals [V.ref a, v] [Value.ref a, u] := .cons rfl (.cons ru .nil)
  have kept : spKeep C f [.ref a, v] (upd H a (exo a C none)) (fun w H2 => w = .non ∧ ∃ d, H2 a = some (exo a C (some d)) ∧ H2 d = some (exd d [(f, v)]) ∧ H d = none ∧ Q (.ref C) (some d) (upd (del H2 a) d (.xd [(f, v)]))) (fun _ _ _ => False) := by
    refine ⟨a, v, rfl, upd_same, fun dx n ne => ?_⟩
    rw [upd_ne ne] at n
    exact ⟨rfl, dx, upd_same, by rw [upd_ne ne, upd_same], n, by rw [upd_left fresh]; exact h dx n⟩
  have bind := hb _ [Value.ref a, u] I2.kIn rfl
  refine wpAny_call (call_own bb.facts (fun Y => refsT_contains Y bm tl) (I.kIn _ _ lk) (PySem.W.looks_findIn I.kIn iC) (fun self => PySem.W.bind_fn I.kIn self tI) (by rw [sizeLine_eq]; exact (by decide : 1 ≤ 16777216)) ?_)
  rw [← ea, ← e2]
  refine codeAny_mono (F1.run _ X.stack _ _ ⟨[Value.ref a, u], []⟩ [Value.ref a, u] _ _ (fun _ _ _ => False) (hr.make C [u] []) (I2.env0.make C [u] []) bind rv kept) fun r s' z => ?_
  rcases r with er | fl
  · obtain ⟨_, _, _, _, _, _, _, _, _, _, _, _, no⟩ := z
    exact no.elim
  · cases fl with
    | ret w =>
      obtain ⟨_, H2, o2, b2, u2, k2, rw', ew, d, x1, x2, x3, x4⟩ := z
      subst ew
      exact ⟨rw', mk_end (raises_own T.is.2.1 T.is.2.2.1) (d2 := s'.drawn) (t2 := s'.toks) I big grows u2 k2 o2 b2 x1 x2 x3 x4⟩
    | _ => exact z.elim
theorem pmk_B {bb : Bas} {x f ps0 ps1 : Str} {C fI : Addr} {k : Nat} {fd : FuncData} (T : OexB bb X.K C) (iC : PySem.W.findIn X.K (.ref C) "__init__" = some (some (.ref fI))) (tI : PySem.W.typeIn X.K (.ref fI) = some (.type "function"))
    (F1 : FnOk X.prog X.w X.K X.mg X.base (L2.CX X.prog X.w) k fI fd [ps0, ps1] (spKeep C f)) (hr : Room (k + 1) X.A) (hb : L2.Binds X.K fd [ps0, ps1] []) (hg : Gl X x) (hm : X.mg x = some (.ref C)) (ha : PE X e ta) (hst : ∀ y q, e ≠ .Starred y q)
    (hdb : (x == ("__debug__" : Str)) = false) :
    PMk X (.Call (.Name x p) [e] [] pos) (tMkB C f ta) := by
  intro pins s σ H Q I h
  have one : starEach [e] X.env = (false, eval e X.env) :: starEach [] X.env := by cases e <;> first | rfl | exact absurd rfl (hst _ _)
  refine wpAny_Call_Name_kw (ld_glob I hg hm (PySem.W.callWith_K (h₀ := X.base) I.ok.mod.kin T.is.2.2.2 (thn ((pa_cons ha pa_nil one).run pos pins s σ H (fun vs H1 => match vs with
    | [v] => ∀ d, H1 d = none → Q (.ref C) (some d) (upd H1 d (.xd [(f, v)]))
    | _ => False) I h) fun us s1 z => ?_) one rfl) hdb)
  obtain ⟨vs, H1, I1, r1, q⟩ := z
  match vs, q, r1 with
  | [v], q, r1 =>
    obtain ⟨u, rfl, ru⟩ := r1.one
    exact ⟨I1.kIn, own_call T iC tI F1 hr hb I1 ru q⟩
/-- the __init__ of such a class keeps its promise -/
theorem keep_ok {P : Program} {w : PySem.World} {K : PySem.W.Frag} {mg : Str → Option Value} {base : Heap} {CX : CXT} {k : Nat} {bb : Bas} {x qual f ps0 ps1 : Str} {params : Arguments} {scope : Scope} {C fI : Addr} {fd : FuncData} {p1 p2 p3 p4 : Pos}
    (FD : FunD K x qual params [.Assign [.Attribute (.Name ps0 p1) f p2] (.Name ps1 p3) p4] scope [] [] fI fd) (S : FnScope [ps0, ps1] [ps0, ps1] scope) (T : OexB bb K C) (hno : PySem.W.findIn K (.ref C) f = some none)
    (h0 : (ps0 == ("__debug__" : Str)) = false) (h1 : (ps0 == ("__classdict__" : Str)) = false) (h2 : (ps1 == ("__debug__" : Str)) = false) (h3 : (ps1 == ("__classdict__" : Str)) = false) : FnOk P w K mg base CX (k + 1) fI fd [ps0, ps1] (spKeep C f) := by
  refine FD.ok S (fun vs H Q E h => ?_) fun cdv A outer s H vs Q E hr h => ?_
  · obtain ⟨a, v, rfl, _⟩ := h
    rfl
  · obtain ⟨a, v, rfl, ea, hq⟩ := h
    have v0 : Vis scope ps0 := (S.par ps0 (by simp)).elim .inl fun z => .inr (.inl z)
    have v1 : Vis scope ps1 := (S.par ps1 (by simp)).elim .inl fun z => .inr (.inl z)
    refine ⟨_, pss_one (ps_osB (bb := bb) (C := C) (pe_var (i := 0) rfl v0 h0 h1) (pe_var (i := 1) rfl v1 h2 h3)), ?_⟩
    exact ⟨v, rfl, .ref a, rfl, a, rfl, T, hno, ea, fun dx hd hne => hq dx hd hne⟩
/-- x(): an own exception without an own __init__ -/
theorem pmk_0 {bb : Bas} {x : Str} {C : Addr} (q : PySem.W.excIn X.K C bb.tl bb.new = true) (gC : X.mg x = some (.ref C)) (kC : PySem.W.keepIn X.K (.ref C) = true) (r : Raises X (.ref C)) (hg : Gl X x) (hdb : (x == ("__debug__" : Str)) = false) :
    PMk X (.Call (.Name x p) [] [] pos) (fun _ H Q => Q (.ref C) none H) := by
  intro pins s σ H Q I h
  obtain ⟨bm, N, nm, qn, bs, hdct, sn, sub, ab, col, dd, k0, k1, k2, k3, k5, mN, hC, hN, hni, T⟩ := exc_obj I.kIn q
  exact wpAny_Call_Name_kw (ld_glob I hg gC (PySem.W.callWith_K0 I.kIn kC (wpAny_call_exc_subT bb.facts T hC hN hni (fun _ _ hm => mk_of I hm r h (I.hok.gone hm.new)) (by show 0 ≤ sizeLine; rw [sizeLine_eq]; omega))) hdb)
end
end Ev
set_option Elab.async false
set_option linter.all false
set_option autoImplicit false
set_option maxRecDepth 100000
set_option maxHeartbeats 0
/-! Ex, part B: try with several clauses, each with a class or a tuple of two or three, with a name or without. -/
namespace Ev
open PySem PySem.Spec PyProof.Rows L2
theorem flying_ext {base h h' : Heap} {l : List Env} {e : Addr} {Z : Obj → Prop} (x : HandSPX.FlyingZ base l e Z h) (k : ∀ b o, h.get? b = some o → h'.get? b = some o) : HandSPX.FlyingZ base l e Z h' := by
  obtain ⟨k1, k2, k3, oe, vs, T, oT, ts, e1, e2, e3, e4, e5, e6, e7, e8, e9⟩ := x
  exact ⟨fun b o hb => k b o (k1 b o hb), k2, k3.of_keeps fun b o hb _ => ⟨o, k b o hb, rfl⟩, oe, vs, T, oT, ts, k _ _ e1, e2, e3, e4, e5, e6, k _ _ e7, e8, e9⟩
/-- what stands behind except -/
inductive Tst (X : Cx) : Expr → List Value → Prop
  | one {x : Str} {c : Value} {p : Pos} (h : Names X x c) : Tst X (.Name x p) [c]
  | two {x1 x2 : Str} {c1 c2 : Value} {k : Nat} {p p1 p2 : Pos} (h1 : Names X x1 c1) (h2 : Names X x2 c2) : Tst X (.Tuple [.Name x1 p1, .Name x2 p2] k p) [c1, c2]
  | three {x1 x2 x3 : Str} {c1 c2 c3 : Value} {k : Nat} {p p1 p2 p3 : Pos} (h1 : Names X x1 c1) (h2 : Names X x2 c2) (h3 : Names X x3 c3) : Tst X (.Tuple [.Name x1 p1, .Name x2 p2, .Name x3 p3] k p) [c1, c2, c3]
section
variable {X : Cx} {pins : List (Addr × Obj)} {σ : L2.St} {H : Hp} {s : Shared}
theorem suite_name {a : Addr} {pn : List (Addr × Obj)} {x : Str} {c : Value} {np : Pos} (S : Inv (X.suite a pn) [] σ H s) (hc : Names X x c) {Q : Value → Shared → Prop} {E : Value → Shared → Prop} (q : Q c s) : wpAny (model X.prog X.w) (X.A.mark (some (.ref a))) (eval (.Name x np) X.env) Q E s :=
  hc.2.2.elim (fun z => ld_glob (X := X.suite a pn) S hc.1 z q hc.2.1) fun z => ld_blt (X := X.suite a pn) S hc.1 z.1 z.2.1 q z.2.2 hc.2.1
theorem tst_run {te : Expr} {cs : List Value} {a : Addr} {cls : Value} {b : Bool} {pn : List (Addr × Obj)} {E : Value → Shared → Prop} {Q : Bool → Shared → Prop} (T : Tst X te cs) (S : Inv (X.suite a pn) [] σ H s) (LT : PySem.W.Looks (model X.prog X.w) s.heap (typeOf (.ref a)) cls) (hb : PySem.W.exmAny X.K cls cs = some b)
    (q : ∀ h', (∀ q o, s.heap.get? q = some o → h'.get? q = some o) → Q b { s with heap := h' }) :
    wpAny (model X.prog X.w) (X.A.mark (some (.ref a))) (eval te X.env) (fun c s₁ => wpAny (model X.prog X.w) (X.A.mark (some (.ref a))) (excMatches (.ref a) c) Q E s₁) E s := by
  have kin : X.K.In s.heap := S.kIn
  have kp : ∀ (o' : Obj) q o, s.heap.get? q = some o → (s.heap.push o').get? q = some o := fun _ _ _ => Heap.get?_push_of_some _
  cases T with
  | one h =>
    obtain ⟨b1, d1, e1, e2, rfl⟩ := PySem.W.exmAny_cons hb
    have ed : d1 = false := (Option.some.inj e2).symm
    subst ed
    rw [Bool.or_false] at q
    exact suite_name S h ((PySem.W.exm_one kin LT e1).here (q s.heap fun _ _ z => z))
  | two h1 h2 => exact wpAny_Tuple (wpAny_items_cons (suite_name S h1 (wpAny_items_cons (suite_name S h2 (wpAny_items_nil ⟨by size_fits, (PySem.W.exm_tup2 (kin.keeps (kp _)) (LT.keeps (kp _)) (Heap.get?_push_size s.heap rfl) hb).here (q _ (kp _))⟩)))))
  | three h1 h2 h3 => exact wpAny_Tuple (wpAny_items_cons (suite_name S h1 (wpAny_items_cons (suite_name S h2 (wpAny_items_cons (suite_name S h3 (wpAny_items_nil ⟨by size_fits, (PySem.W.exm_tup3 (kin.keeps (kp _)) (LT.keeps (kp _)) (Heap.get?_push_size s.heap rfl) hb).here (q _ (kp _))⟩)))))))
end
/-- a clause: the classes, the name's place, the suite -/
abbrev Clu := List Value × Option Nat × (Addr → Value → Option Addr → TS)
def nmE (i : Nat) (D : Ends) : Ends := { nx := fun σ' H' => D.nx (σ'.set i none) H', rt := D.rt, bk := fun σ' H' => D.bk (σ'.set i none) H', ct := fun σ' H' => D.ct (σ'.set i none) H' }
/-- what the clauses wish of an exception of the body -/
def wGen (K : PySem.W.Frag) (Wout : WX) (D : Ends) : List Clu → WX
  | [] => Wout
  | (cs, none, ts) :: r => fun cls d σ H => ∃ b, PySem.W.exmAny K cls cs = some b ∧ (b = true → ∀ a, H a = none → ts a cls d D σ H) ∧ (b = false → wGen K Wout D r cls d σ H)
  | (cs, some i, ts) :: r => fun cls d σ H => ∃ b, PySem.W.exmAny K cls cs = some b ∧ (b = true → ∀ a, H a = none → ts a cls d (nmE i D) (σ.set i (some (.ref a))) H) ∧ (b = false → wGen K Wout D r cls d σ H)
inductive HdsG (X : Cx) : List ExceptHandler → List Clu → Prop
  | nil : HdsG X [] []
  | plain {te : Expr} {cs : List Value} {ts : Addr → Value → Option Addr → TS} {b₀ : Stmt} {suite : List Stmt} {pos' : Pos} {hds : List ExceptHandler} {l : List Clu} (hc : Tst X te cs)
      (hsu : ∀ (a : Addr) (oe : Obj) (cls : Value) (d : Option Addr) (pn : List (Addr × Obj)), Zc cls d oe → (∃ vs, oe.data = .fields vs) → PSs (X.suite a ((a, oe) :: pn)) (b₀ :: suite) (ts a cls d)) (r : HdsG X hds l) :
      HdsG X (.ExceptHandler (some te) none (b₀ :: suite) pos' :: hds) ((cs, none, ts) :: l)
  | named {te : Expr} {n : Str} {i : Nat} {cs : List Value} {ts : Addr → Value → Option Addr → TS} {b₀ : Stmt} {suite : List Stmt} {pos' : Pos} {hds : List ExceptHandler} {l : List Clu} (hc : Tst X te cs) (hN : X.N.Nodup) (hi : X.N[i]? = some n) (hln : X.env.kindOf n = some .local)
      (hsu : ∀ (a : Addr) (oe : Obj) (cls : Value) (d : Option Addr) (pn : List (Addr × Obj)), Zc cls d oe → (∃ vs, oe.data = .fields vs) → PSs (X.suite a ((a, oe) :: pn)) (b₀ :: suite) (ts a cls d)) (r : HdsG X hds l) :
      HdsG X (.ExceptHandler (some te) (some n) (b₀ :: suite) pos' :: hds) ((cs, some i, ts) :: l)
/-- an exception that a try has caught: where it stands, and what the state was when it flew -/
structure Lnd (X : Cx) (pins : List (Addr × Obj)) (a : Addr) (cls : Value) (d : Option Addr) (σ : L2.St) (H : Hp) (B : Heap) (s0 s : Shared) : Prop where
  fly : HandSPX.FlyingZ B (X.env :: X.outer) a (Zc cls d) s.heap
  was : Inv X pins σ H s0
  low : ∀ b o, s0.heap.get? b = some o → b ∉ frs X.stack → B.get? b = some o
  up : s0.heap.UpToSlots s.heap
  new : H a = none
  os : s.os = s0.os
  bare : AllBare s.gens
section
variable {X : Cx} {pins : List (Addr × Obj)} {a : Addr} {cls : Value} {d : Option Addr} {σ : L2.St} {H : Hp} {B : Heap} {s0 s : Shared}
theorem Lnd.inv (L : Lnd X pins a cls d σ H B s0 s) : Inv X pins σ H s := L.was.landed L.low L.fly.1 L.up L.os L.bare
theorem Lnd.step (L : Lnd X pins a cls d σ H B s0 s) {h : Heap} (f : HandSPX.FlyingZ B (X.env :: X.outer) a (Zc cls d) h) (u : s.heap.UpToSlots h) : Lnd X pins a cls d σ H B s0 { s with heap := h } := ⟨f, L.was, L.low, L.up.trans u, L.new, L.os, L.bare⟩
theorem Lnd.grow (L : Lnd X pins a cls d σ H B s0 s) {h : Heap} (k : ∀ q o, s.heap.get? q = some o → h.get? q = some o) : Lnd X pins a cls d σ H B s0 { s with heap := h } :=
  L.step (flying_ext L.fly k) fun b o hb _ => ⟨o.slots, k b o hb⟩
/-- the suite's state -/
theorem Lnd.sit (L : Lnd X pins a cls d σ H B s0 s) (hf : X.env.frame = some X.env.locals) : ∃ oe, Zc cls d oe ∧ (∃ vs, oe.data = .fields vs) ∧ s.heap.get? a = some oe ∧ Inv (X.suite a ((a, oe) :: (X.pn ++ pins))) [] σ H s := by
  obtain ⟨oe, vs, at_, zc, fd⟩ := L.fly.there
  have out : a ∉ frs (X.env :: X.outer) := fun m => by
    obtain ⟨_, o, at2, nof⟩ := L.fly.2.2.1.mem m
    cases at_.symm.trans at2
    exact nof vs fd
  refine ⟨oe, zc, ⟨vs, fd⟩, at_, L.inv.suite at_ fd L.new (fun z => out ?_) fun m => out ?_⟩
  · rw [z]
    exact List.mem_filterMap.mpr ⟨_, .head _, hf⟩
  · obtain ⟨en, m1, m2⟩ := List.mem_filterMap.mp m
    exact List.mem_filterMap.mpr ⟨en, .tail _ m1, m2⟩
/-- behind a suite without a name -/
theorem sp_out {q : Addr × Obj} {D : Ends} {f : Flow} (ok : X.Ok) (h : SP (X.suite a (q :: (X.pn ++ pins))) [] D f s) : SP X pins D f s := by
  cases f with
  | ret u => obtain ⟨v, τ, G, S, rv, w⟩ := h; exact ⟨v, τ, G, S.unsuite ok, rv, w⟩
  | next => obtain ⟨τ, G, S, w⟩ := h; exact ⟨τ, G, S.unsuite ok, w⟩
  | brk => obtain ⟨τ, G, S, w⟩ := h; exact ⟨τ, G, S.unsuite ok, w⟩
  | cont => obtain ⟨τ, G, S, w⟩ := h; exact ⟨τ, G, S.unsuite ok, w⟩
/-- behind a suite with one -/
theorem sp_gone {q : Addr × Obj} {D : Ends} {f : Flow} {n : Str} {i : Nat} {p : Pos} (ok : X.Ok) (hN : X.N.Nodup) (hi : X.N[i]? = some n) (hl : X.env.kindOf n = some .local) (h : SP (X.suite a (q :: (X.pn ++ pins))) [] (nmE i D) f s) :
    wpAny (model X.prog X.w) X.A (do bindName X.env n .none; unbindBehindTheSuite X.env n p) (fun _ s' => SP X pins D f s') X.xe s := by
  cases f with
  | ret u => obtain ⟨v, τ, G, S, rv, w⟩ := h; exact gone_ok (S.unsuite ok) hN hi hl fun _ J => ⟨v, _, G, J, rv, w⟩
  | next => obtain ⟨τ, G, S, w⟩ := h; exact gone_ok (S.unsuite ok) hN hi hl fun _ J => ⟨_, G, J, w⟩
  | brk => obtain ⟨τ, G, S, w⟩ := h; exact gone_ok (S.unsuite ok) hN hi hl fun _ J => ⟨_, G, J, w⟩
  | cont => obtain ⟨τ, G, S, w⟩ := h; exact gone_ok (S.unsuite ok) hN hi hl fun _ J => ⟨_, G, J, w⟩
/-- no clause is left: it flies on -/
theorem Lnd.pass {D : Ends} {Wout : WX} (L : Lnd X pins a cls d σ H B s0 s) (hs : X.stack = X.env :: X.outer) (hf : X.env.frame = some X.env.locals) (tk : Takes X Wout) (w : Wout cls d σ H) : wpAny (model X.prog X.w) X.A (handleBy (.ref a) X.env []) (SP X pins D) X.xe s :=
  PySem.PX.no_clauseZ hf L.fly fun h held u => tk _ _ ⟨a, B, s0, pins, σ, H, cls, d, rfl, L.was, L.low, L.up.trans u, .inr (.inr (by rw [hs]; exact held)), L.new, L.os, L.bare, w⟩
end
/-- what the clauses are told of what the body lets out -/
def catching (X : Cx) (pins : List (Addr × Obj)) (D : Ends) (hds : List ExceptHandler) : Value → Shared → Prop := fun u s1 =>
  wpAny (model X.prog X.w) X.A (noteFrame u X.env) (fun _ s2 => wpAny (model X.prog X.w) X.A (setFlight u none) (fun _ s3 => wpAny (model X.prog X.w) X.A (handleBy u X.env hds) (SP X pins D) X.xe s3) X.xe s2) X.xe s1
section
variable {X : Cx} {body : List Stmt} {h₀ : ExceptHandler} {hds : List ExceptHandler} {l : List Clu} {pos : Pos} {tb : WX → TS} {Wout : WX}
theorem hds_run {pins : List (Addr × Obj)} {a : Addr} {cls : Value} {d : Option Addr} {σ : L2.St} {H : Hp} {B : Heap} {s0 : Shared} {D : Ends} (ok : X.Ok) (hs : X.stack = X.env :: X.outer) (hf : X.env.frame = some X.env.locals) (tk : Takes X Wout) (hh : HdsG X hds l) :
    ∀ s, Lnd X pins a cls d σ H B s0 s → wGen X.K Wout D l cls d σ H → wpAny (model X.prog X.w) X.A (handleBy (.ref a) X.env hds) (SP X pins D) X.xe s := by
  induction hh with
  | nil => exact fun s L w => L.pass hs hf tk w
  | plain T su r ih =>
    rintro s L ⟨b, hb, yes, no⟩
    obtain ⟨oe, zc, _, at_, S⟩ := L.sit hf
    refine wpAny_handleBy_cons (codeAny_handlers_test (tst_run T S (fun _ _ _ _ k q => wpAny_typeOf_ref (k _ _ at_) (by rw [zc.1]; exact q)) hb fun h k => ?_)) (fun z => by cases z)
    have L1 := L.grow k
    cases b with
    | false => exact ih _ L1 (no rfl)
    | true =>
      refine codeAny_handlers_suite (HandSPX.lands_againZ L1.fly fun h2 f2 u2 => ?_)
      obtain ⟨o2, z2, d2, _, S2⟩ := (L1.step f2 u2).sit hf
      exact wpAny_mono ((su a o2 cls d _ z2 d2).run [] _ _ H _ S2 (yes rfl a L.new)) (fun _ _ z => sp_out ok z) fun _ _ z => z.elim
  | named T hN hi hl su r ih =>
    rintro s L ⟨b, hb, yes, no⟩
    obtain ⟨oe, zc, _, at_, S⟩ := L.sit hf
    refine wpAny_handleBy_cons (codeAny_handlers_test (tst_run T S (fun _ _ _ _ k q => wpAny_typeOf_ref (k _ _ at_) (by rw [zc.1]; exact q)) hb fun h k => ?_)) (fun z => by cases z)
    have L1 := L.grow k
    cases b with
    | false => exact ih _ L1 (no rfl)
    | true =>
      refine codeAny_handlers_suite_as (HandSPX.lands_againZ L1.fly fun h2 f2 u2 => ?_)
      obtain ⟨o2, z2, d2, _, S2⟩ := (L1.step f2 u2).sit hf
      refine store_ok (X := X.suite a (_ :: (X.pn ++ pins))) (v := .ref a) S2 hN hi (.inl hl) rfl (fun s5 S5 => ?_) (.inr hl)
      exact wpAny_mono ((su a o2 cls d _ z2 d2).run [] s5 _ H _ S5 (yes rfl a L.new)) (fun _ _ z => sp_gone ok hN hi hl z) fun _ _ z => z.elim
theorem ps_tryG (hs : X.stack = X.env :: X.outer) (hf : X.env.frame = some X.env.locals) (tk : Takes X Wout)
    (hb : ∀ W pn xe, Takes (X.tr pn xe) W → PassesOwn (model X.prog X.w) X.A X.env xe → PSs (X.tr pn xe) body (tb W))
    (hh : HdsG X (h₀ :: hds) l) : PS X (.Try body (h₀ :: hds) [] [] pos) (fun D σ H => tb (wGen X.K Wout D l) D σ H) := by
  refine ⟨fun pins s σ H D I h => wpAny_Try_except (wpAny_mono ((hb _ (X.pn ++ pins) (catching X pins D (h₀ :: hds)) (fun u s1 x => ?_) PassesOwn.looking).run [] s σ H D (I.toTry _) h) (fun f s1 z => ?_) fun _ _ z => z)⟩
  · obtain ⟨a, B, s0, pn, τ, G, cls, d, rfl, J, low, up, sky, new, os, bare, w⟩ := x
    have sky1 : Sky B (X.env :: X.outer) a (Zc cls d) X.env.locals s1.heap := hs ▸ sky
    exact Sky.land Zc.steady (I.ok.frames.trans (congrArg some hs)) hf sky1 fun h fl u => hds_run I.ok hs hf tk hh _ ⟨fl, J.ofTry I.ok, low, up.trans u, new, os, bare⟩ w
  · cases f with
    | ret u => obtain ⟨v, τ, G, J, rv, w⟩ := z; exact ⟨v, τ, G, J.ofTry I.ok, rv, w⟩
    | next => obtain ⟨τ, G, J, w⟩ := z; exact wpAny_execs_nil ⟨τ, G, J.ofTry I.ok, w⟩
    | brk => obtain ⟨τ, G, J, w⟩ := z; exact ⟨τ, G, J.ofTry I.ok, w⟩
    | cont => obtain ⟨τ, G, J, w⟩ := z; exact ⟨τ, G, J.ofTry I.ok, w⟩
end
end Ev
set_option Elab.async false
set_option linter.all false
set_option autoImplicit false
set_option maxRecDepth 100000
/-! Ex, part C: raise, the exception at hand, try, what a function without arguments tells, as readings over plain data. -/
namespace Ev
open PySem PySem.Spec PyProof.Rows L2
/-! ### classes of exceptions -/
/-- an own class of exceptions: its name, its attribute, its base, all names of which its instances are -/
structure Xc where
  x : Str
  fld : Option Str
  bas : Bas
  ups : List Str
structure XmkB (B : Bg) (b : Bas) (C : Addr) (f : Str) : Prop where
  oex : OexB b B.K C
  no : PySem.W.findIn B.K (.ref C) f = some none
  ini : ∃ (fI : Addr) (fd : FuncData) (x qual ps0 ps1 : Str) (params : Arguments) (scope : Scope) (p1 p2 p3 p4 : Pos), PySem.W.findIn B.K (.ref C) "__init__" = some (some (.ref fI)) ∧ PySem.W.typeIn B.K (.ref fI) = some (.type "function") ∧
    FunD B.K x qual params [.Assign [.Attribute (.Name ps0 p1) f p2] (.Name ps1 p3) p4] scope [] [] fI fd ∧ FnScope [ps0, ps1] [ps0, ps1] scope ∧ L2.Binds B.K fd [ps0, ps1] [] ∧
    (ps0 == ("__debug__" : Str)) = false ∧ (ps0 == ("__classdict__" : Str)) = false ∧ (ps1 == ("__debug__" : Str)) = false ∧ (ps1 == ("__classdict__" : Str)) = false
structure Xmk0 (B : Bg) (b : Bas) (C : Addr) : Prop where
  ex : PySem.W.excIn B.K C b.tl b.new = true
  kp : PySem.W.keepIn B.K (.ref C) = true
  sub : PySem.W.subIn B.K (.ref C) (.type "BaseException") = some true
  ty : PySem.W.typeIn B.K (.ref C) = some (.type "type")
/-- a name of a class: its value, which exceptions are its instances -/
def NmF (mg : Str → Option Value) (B : Bg) (xcs : List Xc) (y : Str) : Prop := ∃ (cv : Value) (v : V), RelV v cv ∧ (∀ u, RelV v u → u = cv) ∧ (mg y = some cv ∨ (mg y = none ∧ bootBuiltins y = some cv ∧ y ≠ "__name__")) ∧
  ∀ j c, xcs[j]? = some c → PySem.W.kitOne B.K (.ref (B.xcl j)) cv = some (c.ups.contains y) ∧ PySem.W.exmOne B.K (.ref (B.xcl j)) cv = some (c.ups.contains y)
structure XcF (mg : Str → Option Value) (B : Bg) (xcs : List Xc) (xns : List Str) : Prop where
  nx : B.nx = xcs.length
  at_ : ∀ j c, xcs[j]? = some c → mg c.x = some (.ref (B.xcl j))
  m1 : ∀ j c f, xcs[j]? = some c → c.fld = some f → XmkB B c.bas (B.xcl j) f ∧ B.fld j = f ∧ XfC B.K (B.xcl j)
  m0 : ∀ j c, xcs[j]? = some c → c.fld = none → Xmk0 B c.bas (B.xcl j)
  ex : ∀ j c, xcs[j]? = some c → ExcC B.K (B.xcl j)
  nm : ∀ y ∈ xns, NmF mg B xcs y
/-- the places in a list at which something holds -/
def idxs (P : Xc → Bool) : List Xc → Nat → List Nat
  | [], _ => []
  | c :: cs, i => if P c then i :: idxs P cs (i + 1) else idxs P cs (i + 1)
theorem idxs_ge {P : Xc → Bool} : ∀ {cs : List Xc} {k j : Nat}, (idxs P cs k).contains j = true → k ≤ j
  | [], k, j, h => by cases h
  | c :: cs, k, j, h => by
    unfold idxs at h
    split at h
    · rw [List.contains_cons, Bool.or_eq_true] at h
      rcases h with z | z
      · have := eq_of_beq z
        omega
      · have := idxs_ge z
        omega
    · have := idxs_ge h
      omega
theorem idxs_at {P : Xc → Bool} : ∀ {cs : List Xc} {k j : Nat} {c : Xc}, cs[j]? = some c → (idxs P cs k).contains (k + j) = P c
  | [], k, j, c, h => by simp at h
  | c' :: cs, k, 0, c, h => by
    simp at h
    subst h
    unfold idxs
    split
    · rename_i hp
      rw [List.contains_cons, hp]
      simp
    · rename_i hp
      rw [Bool.eq_false_iff.mpr hp]
      refine Bool.eq_false_iff.mpr fun z => ?_
      have := idxs_ge z
      omega
  | c' :: cs, k, j + 1, c, h => by
    have ih := idxs_at (P := P) (cs := cs) (k := k + 1) (j := j) (c := c) (by simpa using h)
    have e : k + (j + 1) = k + 1 + j := by omega
    unfold idxs
    split
    · rw [List.contains_cons, e, ih]
      have : (k + 1 + j == k) = false := by simp; omega
      rw [this, Bool.false_or]
    · rw [e, ih]
/-! ### raise -/
def dRais (c : Nat) (tA : DTA) : DTS := fun en st P => tA en st (fun ds en1 st1 => match ds with
  | [] => P.ex (c, none) en1 st1
  | [d] => P.ex (c, some d) en1 st1
  | _ => False) P.ex
theorem dRais_mono {c : Nat} {tA : DTA} (m : MonoA tA) : MonoS (dRais c tA) := fun _ _ _ _ h q => m _ _ _ _ _ _ (fun ds _ _ z => by
  match ds, z with
  | [], z => exact h.ex _ _ _ z
  | [d], z => exact h.ex _ _ _ z) h.ex q
section
variable {mg : Str → Option Value} {B : Bg} {W : WX} {X : Cx} {xcs : List Xc} {xns : List Str} {e : Expr} {te : DTE} {p pos pos2 : Pos}
theorem ds_rais1 {j : Nat} {c : Xc} {f : Str} (XF : XcF mg B xcs xns) (hj : xcs[j]? = some c) (hf : c.fld = some f) (hK : X.K = B.K) (hm : X.mg = mg) (hc : X.calm = true) (tk : Takes X W) (hr : Room 2 X.A) (hg : Gl X c.x) (hdb : (c.x == ("__debug__" : Str)) = false) (he : DE B W X e te) (hst : ∀ y q, e ≠ .Starred y q) :
    DS B W X (.Raise (some (.Call (.Name c.x p) [e] [] pos)) none pos2) (dRais j (dCons te dNil)) := by
  obtain ⟨M, hfl, _⟩ := XF.m1 j c f hj hf
  obtain ⟨fI, fd, x, qual, ps0, ps1, params, scope, p1, p2, p3, p4, i1, i2, FD, S, hb, n0, n1, n2, n3⟩ := M.ini
  have lt : j < B.nx := by rw [XF.nx]; exact (List.getElem?_eq_some_iff.mp hj).1
  have F1 : FnOk X.prog X.w X.K X.mg X.base (L2.CX X.prog X.w) 1 fI fd [ps0, ps1] (spKeep (B.xcl j) f) := keep_ok (k := 0) (bb := c.bas) (by rw [hK]; exact FD) S (by rw [hK]; exact M.oex) (by rw [hK]; exact M.no) n0 n1 n2 n3
  have mk := pmk_B (X := X) (p := p) (pos := pos) (bb := c.bas) (x := c.x) (by rw [hK]; exact M.oex) (by rw [hK]; exact i1) (by rw [hK]; exact i2) F1 hr (by rw [hK]; exact hb) hg (by rw [hm]; exact XF.at_ j c hj) he.run hst hdb
  refine ⟨dRais_mono (dCons_mono he.mono dNil_mono), PS.weak (ps_raise hc tk mk) fun D σ H ⟨F, r, en, st, R, q⟩ => ?_⟩
  refine at_bind (k := fun d _ en1 st1 => (postOf B W D σ F r en H).ex (j, some d) en1 st1) he.mono R (he.mono _ _ _ _ _ _ (fun _ _ _ z => z) (fun _ _ _ z => ex_of z) q) fun d en1 st1 F1 r1 H1 v S1 R1 rep1 h1 a ha => ?_
  have fr := (R1.w.fresh ha).1
  refine h1 σ (upd F1 a (.xd [(f, v)])) r1 _ _ _ (S1.trans (Step.newF R1 ha)) (R1.newF ha) ⟨lt, rfl, a, v, rfl, ?_, rep1.mono (sub_upd fr) (Pre.refl _)⟩
  rw [hfl, upd_same]
theorem ds_rais0 {j : Nat} {c : Xc} (XF : XcF mg B xcs xns) (hj : xcs[j]? = some c) (hf : c.fld = none) (hK : X.K = B.K) (hm : X.mg = mg) (hc : X.calm = true) (tk : Takes X W) (hg : Gl X c.x) (hdb : (c.x == ("__debug__" : Str)) = false) :
    DS B W X (.Raise (some (.Call (.Name c.x p) [] [] pos)) none pos2) (dRais j dNil) := by
  have M := XF.m0 j c hj hf
  have lt : j < B.nx := by rw [XF.nx]; exact (List.getElem?_eq_some_iff.mp hj).1
  have mk := pmk_0 (X := X) (p := p) (pos := pos) (bb := c.bas) (x := c.x) (C := B.xcl j) (by rw [hK]; exact M.ex) (by rw [hm]; exact XF.at_ j c hj) (by rw [hK]; exact M.kp) (raises_own (by rw [hK]; exact M.sub) (by rw [hK]; exact M.ty)) hg hdb
  refine ⟨dRais_mono dNil_mono, PS.weak (ps_raise hc tk mk) fun D σ H ⟨F, r, en, st, R, q⟩ => ?_⟩
  exact q σ F r H _ _ Step.refl R ⟨lt, rfl, rfl⟩
end
/-! ### the exception at hand: isinstance, its attribute -/
def dIsx (i : Nat) (cs : List Nat) : DTE := fun en st k _ => match en[i]? with
  | some (some (.e x)) => k (.v (.bl (cs.contains x.1))) en st
  | _ => False
theorem dIsx_mono (i : Nat) (cs : List Nat) : MonoE (dIsx i cs) := fun en st k k' e e' hk _ h => by
  unfold dIsx at h ⊢
  split at h
  · exact hk _ _ _ h
  · exact h.elim
def dAtx (i : Nat) (cs : List Nat) : DTE := fun en st k _ => match en[i]? with
  | some (some (.e (c, some d))) => cs.contains c = true ∧ k (.v d) en st
  | _ => False
theorem dAtx_mono (i : Nat) (cs : List Nat) : MonoE (dAtx i cs) := fun en st k k' e e' hk _ h => by
  unfold dAtx at h ⊢
  split at h
  · exact ⟨h.1, hk _ _ _ h.2⟩
  · exact h.elim
/-- the context holds the exception -/
structure Hx (B : Bg) (X : Cx) (a : Addr) (oe : Obj) (cls : Value) (d : Option Addr) : Prop where
  ex : B.ex = some (a, cls, d)
  pin : (a, oe) ∈ X.pn
  z : Zc cls d oe
  f : ∃ vs, oe.data = .fields vs
section
variable {mg : Str → Option Value} {B : Bg} {W : WX} {X : Cx} {xcs : List Xc} {xns : List Str} {a : Addr} {oe : Obj} {cls : Value} {d : Option Addr}
theorem call_isX (hx : Hx B X a oe cls d) : CallR X (.builtin "isinstance") (fun xs H Q => ∃ (D : Addr) (c : V) (cv : Value) (b : Bool), cls = .ref D ∧ ExcC X.K D ∧ (∀ dd, d = some dd → ∃ fs, H dd = some (.xd fs)) ∧ xs = [.ref a, c] ∧ (∀ u, RelV c u → u = cv) ∧ PySem.W.kitOne X.K (.ref D) cv = some b ∧ Q (.bl b) H) := by
  intro pins s σ H xs us Q I r ⟨D, c, cv, b, ec, C, hd, exs, hcv, e, q⟩
  subst exs ec
  cases r with
  | cons rx rr =>
    cases rr with
    | cons rt rr =>
      cases rr
      cases rx
      have ec := hcv _ rt
      subst ec
      obtain ⟨hget, _⟩ := I.pin (a, oe) (List.mem_append.mpr (.inl hx.pin))
      obtain ⟨vs, hv⟩ := hx.f
      have J : ∃ od, PySem.W.InstAt s.heap a oe D od := by
        cases hdd : d with
        | none => exact ⟨none, hget, hx.z.1, by unfold PySem.W.notCls; rw [hv] <;> rfl, by rw [hx.z.2, hdd]; exact trivial⟩
        | some dd =>
          obtain ⟨fs, hfs⟩ := hd dd hdd
          obtain ⟨mA, ⟨o, es, ep, ho, _⟩, _⟩ := (show ObjOk X.prog X.w H s.heap dd (.xd fs) from I.hok dd _ hfs)
          exact ⟨some o, hget, hx.z.1, by unfold PySem.W.notCls; rw [hv] <;> rfl, by rw [hx.z.2, hdd]; exact ho⟩
      obtain ⟨od, J⟩ := J
      have hcl : (PySem.W.clsIn X.K D).isSome = true := by
        obtain ⟨cd, hc, _⟩ := PySem.W.any_some C.hd
        rw [hc]
        rfl
      exact PySem.W.kia_one (PySem.W.kitx_exc (od := od) (ox := oe) (x := a) hcl C.hg C.hk C.hs C.ha C.hn C.ht C.hm) I.kIn J e (fun z => nomatch z) fun tk => ⟨.bl b, H, I.kept (t' := tk) fun _ _ z => z, rfl, q⟩
theorem xrep_dict {F : Hp} {r : List Addr} {x : Xn} (h : XRep B F r x cls d) : (∃ D, cls = .ref D ∧ D = B.xcl x.1) ∧ x.1 < B.nx ∧ ∀ dd, d = some dd → ∃ fs, F dd = some (.xd fs) := by
  obtain ⟨c, o⟩ := x
  cases o with
  | none =>
    obtain ⟨h0, h1, h2⟩ := h
    exact ⟨⟨_, h1, rfl⟩, h0, fun dd e => by rw [h2] at e; cases e⟩
  | some y =>
    obtain ⟨h0, h1, da, v, h2, h3, _⟩ := h
    exact ⟨⟨_, h1, rfl⟩, h0, fun dd e => by rw [h2] at e; cases e; exact ⟨_, h3⟩⟩
theorem de_isx {i : Nat} {en y : Str} {p pe py pos : Pos} (hx : Hx B X a oe cls d) (XF : XcF mg B xcs xns) (hy : y ∈ xns) (hK : X.K = B.K) (hm : X.mg = mg) (hg : Gl X "isinstance") (hmi : X.mg "isinstance" = none) (hv : PE X (.Name en pe) (tVar i)) (hgy : Gl X y) (hdy : (y == ("__debug__" : Str)) = false) :
    DE B W X (.Call (.Name "isinstance" p) [.Name en pe, .Name y py] [] pos) (dIsx i (idxs (fun c => c.ups.contains y) xcs 0)) := by
  obtain ⟨cv, v, r1, r2, hn, his⟩ := XF.nm y hy
  have pc : PE X (.Name y py) (tC v) := by
    rcases hn with h | ⟨h1, h2, h3⟩
    · exact pe_glob hgy (by rw [hm]; exact h) r1 hdy
    · exact pe_bltn hgy (by rw [hm]; exact h1) h2 r1 h3 hdy
  refine ⟨dIsx_mono _ _, PE.weak (pe_callB (call_isX hx) hg hmi (by decide +kernel) (pa_cons hv (pa_cons pc pa_nil)) (by decide) (by decide)) fun σ H Q ⟨F, r, en', st, R, q⟩ => ?_⟩
  unfold dIsx at q
  split at q
  · rename_i x hx'
    obtain ⟨a', cls', d', e1, e2, e3⟩ := R.exc i x hx'
    rw [hx.ex] at e1
    cases e1
    obtain ⟨⟨D, eD, eX⟩, lt, hd⟩ := xrep_dict e3
    obtain ⟨c, hc⟩ : ∃ c, xcs[x.1]? = some c := ⟨_, List.getElem?_eq_getElem (by rw [← XF.nx]; exact lt)⟩
    have hk := (his x.1 c hc).1
    have ec := idxs_at (P := fun c => c.ups.contains y) (k := 0) hc
    rw [Nat.zero_add] at ec
    rw [ec] at q
    refine ⟨.ref a, e2, D, v, cv, c.ups.contains y, eD, ?_, fun dd z => ?_, rfl, r2, ?_, kp_val q R rfl⟩
    · rw [hK, eX]; exact XF.ex _ _ hc
    · obtain ⟨fs, z⟩ := hd dd z
      exact ⟨fs, R.w.sub _ _ z⟩
    · rw [hK, eX]; exact hk
  · exact q.elim
theorem de_atx {i : Nat} {en f : Str} {pe pos : Pos} (hx : Hx B X a oe cls d) (XF : XcF mg B xcs xns) (hK : X.K = B.K) (hv : PE X (.Name en pe) (tVar i)) :
    DE B W X (.Attribute (.Name en pe) f pos) (dAtx i (idxs (fun c => c.fld == some f) xcs 0)) := by
  refine ⟨dAtx_mono _ _, ⟨fun pins s σ H Q I h => ?_⟩⟩
  obtain ⟨F, r, en', st, R, q⟩ := h
  unfold dAtx at q
  split at q
  · rename_i c y hx'
    obtain ⟨hcs, q⟩ := q
    obtain ⟨a', cls', d', e1, e2, e3⟩ := R.exc i _ hx'
    rw [hx.ex] at e1
    cases e1
    obtain ⟨h0, h1, da, v, h2, h3, h4⟩ := e3
    have hlt : c < xcs.length := by rw [← XF.nx]; exact h0
    have hc := List.getElem?_eq_getElem hlt
    have ec := idxs_at (P := fun c => c.fld == some f) (k := 0) hc
    rw [Nat.zero_add, hcs] at ec
    have hfl : xcs[c].fld = some f := eq_of_beq ec.symm
    obtain ⟨M, hB, T⟩ := XF.m1 c _ f hc hfl
    refine attr_of rfl (thn (hv.run pins s σ H (fun v' H' => v' = .ref a ∧ H' = H) I ⟨.ref a, e2, rfl, rfl⟩) fun u s1 ⟨x, H1, I1, rx, ex, eH⟩ => ?_)
    subst ex
    rw [eH] at I1
    obtain rfl : u = Value.ref a := rx
    obtain ⟨ha, _⟩ := I1.pin (a, oe) (List.mem_append_left _ hx.pin)
    obtain ⟨vs, hd⟩ := hx.f
    have ea : H da = some (.xd [(f, v)]) := by rw [← hB]; exact R.w.sub _ _ h3
    obtain ⟨mA, hns, hr⟩ := (show ObjOk X.prog X.w H s1.heap da (.xd [(f, v)]) from I1.hok da _ ea)
    obtain ⟨od, ho, hl⟩ := lookIn_ns hns
    obtain ⟨u, hu, ru⟩ := RelO.some_of (v := v) (o := mA f) (by have z := hr f; simpa [List.lookup] using z)
    have J : PySem.W.InstAt s1.heap a oe (B.xcl c) (some od) := ⟨ha, hx.z.1.trans h1, by unfold PySem.W.notCls; rw [hd] <;> rfl, by rw [hx.z.2, h2]; exact ho⟩
    refine HandSPX.exc_get I1.kIn J (by rw [hK]; exact T.ga) (by rw [hK]; exact T.gg) (by rw [hK]; exact T.exC) (PySem.W.findObj_own (by rw [hK]; exact T.hdC) (by rw [hK]; exact M.no) rfl (by rw [hl, hu])) (handed_of ru) ⟨v, H, I1.tok _, ru, kp_val q R h4⟩
  · exact q.elim
end
end Ev
set_option Elab.async false
set_option linter.all false
set_option autoImplicit false
set_option maxRecDepth 100000
/-! Ex, part Ca: a lambda is made and handed to a def that tells what it gives or raises. -/
namespace Ev
open PySem PySem.Spec PyProof.Rows L2 LamX
/-- nothing but tables changes, nothing goes -/
structure LamExt (T : List (Addr × Str)) (H H1 : Hp) : Prop where
  ext : ExtN H H1
  there : ∀ a, H1 a = none → H a = none
  tabs : Tabs T H1
theorem codeO_no {c : Addr} {q : Str} (ps : Array Value) : CodeO c q ≠ .tbl ps := fun z => nomatch (show HO.ext _ = HO.tbl ps from z)
/-- a table grows by one code object -/
theorem lamExt_grow {T : List (Addr × Str)} {H : Hp} {P c' : Addr} {q : Str} {ps : Array Value} {pos : Pos} (hT : Tabs T H) (hP : H P = some (.tbl ps)) (ht : TriplesOk ps.toList) (hn : H c' = none) (hu : ∀ p ∈ T, p.1 = P → p.2 = q) (ha : ∀ (p' : Pos) (cv : Value), codeAmong p' ps.toList = some cv → ∃ c, cv = .ref c ∧ H c = some (CodeO c q)) :
    LamExt T H (upd (upd H P (.tbl (ps ++ #[rawInt pos.line, rawInt pos.col, .ref c']))) c' (CodeO c' q)) := by
  have nPc : P ≠ c' := ne_of_none hP hn
  have ex : ExtN H (upd (upd H P (.tbl (ps ++ #[rawInt pos.line, rawInt pos.col, .ref c']))) c' (CodeO c' q)) := fun b o hb no => by
    have n1 : b ≠ c' := ne_of_none hb hn
    have n2 : b ≠ P := fun z => by
      subst z
      exact no ps (Option.some.inj (hb.symm.trans hP))
    rw [upd_ne n1, upd_ne n2, hb]
  have aL : (ps ++ #[rawInt pos.line, rawInt pos.col, .ref c']).toList = ps.toList ++ [rawInt pos.line, rawInt pos.col, .ref c'] := by simp
  refine ⟨ex, fun a z => ?_, fun p hp => ?_⟩
  · by_cases h1 : a = c'
    · rw [h1]; exact hn
    · rw [upd_ne h1] at z
      by_cases h2 : a = P
      · rw [h2, upd_same] at z; cases z
      · rwa [upd_ne h2] at z
  · obtain ⟨ps', a1, a2, a3⟩ := hT p hp
    have up : ∀ {pp : Pos} {cv : Value} {qq : Str}, (∃ c0, cv = .ref c0 ∧ H c0 = some (CodeO c0 qq)) → ∃ c0, cv = .ref c0 ∧ upd (upd H P (.tbl (ps ++ #[rawInt pos.line, rawInt pos.col, .ref c']))) c' (CodeO c' q) c0 = some (CodeO c0 qq) := fun ⟨c0, e1, e2⟩ => ⟨c0, e1, ex _ _ e2 codeO_no⟩
    by_cases hb : p.1 = P
    · have eq := hu p hp hb
      refine ⟨_, by rw [hb, upd_ne nPc, upd_same], by rw [aL]; exact PySem.TriplesOk_snoc _ _ _ _ ht, fun p' cv hcv => ?_⟩
      rw [aL] at hcv
      rw [eq]
      rcases among_app _ ht hcv with z | z
      · exact up (pp := p') (ha p' cv z)
      · exact ⟨c', z, upd_same⟩
    · exact ⟨ps', by rw [upd_ne (ne_of_none a1 hn), upd_ne hb]; exact a1, a2, fun p' cv hcv => up (pp := p') (a3 p' cv hcv)⟩
section
variable {X : Cx} {pins : List (Addr × Obj)} {σ : L2.St} {H : Hp} {s : Shared}
theorem frs_new (I : Inv X pins σ H s) {f : Addr} (hf : s.heap.objs.size ≤ f) : f ∉ frs X.stack := fun z => by
  rcases List.mem_cons.mp (I.stkSub _ z) with e | e
  · rw [e] at hf
    exact absurd hf (Nat.not_le_of_lt I.lt)
  · exact I.nofs hf e
/-- the one parameter that a lambda may have, with its own integer -/
def parX : Str := "_law_a"
/-- a lambda's parameters: none, or one that has its own integer; what is bound -/
inductive LamP : Arguments → List Str → Prop
  | zero : LamP ⟨[], [], none, [], [], none, []⟩ []
  | one {i : Int} {k : Nat} {p p' : Pos} : LamP ⟨[], [⟨parX, none, p⟩], none, [], [], none, [.Constant (.int i) k p']⟩ [parX]
/-- what the made lambda keeps of them: nothing, or a tuple -/
inductive LamBd (X : Cx) (H : Hp) (h : Heap) : Arguments → Value → List (Str × Value) → Prop
  | zero : LamBd X H h ⟨[], [], none, [], [], none, []⟩ .none []
  | one {t : Addr} {u : Value} {i : Int} {k : Nat} {p p' : Pos} (at_ : h.get? t = some (PySem.W.kdv_tup [u])) (new : H t = none) (nof : t ∉ frs X.stack) : LamBd X H h ⟨[], [⟨parX, none, p⟩], none, [], [], none, [.Constant (.int i) k p']⟩ (.ref t) [(parX, u)]
theorem LamBd.binds {H HZ : Hp} {h : Heap} {s1 : Shared} {params : Arguments} {dV doc pm cv ctv : Value} {q : Str} {body : Expr} {scope : Scope} {cl : List (Str × Addr)} {bs : List (Str × Value)} (b : LamBd X H h params dV bs) (un : Un (frs X.stack) [] H HZ h s1.heap) :
    BindsTo s1 (PySem.W.kdv_fn "<lambda>" q params (.expr body) scope cl dV doc pm cv ctv) ⟨[], []⟩ bs := by
  cases b with
  | zero => exact BindsTo.of_eq rfl
  | one at_ new nof => exact BindsTo.of_defaults rfl (un.keep _ _ at_ new nof fun z => nomatch z) rfl rfl rfl
theorem LamBd.names {H : Hp} {h : Heap} {params : Arguments} {dV : Value} {bs : List (Str × Value)} {ns : List Str} (b : LamBd X H h params dV bs) (p : LamP params ns) : ∀ y ∈ bs, y.1 ∈ ns := by
  cases b with
  | zero => exact fun y hy => nomatch hy
  | one => cases p; exact fun y hy => by cases hy with
    | head => exact .head _
    | tail _ h => cases h
/-- a lambda's names: captured ones, globals, and its own parameter, which is no name of the maker -/
structure LamD (N ns : List Str) (sc scope : Scope) : Prop where
  kind : scope.kind = .function
  co : scope.isCoroutine = false
  gen : scope.isGenerator = false
  cell : ∀ y ∈ scope.names, y.2 ≠ .cell
  loc : ∀ y ∈ scope.names, y.2 = .local → y.1 ∉ N
  free : ∀ y ∈ scope.names, y.2 = .free → sc.names.lookup y.1 = some .cell ∨ sc.names.lookup y.1 = some .free
  par : ∀ y ∈ ns, scope.names.lookup y = some .local
def lamDB (N ns : List Str) (sc scope : Scope) : Bool :=
  decide (scope.kind = .function) && (!scope.isCoroutine && (!scope.isGenerator && (scope.names.all (fun y => match y.2 with
    | .cell => false
    | .local => !N.contains y.1
    | .free => (sc.names.lookup y.1 == some .cell) || (sc.names.lookup y.1 == some .free)
    | _ => true) && ns.all fun y => scope.names.lookup y == some .local)))
theorem lamD_by {N ns : List Str} {sc scope : Scope} (h : lamDB N ns sc scope = true) : LamD N ns sc scope := by
  unfold lamDB at h
  rw [Bool.and_eq_true, Bool.and_eq_true, Bool.and_eq_true, Bool.and_eq_true, decide_eq_true_eq] at h
  obtain ⟨h1, h2, h3, h4, h5⟩ := h
  have h4 := fun y hy => List.all_eq_true.mp h4 y hy
  refine ⟨h1, by simpa using h2, by simpa using h3, fun y hy e => ?_, fun y hy e => ?_, fun y hy e => ?_, fun y hy => ?_⟩
  · have z := h4 y hy
    rw [e] at z
    cases z
  · have z := h4 y hy
    rw [e] at z
    intro m
    rw [List.contains_iff_mem.mpr m] at z
    cases z
  · have z := h4 y hy
    rw [e] at z
    simp only [Bool.or_eq_true, beq_iff_eq] at z
    exact z
  · exact eq_of_beq (List.all_eq_true.mp h5 y hy)
theorem LamD.has {N ns : List Str} {scope : Scope} (L : LamD N ns X.env.scope scope) (ok : X.Ok) : ∀ y ∈ scope.names, y.2 = .free → ∃ c, X.env.cells.lookup y.1 = some c := fun y hy e => ok.has _ (L.free y hy e)
/-- the function's object is laid: its code is new, or told by the table -/
theorem lam_tail {T : List (Addr × Str)} {c P : Addr} {params : Arguments} {body : Expr} {scope : Scope} {pos : Pos} {dV : Value} {E : Value → Shared → Prop} {Q : Value → Shared → Prop} (I : Inv X pins σ H s) (TB : TabB X.base X.mg c P) (hcode : X.env.code = .ref c)
    (hm : (P, X.env.qual ++ "<lambda>") ∈ T) (hu : ∀ p ∈ T, p.1 = P → p.2 = X.env.qual ++ "<lambda>") (hT : Tabs T H) (hfree : ∀ y ∈ scope.names, y.2 = .free → ∃ c, X.env.cells.lookup y.1 = some c)
    (h : ∀ (f c' : Addr) (pm ctv doc : Value) (H1 : Hp) (s' : Shared), Inv X pins σ H1 s' → LamExt T H H1 → (∀ b o, b ≠ P → s.heap.get? b = some o → s'.heap.get? b = some o) → (∀ b o, s.heap.get? b = some o → H b = none → H1 b = none) →
      s'.heap.get? f = some (PySem.W.kdv_obj "<lambda>" (X.env.qual ++ "<lambda>") params (.expr body) scope (cloFrom X.env.cells scope.names []) dV doc pm c' ctv) →
      H1 f = none → f ∉ frs X.stack → H1 c' = some (CodeO c' (X.env.qual ++ "<lambda>")) → Q (.ref f) s') :
    wpAny (model X.prog X.w) X.A (makeTail "<lambda>" (X.env.qual ++ "<lambda>") params (.expr body) scope X.env dV .none none pos pos.line) Q E s := by
  obtain ⟨ps, hP, ht, ha⟩ := hT _ hm
  have tabP : s.heap.get? P = some { cls := .none, data := .fields ps } := I.hok P _ hP
  have bi : s.heap.BuiltinsAt X.mg P := TB.bm.keeps I.bk
  have gl := I.mod.glob.keeps I.bk
  have cd := TB.code.keeps I.bk
  have cl := closure_ok hfree
  cases hc : codeAmong pos ps.toList with
  | some cv =>
    obtain ⟨c', rfl, hco⟩ := ha pos cv hc
    refine PySem.W.kdv_makeTailHit (mg := X.mg) cl I.ok.glob gl hcode cd tabP ht hc bi fun ctv doc h' tk hx hsz => ?_
    refine h _ c' _ ctv doc H _ (I.kept fun b o e => Heap.get?_push_of_some _ (hx b o e)) ⟨ExtN.refl H, fun _ z => z, hT⟩ (fun b o _ e => Heap.get?_push_of_some _ (hx b o e)) (fun _ _ _ z => z) (Heap.get?_push_size _ rfl) (I.hok.fresh hsz) (frs_new I hsz) hco
  | none =>
    refine PySem.W.kdv_makeTail (mg := X.mg) cl I.ok.glob gl hcode cd tabP ht hc TB.gP bi fun c' ctv doc h' tk hx hge hlt hrec htb => ?_
    obtain ⟨c2, oc, vs, t, e2, hoc, hd, hv⟩ := hrec
    cases e2
    have hn : H c' = none := I.hok.fresh hge
    have big : s.heap.objs.size ≤ h'.objs.size := Nat.le_of_lt (Nat.lt_of_le_of_lt hge hlt)
    have J := inv_table (t' := tk) (more := #[rawInt pos.line, rawInt pos.col, .ref c']) (h' := h'.push (PySem.W.kdv_obj "<lambda>" (X.env.qual ++ "<lambda>") params (.expr body) scope (cloFrom X.env.cells scope.names []) dV doc ((X.mg "__name__").getD .none) c' ctv)) I hP
      (fun b o hb e => Heap.get?_push_of_some _ (hx b o hb e)) (Heap.get?_push_of_some _ htb) hge ⟨oc, vs, t, Heap.get?_push_of_some _ hoc, hd, hv⟩
    refine h _ c' _ ctv doc _ _ J (lamExt_grow hT hP ht hn hu ha) (fun b o hb e => Heap.get?_push_of_some _ (hx b o hb e)) (fun b o e z => ?_) (Heap.get?_push_size _ rfl) ?_ (frs_new I big) upd_same
    · have n1 : b ≠ c' := fun y => by
        rw [y] at e
        exact absurd (Heap.lt_size e) (Nat.not_lt_of_le hge)
      have n2 : b ≠ P := fun y => by
        rw [y, hP] at z
        cases z
      rw [upd_ne n1, upd_ne n2]
      exact z
    · have n2 : h'.objs.size ≠ P := Ne.symm (Nat.ne_of_lt (Nat.lt_of_lt_of_le (Heap.lt_size tabP) big))
      rw [upd_ne (Nat.ne_of_gt hlt), upd_ne n2]
      exact I.hok.fresh big
/-- a lambda is made -/
theorem lam_make3 {T : List (Addr × Str)} {c P : Addr} {params : Arguments} {ns : List Str} {body : Expr} {scope : Scope} {pos : Pos} {E : Value → Shared → Prop} {Q : Value → Shared → Prop} (I : Inv X pins σ H s) (TB : TabB X.base X.mg c P) (hcode : X.env.code = .ref c)
    (hm : (P, X.env.qual ++ "<lambda>") ∈ T) (hu : ∀ p ∈ T, p.1 = P → p.2 = X.env.qual ++ "<lambda>") (hT : Tabs T H) (hp : LamP params ns) (hfree : ∀ y ∈ scope.names, y.2 = .free → ∃ c, X.env.cells.lookup y.1 = some c)
    (h : ∀ (f c' : Addr) (pm ctv doc dV : Value) (bs : List (Str × Value)) (H1 : Hp) (s' : Shared), Inv X pins σ H1 s' → LamExt T H H1 → s'.heap.get? f = some (PySem.W.kdv_obj "<lambda>" (X.env.qual ++ "<lambda>") params (.expr body) scope (cloFrom X.env.cells scope.names []) dV doc pm c' ctv) →
      H1 f = none → f ∉ frs X.stack → H1 c' = some (CodeO c' (X.env.qual ++ "<lambda>")) → LamBd X H1 s'.heap params dV bs → Q (.ref f) s') :
    wpAny (model X.prog X.w) X.A (eval (.Lambda params body scope pos) X.env) Q E s := by
  cases hp with
  | zero =>
    refine PySem.W.kla_eval rfl ?_
    rw [makeFunction_eq]
    exact lam_tail I TB hcode hm hu hT hfree fun f c' pm ctv doc H1 s' I1 x1 _ _ x4 x5 x6 x7 => h f c' pm ctv doc .none [] H1 s' I1 x1 x4 x5 x6 x7 .zero
  | @one i k p p' =>
    refine PySem.W.kdv_lam rfl rfl (PySem.W.kdv_all1 (wpAny_Constant_int (PySem.W.kdv_all0 ?_)))
    rw [makeFunction_eq]
    have hk : ∀ b o, s.heap.get? b = some o → (s.heap.push (PySem.W.kdv_tup [.int i s.toks])).get? b = some o := fun b o e => Heap.get?_push_of_some _ e
    have J := I.kept (t' := s.toks + 1) hk
    refine wpAny_bind (wpAny_newTextTuple ?_)
    refine lam_tail J TB hcode hm hu hT hfree fun f c' pm ctv doc H1 s' I1 x1 x2 x3 x4 x5 x6 x7 => ?_
    have at0 := Heap.get?_push_size s.heap (o := PySem.W.kdv_tup [.int i s.toks]) rfl
    obtain ⟨ps, hP, _, _⟩ := hT _ hm
    have tabP : s.heap.get? P = some { cls := .none, data := .fields ps } := I.hok P _ hP
    exact h f c' pm ctv doc _ _ H1 s' I1 x1 x4 x5 x6 x7 (.one (x2 _ _ (Ne.symm (Nat.ne_of_lt (Heap.lt_size tabP))) at0) (x3 _ _ at0 (I.hok.fresh (Nat.le_refl _))) (frs_new I (Nat.le_refl _)))
/-- the state in which the lambda's body begins -/
theorem lam_begin {A : Around} {outer : List Env} {E : XK} {scope : Scope} {ns : List Str} {f c' : Addr} {h₁ : Heap} {tk : Nat} {HZ : Hp} {s1 : Shared} {bs : List (Str × Value)} (I : Inv X pins σ H s) (L : LamD X.N ns X.env.scope scope) (e0 : Env0 X.prog X.w X.K X.mg X.base A outer s1 HZ) (hd : A.handled = none)
    (un : Un (frs X.stack) [] H HZ s.heap s1.heap) (hns : h₁.Ns s1.heap.objs.size fun y => bs.reverse.lookup y) (stay : ∀ b o, s1.heap.get? b = some o → h₁.get? b = some o) : Inv (lamCx X A outer s1 HZ E scope f c') [] σ HZ { s1 with heap := h₁, toks := tk } := by
  have own : ∀ {y : Str} {c : Addr}, (cloFrom X.env.cells scope.names []).lookup y = some c → X.env.cells.lookup y = some c := fun {y c} e => by
    rcases cloFrom_mem (PySem.mem_of_lookup e) with m | ⟨m, q⟩
    · cases m
    · obtain ⟨b, hb⟩ : ∃ b, X.env.cells.lookup y = some b := L.has I.ok _ m rfl
      have eb : c = b := by rw [q, hb]; rfl
      rw [eb, hb]
  have got : ∀ {y : Str}, scope.names.lookup y = some .free → ∃ c, (cloFrom X.env.cells scope.names []).lookup y = some c := fun z => mem_lookup (cloFrom_has (cells := X.env.cells) (acc := []) (PySem.mem_of_lookup z))
  have keepC : ∀ {c : Addr} {v : Option Value}, H c = none → s.heap.IsCell c v → h₁.IsCell c v := fun n ⟨o, ho, q⟩ => by
    obtain ⟨sl, z⟩ := un.any ho n (fun y => nomatch y)
    exact ⟨_, stay _ _ z, q⟩
  have nex : ∀ b : Addr, b ∉ (lamCx X A outer s1 HZ E scope f c').ex := fun b z => nomatch (show b ∈ ([] : List Addr) from z)
  have okC : (lamCx X A outer s1 HZ E scope f c').Ok := by
    refine ⟨e0.mod, L.kind, rfl, rfl, Nat.le_refl _, fun y z c e1 e2 => I.ok.inj y z c (own e1) (own e2), fun y hy => ?_, fun y c z _ => (nomatch (show false = true from z)), fun _ => hd, Around.frames_deeper e0.frames, .inr ⟨rfl, rfl⟩, fun b z => absurd z (nex b), e0.bs, e0.bsz, fun b _ _ => nex b, fun b z => absurd z (nex b), e0.funs, e0.frf⟩
    have hy : scope.names.lookup y = some .cell ∨ scope.names.lookup y = some .free := hy
    exact hy.elim (fun z => absurd rfl (L.cell _ (PySem.mem_of_lookup z))) got
  refine ⟨okC, rfl, e0.bare, Un.kept stay, ⟨_, hns, fun i y v e1 e2 e3 => ?_⟩, fun y c e => ?_, e0.hok.fresh (Nat.le_refl _), fun y c e => ?_, fun q hq => (nomatch (show q ∈ ([] : List (Addr × Obj)) from hq)), e0.hok.kept stay, I.len⟩
  · have e1 : X.N[i]? = some y := e1
    rcases (show Vis scope y from e3) with k | k | k
    · exact absurd (List.mem_of_getElem? e1) (L.loc _ (PySem.mem_of_lookup k) rfl)
    · exact absurd rfl (L.cell _ (PySem.mem_of_lookup k))
    · have fr := L.free _ (PySem.mem_of_lookup k) rfl
      obtain ⟨m, _, hl⟩ := I.loc
      obtain ⟨u, r, q⟩ := hl i y v e1 e2 (.inr fr)
      obtain ⟨c2, h2⟩ := got k
      refine ⟨u, r, .inr ⟨.inr k, c2, h2, ?_⟩⟩
      rcases q with ⟨k', _⟩ | ⟨_, c3, e', z⟩
      · have k' : X.env.scope.names.lookup y = some .local := k'
        rcases fr with y1 | y1 <;> (rw [show X.env.scope.names.lookup y = _ from y1] at k'; cases k')
      · rw [own h2] at e'
        cases e'
        exact keepC (I.freeC y _ (own h2)) z
  · obtain ⟨v, z⟩ := I.cell y c (own e)
    exact ⟨v, keepC (I.freeC y c (own e)) z⟩
  · obtain ⟨v, o, ho, _⟩ := I.cell y c (own e)
    exact un.free c o ho (I.freeC y c (own e)) fun z => nomatch z
/-- the lambda is called: its body runs two frames below -/
theorem lam_call {qg : Str} {sg : Scope} {g f c' : Addr} {cdg pm ctv doc dV : Value} {bs : List (Str × Value)} {ns : List Str} {params : Arguments} {body : Expr} {scope : Scope} {k : Nat} {E : XK} {tb : TE} {s1 : Shared} {HZ : Hp} {Q : VK}
    (I : Inv X pins σ H s) (L : LamD X.N ns X.env.scope scope) (hp : LamP params ns) (hb : LamBd X H s.heap params dV bs) (hf : s.heap.get? f = some (PySem.W.kdv_obj "<lambda>" (X.env.qual ++ "<lambda>") params (.expr body) scope (cloFrom X.env.cells scope.names []) dV doc pm c' ctv)) (hfn : H f = none) (hfr : f ∉ frs X.stack)
    (hr : Room (k + 1) (X.A.deeper (envOfC qg sg s.heap.objs.size g cdg)))
    (hbody : Room k ((X.A.deeper (envOfC qg sg s.heap.objs.size g cdg)).deeper (lamEnv X scope s1.heap.objs.size f c')) → PE (lamCx X (X.A.deeper (envOfC qg sg s.heap.objs.size g cdg)) (envOfC qg sg s.heap.objs.size g cdg :: X.stack) s1 HZ E scope f c') body tb)
    (un : Un (frs X.stack) [] H HZ s.heap s1.heap) (e0 : Env0 X.prog X.w X.K X.mg X.base (X.A.deeper (envOfC qg sg s.heap.objs.size g cdg)) (envOfC qg sg s.heap.objs.size g cdg :: X.stack) s1 HZ) (lim : s1.heap.NoLimit) (hc : HZ c' = some (CodeO c' (X.env.qual ++ "<lambda>"))) (h : tb σ HZ Q) :
    codeAny (model X.prog X.w) (X.A.deeper (envOfC qg sg s.heap.objs.size g cdg)) (.call (.ref f) ⟨[], []⟩) (CR (L2.CX X.prog X.w) (envOfC qg sg s.heap.objs.size g cdg :: X.stack) X.prog X.w HZ s1 Q E) s1 := by
  have at1 := un.keep f _ hf hfn hfr (fun z => nomatch z)
  obtain ⟨⟨oc, vs, t, c1, c2, c3⟩, _⟩ := e0.hok c' _ hc
  refine PySem.W.kla_callFunE hr.depth at1 rfl L.co L.gen rfl ⟨c', oc, vs, t, rfl, c1, c2, c3⟩ (hb.binds un _ _ _ _ ?_)
  refine wpAny_newFunctionEnv L.cell (fun y hy => L.par _ (hb.names hp y hy)) (fun h₁ hns hsb => ⟨lim.fresh _ hsb, ?_⟩) L.kind
  have stay : ∀ b o, s1.heap.get? b = some o → h₁.get? b = some o := fun b o z => hsb.extBut b o (Nat.ne_of_lt (Heap.lt_size z)) (Heap.get?_push_of_some _ z)
  have J := lam_begin (E := E) (f := f) (c' := c') (tk := s1.toks + bs.length) I L e0 hr.hd un hns stay
  show codeAny _ _ (.expr body (lamEnv X scope s1.heap.objs.size f c')) _ _
  refine PySem.W.kla_codeExpr (wpAny_mono ((hbody (hr.deeper _)).run [] _ _ HZ Q J h) (fun v s' ⟨w', H', J', rv, q⟩ => ⟨w', H', J'.os, J'.bare, J'.base, J'.hok, rv, q⟩) fun _ _ z => z)
/-- a(), in the def that got the lambda -/
theorem act3 {Ng : List Str} {qg : Str} {sg : Scope} {g f c' : Addr} {cdg pm ctv doc dV : Value} {bs : List (Str × Value)} {ns : List Str} {params : Arguments} {body : Expr} {scope : Scope} {k : Nat} {a : Str} {pn : List (Addr × Obj)} {xe : Value → Shared → Prop} {W : WX} {E : XK} {tb : TE} {p1 p2 : Pos}
    (I : Inv X pins σ H s) (L : LamD X.N ns X.env.scope scope) (hp : LamP params ns) (hb : LamBd X H s.heap params dV bs) (hf : s.heap.get? f = some (PySem.W.kdv_obj "<lambda>" (X.env.qual ++ "<lambda>") params (.expr body) scope (cloFrom X.env.cells scope.names []) dV doc pm c' ctv)) (hfn : H f = none) (hfr : f ∉ frs X.stack)
    (tk : Takes ((cxOf C8.CX0 X.prog X.w X.K X.mg X.base Ng qg sg g cdg X.A X.stack s H C8.E0).tr pn xe) W) (hW : ∀ cls d σ' H', E cls d H' → W cls d σ' H') (hr : Room (k + 1) (X.A.deeper (envOfC qg sg s.heap.objs.size g cdg)))
    (hbody : ∀ (s1 : Shared) (HZ : Hp), Room k ((X.A.deeper (envOfC qg sg s.heap.objs.size g cdg)).deeper (lamEnv X scope s1.heap.objs.size f c')) → PE (lamCx X (X.A.deeper (envOfC qg sg s.heap.objs.size g cdg)) (envOfC qg sg s.heap.objs.size g cdg :: X.stack) s1 HZ E scope f c') body tb)
    (hN : Ng[0]? = some a) (hv : Vis sg a) (hd : (a == ("__debug__" : Str)) = false) (hcd : (a == ("__classdict__" : Str)) = false) :
    PE ((cxOf C8.CX0 X.prog X.w X.K X.mg X.base Ng qg sg g cdg X.A X.stack s H C8.E0).tr pn xe) (.Call (.Name a p1) [] [] p2)
      (fun σZ HZ Q => σZ[0]? = some (some (.ref f)) ∧ HZ c' = some (CodeO c' (X.env.qual ++ "<lambda>")) ∧ tb σ HZ Q) := by
  refine ⟨fun pinsZ sZ σZ HZ Q IZ ⟨hs, hc, ht⟩ => ?_⟩
  refine wpAny_Call_Name_kw (thn ((pe_var (pos := p1) (i := 0) hN hv hd hcd).run pinsZ sZ σZ HZ (fun v H1 => v = .ref f ∧ H1 = HZ) IZ ⟨.ref f, hs, rfl, rfl⟩) fun u s1 ⟨v, H1, I1, r1, ev, eH⟩ => ?_)
  subst ev
  rw [eH] at I1
  obtain rfl : u = Value.ref f := r1
  have un : Un (frs X.stack) [] H HZ s.heap s1.heap := I1.base
  refine PySem.W.callWith_F0 ⟨_, _, _, _, un.keep f _ hf hfn hfr (fun z => nomatch z)⟩ ?_
  have go := lam_call I L hp hb hf hfn hfr hr (hbody s1 HZ) un I1.env0 I1.nolimit hc ht
  refine wpAny_call (codeAny_mono go fun r s' hq => ?_)
  cases r with
  | error e => exact passes_call tk hW pinsZ σZ HZ s1 e s' I1 hq
  | ok fl =>
    match fl, hq with
    | .ret u, hq => exact I1.after hq
/-- a def that calls what it is given, for readings that grow with what is wished -/
def GivesM (X : Cx) (Ng : List Str) (x : Str) (sg : Scope) (g : Addr) (cdg : Value) (bg : List Stmt) (a q : Str) (TT : (XK → Hp → VK → Prop) → Hp → VK → Prop) : Prop :=
  ∀ (f c' : Addr) (s : Shared) (H : Hp) (Q : VK) (tl : XK → Hp → VK → Prop), (∀ (E : XK) (H' : Hp) (Q1 Q2 : VK), (∀ v H1, Q1 v H1 → Q2 v H1) → tl E H' Q1 → tl E H' Q2) →
    (∀ (W : WX) (pn : List (Addr × Obj)) (xe : Value → Shared → Prop) (E : XK) (p1 p2 : Pos), Takes ((cxOf C8.CX0 X.prog X.w X.K X.mg X.base Ng x sg g cdg X.A X.stack s H C8.E0).tr pn xe) W → (∀ cls d σ' H', E cls d H' → W cls d σ' H') →
      PE ((cxOf C8.CX0 X.prog X.w X.K X.mg X.base Ng x sg g cdg X.A X.stack s H C8.E0).tr pn xe) (.Call (.Name a p1) [] [] p2) (fun σZ HZ Q => σZ[0]? = some (some (.ref f)) ∧ HZ c' = some (CodeO c' q) ∧ tl E HZ Q)) →
    H c' = some (CodeO c' q) → TT tl H Q → ∃ t, PSs (cxOf C8.CX0 X.prog X.w X.K X.mg X.base Ng x sg g cdg X.A X.stack s H C8.E0).nox bg t ∧ t { nx := fun _ H' => Q .non H', rt := Q } (L2.start Ng [.ref f]) H
/-- x(lambda: body), the reading -/
def tLam3 (T : List (Addr × Str)) (TT : (XK → Hp → VK → Prop) → Hp → VK → Prop) (t : XK → TE) : TE := fun σ H Q => Tabs T H ∧ ∀ H1, LamExt T H H1 → TT (fun E H' Q' => t E σ H' Q') H1 Q
theorem pe_lam3 {T : List (Addr × Str)} {TT : (XK → Hp → VK → Prop) → Hp → VK → Prop} {x a : Str} {g c P : Addr} {k : Nat} {pg : Arguments} {bg : List Stmt} {sg : Scope} {dvs : List V} {kws : List (Str × V)} {fd : FuncData} {Ng : List Str}
    {params : Arguments} {ns : List Str} {body : Expr} {scope : Scope} {t : XK → TE} {p lpos pos : Pos} (hg : Gl X x) (hm : X.mg x = some (.ref g)) (FD : FunD X.K x x pg bg sg dvs kws g fd) (hb : L2.Binds X.K fd [a] []) (Sg : FnScope Ng [a] sg) (hNg : Ng[0]? = some a) (hva : Vis sg a)
    (hG : ∀ cdv, GivesM X Ng x sg g cdv bg a (X.env.qual ++ "<lambda>") TT) (mt : ∀ E σ H (Q1 Q2 : VK), (∀ v H1, Q1 v H1 → Q2 v H1) → t E σ H Q1 → t E σ H Q2)
    (TB : TabB X.base X.mg c P) (hcode : X.env.code = .ref c) (hmT : (P, X.env.qual ++ "<lambda>") ∈ T) (hu : ∀ p ∈ T, p.1 = P → p.2 = X.env.qual ++ "<lambda>") (hr : Room (k + 2) X.A) (L : LamD X.N ns X.env.scope scope) (hp : LamP params ns)
    (hbody : ∀ (A : Around) (outer : List Env) (s : Shared) (H : Hp) (E : XK) (f c' : Addr), A.guards = X.A.guards → Room k (A.deeper (lamEnv X scope s.heap.objs.size f c')) → PE (lamCx X A outer s H E scope f c') body (t E))
    (hdb : (x == ("__debug__" : Str)) = false) (hd : (a == ("__debug__" : Str)) = false) (hcd : (a == ("__classdict__" : Str)) = false) :
    PE X (.Call (.Name x p) [.Lambda params body scope lpos] [] pos) (tLam3 T TT t) := by
  refine ⟨fun pins s σ H Q I ⟨hT, h⟩ => ?_⟩
  obtain ⟨oc, od, dV, kV, doc, pm, an, cdv, ct, osl, rfl, lk, hcg, _, _⟩ := FD.ex
  refine wpAny_Call_Name_kw (ld_glob I hg hm ?_ hdb)
  refine PySem.W.callWith_K (h₀ := X.base) I.ok.mod.kin FD.kp ?_ (by rfl) (by rfl)
  show wpAny _ _ (spliced ((false, eval (.Lambda params body scope lpos) X.env) :: backTo pos (starEach [] X.env))) _ _ s
  refine Calls.spliced_cons (lam_make3 I TB hcode hmT hu hT hp (L.has I.ok) fun f c' pm' ctv doc dV bs H1 s' I1 ex hf hfn hfr hco hB => Calls.spliced_nil ⟨I1.kIn, ?_⟩)
  have hbb := hb s' [.ref f] I1.kIn rfl
  have go := run_ofS (CX := C8.CX0) (E := C8.E0) (Q := Q) (N := Ng) (ps := [a]) (us := [.ref f]) (vs := [.ref f]) lk hcg Sg hr I1.env0 hbb (.cons rfl .nil) rfl fun hr' => by
    obtain ⟨t', h1, h2⟩ := hG cdv f c' s' H1 Q (fun E H' Q' => t E σ H' Q') (fun E H' Q1 Q2 hq hh => mt E σ H' Q1 Q2 hq hh) (fun W pn xe E p1 p2 tk hW => act3 I1 L hp hB hf hfn hfr tk hW hr' (fun s1 HZ hr2 => hbody _ _ s1 HZ E f c' rfl hr2) hNg hva hd hcd) hco (h H1 ex)
    exact ⟨t', h1.nox, h2⟩
  refine wpAny_call (codeAny_mono go fun r s2 hq => ?_)
  match r, hq with
  | .ok (.ret u), hq => exact I1.after hq
end
end Ev
set_option Elab.async false
set_option linter.all false
set_option autoImplicit false
set_option maxRecDepth 100000
/-! Ex, part Cb: defs that are given the exception at hand; what a teller tells; try. -/
namespace Ev
open PySem PySem.Spec PyProof.Rows L2 LamX
/-- what the caller of a def is given -/
def caK (B : Bg) (Q : VK) (F : Hp) (r : List Addr) (H : Hp) (t : T) (st : List D) : Prop := ∀ F' r' H' v, CStep F r H F' r' H' → World B F' r' st H' → RRep B F' r' H' [] [] H t v → Q v H'
def caX (B : Bg) (E : XK) (F : Hp) (r : List Addr) (H : Hp) (x : Xn) (st : List D) : Prop := ∀ F' r' H' cls d, CStep F r H F' r' H' → World B F' r' st H' → XRep B F' r' x cls d → E cls d H'
/-- an exception as arguments -/
def encX : Xn → List D
  | (c, none) => [.int (c : Nat)]
  | (c, some d) => [.int (c : Nat), d]
/-- a def that is called with the exception that a suite holds -/
structure HotAt (P : Program) (w : PySem.World) (mg : Str → Option Value) (base : Heap) (B : Bg) (x : Str) (g : Gam) : Prop where
  mono : MonoC g
  run : ∃ fa : Addr, mg x = some (.ref fa) ∧ PySem.W.keepIn B.K (.ref fa) = true ∧ ∀ (Z : Around) (outer : List Env) (s : Shared) (H : Hp) (Q : VK) (p : Addr × Obj) (xn : Xn) (cls : Value) (d : Option Addr) (F : Hp) (r : List Addr) (st : List D),
    L2H.RoomH 1 Z → Z.guards = some [] → Env0 P w B.K mg base Z outer s H → L2H.PinOk outer H s p → Zc cls d p.2 → (∃ vs, p.2.data = .fields vs) → World B F r st H → XRep B F r xn cls d → g (encX xn) st (caK B Q F r H) (fun _ _ => False) →
    codeAny (model P w) Z (.call (.ref fa) ⟨[.ref p.1], []⟩) (CR C8.CX0 outer P w H s Q C8.E0) s
/-- what such a def makes of the exception at hand -/
def tKind (B : Bg) (g : Gam) (cls : Value) (d : Option Addr) (H : Hp) (Q : VK) : Prop := ∃ F r st xn, World B F r st H ∧ XRep B F r xn cls d ∧ g (encX xn) st (caK B Q F r H) (fun _ _ => False)
theorem pe_hot {B : Bg} {X : Cx} {a : Addr} {oe : Obj} {cls : Value} {d : Option Addr} {pn : List (Addr × Obj)} {x en : Str} {i : Nat} {g : Gam} {p pe pos : Pos} (hot : HotAt X.prog X.w X.mg X.base B x g) (hK : X.K = B.K) (hz : Zc cls d oe) (hf : ∃ vs, oe.data = .fields vs) (hr : L2H.RoomH 1 X.A) (hgd : X.A.guards = some [])
    (hg : Gl X x) (hdb : (x == ("__debug__" : Str)) = false) (hv : PE (X.suite a ((a, oe) :: pn)) (.Name en pe) (tVar i)) : PE (X.suite a ((a, oe) :: pn)) (.Call (.Name x p) [.Name en pe] [] pos) (fun σ H Q => σ[i]? = some (some (.ref a)) ∧ tKind B g cls d H Q) := by
  obtain ⟨fa, hm, kp, run⟩ := hot.run
  refine ⟨fun pins s σ H Q I ⟨hs, F, r, st, xn, W0, xr, hq⟩ => ?_⟩
  refine wpAny_Call_Name_kw (ld_glob I hg hm ?_ hdb)
  refine PySem.W.callWith_K (h₀ := X.base) I.ok.mod.kin (by rw [show (X.suite a ((a, oe) :: pn)).K = B.K from hK]; exact kp) (thn ((pa_cons hv pa_nil).run pos pins s σ H (fun vs H1 => vs = [.ref a] ∧ H1 = H) I ⟨.ref a, hs, rfl, rfl⟩) fun us s1 hh => ?_) (by rfl) (by rfl)
  obtain ⟨vs, H1, I1, rv, rfl, eH⟩ := hh
  rw [eH] at I1
  refine ⟨I1.kIn, ?_⟩
  obtain ⟨u, rfl, ru⟩ := rv.one
  obtain rfl : u = Value.ref a := ru
  have P1 := I1.pin (a, oe) (List.mem_append_left _ List.mem_cons_self)
  have hpin : L2H.PinOk X.stack H s1 (a, oe) := ⟨P1.1, P1.2.1, fun hm => (List.mem_cons.mp (I1.stkSub a hm)).elim P1.2.2.1 P1.2.2.2.1, P1.2.2.2.2⟩
  have e0 : Env0 X.prog X.w B.K X.mg X.base (X.A.mark (some (.ref a))) X.stack s1 H := hK ▸ I1.env0
  have go := run (X.A.mark (some (.ref a))) X.stack s1 H Q (a, oe) xn cls d F r st ⟨hr.dp, hr.un⟩ hgd e0 hpin hz hf W0 xr hq
  refine wpAny_call (codeAny_mono go fun rr s' hq' => ?_)
  match rr, hq' with
  | .ok (.ret u), hq' => exact I1.after hq'
/-- what a callee leaves, as the caller's value -/
theorem ca_k {B : Bg} {Q : VK} {F : Hp} {r : List Addr} {H : Hp} {en : En} {st st' : List D} {σ : Sl} {t : T} (R : Rel B F r en st σ H) (z : Kpost B σ Q F r en H t en st') : caK B Q F r H t st' := by
  intro F' r' H' v S' W' q
  refine z F' r' H' v S'.step (R.call S' W') ?_
  cases t with
  | v d => exact q
  | o d =>
    obtain ⟨a, e1, q1, q2⟩ := q
    have hn : H a = none := q2.resolve_right fun ⟨i, d, z, _⟩ => by simp at z
    exact ⟨a, e1, q1, R.noOwn hn, .inl hn⟩
  | e x => exact q.elim
/-! ### tellers -/
theorem Takes.len {X : Cx} {W : WX} (tk : Takes X W) : Takes X (fun cls d σ H => σ.length = X.N.length → W cls d σ H) := fun u s' ⟨a, B, sI, pins, σ, H, cls, d, e, I, nb, up, sky, na, os, ag, w⟩ =>
  tk u s' ⟨a, B, sI, pins, σ, H, cls, d, e, I, nb, up, sky, na, os, ag, w I.len⟩
/-- what is told of a value: itself, or what repr writes -/
def tTold (B : Bg) : Bool → V → Hp → VK → Prop
  | false, v, H, Q => Q v H
  | true, v, H, Q => rGN B oRepr [v] H Q
def tTell (B : Bg) (md : Bool) (g : Gam) (told : Str) (cs : List Value) : (XK → Hp → VK → Prop) → Hp → VK → Prop := fun tl H Q =>
  tl (fun cls d H' => PySem.W.exmAny B.K cls cs = some true ∧ tKind B g cls d H' Q) H fun v H1 => tTold B md v H1 fun v' H2 => ∀ p, H2 p = none → Q (.ref p) (upd H2 p (.lst [.str told, v']))
/-- the last row of a teller -/
def tellEnd (told v : Str) (j : Nat) (p1 p2 p3 p4 p5 p6 : Pos) : Bool → Stmt
  | false => .Return (some (.List [.Constant (.str told) j p1, .Name v p2] p3)) p4
  | true => .Return (some (.List [.Constant (.str told) j p1, .Call (.Name "repr" p5) [.Name v p2] [] p6] p3)) p4
/-- the suite of a teller: what the kinds' def makes of the exception, or a word and what repr writes of its attribute -/
def tellSu (kf en : Str) (j : Nat) (pk pe pc pr u1 u2 u3 : Pos) : Option (Str × Str) → Stmt
  | none => .Return (some (.Call (.Name kf pk) [.Name en pe] [] pc)) pr
  | some (w, f) => .Return (some (.List [.Constant (.str w) j u1, .Call (.Name "repr" u2) [.Attribute (.Name en pe) f pk] [] pc] u3)) pr
theorem su_kind {B : Bg} {X : Cx} {kf en : Str} {g : Gam} {a : Addr} {oe : Obj} {cls : Value} {d : Option Addr} {pn : List (Addr × Obj)} {pk pe pc pr : Pos} (hot : HotAt X.prog X.w X.mg X.base B kf g) (hK : X.K = B.K) (hz : Zc cls d oe) (hf : ∃ vs, oe.data = .fields vs) (hr : L2H.RoomH 1 X.A) (hgd : X.A.guards = some [])
    (hg : Gl X kf) (hdb : (kf == ("__debug__" : Str)) = false) (hv : PE (X.suite a ((a, oe) :: pn)) (.Name en pe) (tVar 2)) :
    PSs (X.suite a ((a, oe) :: pn)) [.Return (some (.Call (.Name kf pk) [.Name en pe] [] pc)) pr] (fun D σ H => σ[2]? = some (some (.ref a)) ∧ σ.length = 3 ∧ tKind B g cls d H D.rt) :=
  PSs.weak (pss_one (ps_ret (pe_hot hot hK hz hf hr hgd hg hdb hv))) fun _ _ _ ⟨h1, _, h3⟩ => ⟨h1, h3⟩
/-- a word and what repr writes of the exception's attribute -/
def gSay (w : Str) (cs : List Nat) : Gam := fun ds st k _ => match ds with
  | [.int i, d] => cs.contains i.toNat = true ∧ oRepr [d] fun t => k (.o (.lst [.str w, t.d])) st
  | _ => False
theorem gSay_mono (w : Str) (cs : List Nat) : MonoC (gSay w cs) := fun ds st k k' e e' hk _ h => by
  unfold gSay at h ⊢
  split at h
  · exact ⟨h.1, mono_oRepr _ _ _ (fun t z => hk _ _ z) h.2⟩
  · exact h
theorem XcF.atX {mg : Str → Option Value} {B : Bg} {xcs : List Xc} {xns : List Str} (o : Option (Addr × Value × Option Addr)) (h : XcF mg B xcs xns) : XcF mg (B.at o) xcs xns :=
  ⟨h.nx, h.at_, fun j c f h1 h2 => let ⟨M, e, T⟩ := h.m1 j c f h1 h2; ⟨⟨M.oex, M.no, M.ini⟩, e, T⟩, fun j c h1 h2 => let M := h.m0 j c h1 h2; ⟨M.ex, M.kp, M.sub, M.ty⟩, h.ex, h.nm⟩
/-- the places of a teller while its suite runs -/
def en3 (x : Xn) : En := [none, none, some (.e x)]
theorem en3_get {x : Xn} {i : Nat} {t : T} (h : (en3 x)[i]? = some (some t)) : i = 2 ∧ t = .e x := by
  match i, h with
  | 0, h => simp [en3] at h
  | 1, h => simp [en3] at h
  | 2, h => simp [en3] at h; exact ⟨rfl, h.symm⟩
  | i + 3, h => simp [en3] at h
theorem su_say {mg : Str → Option Value} {B : Bg} {X : Cx} {xcs : List Xc} {xns : List Str} {w f en : Str} {a : Addr} {oe : Obj} {cls : Value} {d : Option Addr} {pn : List (Addr × Obj)} {j : Nat} {pk pe pc pr u1 u2 u3 : Pos} (XF : XcF mg B xcs xns) (hK : X.K = B.K) (hz : Zc cls d oe) (hf : ∃ vs, oe.data = .fields vs) (hu : X.A.units + 66 < cLine) (hgd : X.A.guards = some [])
    (hg : Gl X "repr") (hm : X.mg "repr" = none) (hv : PE (X.suite a ((a, oe) :: pn)) (.Name en pe) (tVar 2)) :
    PSs (X.suite a ((a, oe) :: pn)) [.Return (some (.List [.Constant (.str w) j u1, .Call (.Name "repr" u2) [.Attribute (.Name en pe) f pk] [] pc] u3)) pr] (fun D σ H => σ[2]? = some (some (.ref a)) ∧ σ.length = 3 ∧ tKind B (gSay w (idxs (fun c => c.fld == some f) xcs 0)) cls d H D.rt) := by
  have hx : Hx (B.at (some (a, cls, d))) (X.suite a ((a, oe) :: pn)) a oe cls d := ⟨rfl, List.mem_cons_self, hz, hf⟩
  have at_ := de_atx (B := B.at (some (a, cls, d))) (W := fun _ _ _ _ => False) (X := X.suite a ((a, oe) :: pn)) (f := f) (pos := pk) hx (XF.atX _) hK hv
  have rp := de_callB (B := B.at (some (a, cls, d))) (W := fun _ _ _ _ => False) (X := X.suite a ((a, oe) :: pn)) (x := "repr") (p := u2) (pos := pc) (cr_repr (B := B.at (some (a, cls, d))) hK hgd hu) mono_oRepr hg hm (by decide +kernel) (da_cons at_ da_nil (fun _ _ z => nomatch z)) (by decide) (by decide) (fun _ _ z => nomatch z) (noStars (env := (X.suite a ((a, oe) :: pn)).env) (es := []) (fun _ z => nomatch z) pc)
  have ls := de_lst (pos := u3) (da_cons (de_const (B := B.at (some (a, cls, d))) (W := fun _ _ _ _ => False) (X := X.suite a ((a, oe) :: pn)) (e := .Constant (.str w) j u1) (d := .str w) pe_str fun _ _ => rfl) (da_cons rp da_nil (fun _ _ z => nomatch z)) (fun _ _ z => nomatch z))
  refine PSs.weak (pss_one (ps_ret ls.run)) fun D σ H ⟨h1, h2, F, r, st, xn, W0, xr, hq⟩ => ?_
  have no : ∀ b, ¬ OwnAt σ (en3 xn) b := fun b ⟨i, z, h, _⟩ => by
    obtain ⟨_, e⟩ := en3_get h
    cases e
  have R : Rel (B.at (some (a, cls, d))) F r (en3 xn) st σ H := by
    refine ⟨World.at.mpr W0, fun i z h => ?_, fun i z h => ?_, fun i k b h _ => absurd ⟨i, h⟩ (no b), by rw [h2]; rfl, fun i x h => ?_⟩
    · obtain ⟨_, e⟩ := en3_get h
      cases e
    · obtain ⟨_, e⟩ := en3_get h
      cases e
    · obtain ⟨rfl, e⟩ := en3_get h
      cases e
      exact ⟨a, cls, d, rfl, h1, XRep.at.mpr xr⟩
  refine ⟨F, r, en3 xn, st, R, ?_⟩
  obtain ⟨c, o⟩ := xn
  cases o with
  | none => exact hq.elim
  | some y =>
    obtain ⟨q1, q2⟩ := hq
    refine ⟨q1, mono_oRepr _ _ _ (fun t z => ⟨by rw [sizeLine_eq]; show 2 ≤ _; omega, ?_⟩) q2⟩
    intro F' r' H' v S' R' tr
    refine z F' r' H' v (S'.cstep no) (World.at.mp R'.w) ?_
    obtain ⟨b, e1, ⟨k1, k2, u, k3, k4⟩, k5, k6⟩ := tr
    exact ⟨b, e1, ⟨k1, k2, u, k3, ORep.at.mp k4⟩, k6.imp id fun z => (no _ z).elim⟩
theorem tell_gives {B : Bg} {X : Cx} {x a v en told q : Str} {su : Stmt} {sg : Scope} {g0 : Addr} {cdg : Value} {te : Expr} {cs : List Value} {g : Gam} {md : Bool} {j : Nat} {pv p1 p2 p3 ph pt q1 q2 q3 q4 q5 q6 : Pos}
    (hK : X.K = B.K) (hr : L2H.RoomH 2 X.A) (hgd : X.A.guards = some []) (hnd : ([a, v, en] : List Str).Nodup) (hlv : sg.names.lookup v = some .local) (hle : sg.names.lookup en = some .local)
    (hd : (v == ("__debug__" : Str)) = false ∧ (v == ("__classdict__" : Str)) = false)
    (suR : ∀ s H (b : Addr) (oe : Obj) (cls : Value) (d : Option Addr) (pn : List (Addr × Obj)), Zc cls d oe → (∃ vs, oe.data = .fields vs) →
      PSs ((cxOf C8.CX0 X.prog X.w X.K X.mg X.base [a, v, en] x sg g0 cdg X.A X.stack s H C8.E0).nox.suite b ((b, oe) :: pn)) [su] (fun D σ H => σ[2]? = some (some (.ref b)) ∧ σ.length = 3 ∧ tKind B g cls d H D.rt))
    (hrp : md = true → sg.names.lookup ("repr" : Str) = some .globalImplicit ∧ X.mg "repr" = none)
    (ht : ∀ s H, Tst (cxOf C8.CX0 X.prog X.w X.K X.mg X.base [a, v, en] x sg g0 cdg X.A X.stack s H C8.E0).nox te cs) :
    GivesM X [a, v, en] x sg g0 cdg [.Try [.Assign [.Name v pv] (.Call (.Name a p1) [] [] p2) p3] [.ExceptHandler (some te) (some en) [su] ph] [] [] pt, tellEnd told v j q1 q2 q3 q4 q5 q6 md] a q (tTell B md g told cs) := by
  intro f c' s H Q tl mt act hc h
  have hstart : L2.start [a, v, en] [V.ref f] = [some (.ref f), none, none] := rfl
  have tryRun := ps_tryG (X := (cxOf C8.CX0 X.prog X.w X.K X.mg X.base [a, v, en] x sg g0 cdg X.A X.stack s H C8.E0).nox) (pos := pt)
    (tb := fun W D σ H => ∃ Ech : XK, (∀ cls d σ' H', Ech cls d H' → σ'.length = 3 → W cls d σ' H') ∧ σ[0]? = some (some (.ref f)) ∧ H c' = some (CodeO c' q) ∧ tl Ech H fun u H1 => D.nx (σ.set 1 (some u)) H1) rfl rfl LamX.takes0
    (body := [.Assign [.Name v pv] (.Call (.Name a p1) [] [] p2) p3])
    (fun W pn xe tk _ => ⟨fun pins s' σ H' D I ⟨Ech, hW, h1, h2, h3⟩ => (pss_one (ps_set (i := 1) hnd rfl (.inl hlv) (act _ pn xe Ech p1 p2 (Takes.len tk) hW) rfl (.inr hlv))).run pins s' σ H' D I ⟨h1, h2, h3⟩⟩)
    (.named (pos' := ph) (ht s H) hnd (i := 2) rfl hle (suR s H) .nil)
  have listRun : ∀ {e : Expr} {te' : TE}, PE (cxOf C8.CX0 X.prog X.w X.K X.mg X.base [a, v, en] x sg g0 cdg X.A X.stack s H C8.E0).nox e te' → (∀ y q, e ≠ .Starred y q) →
      PSs (cxOf C8.CX0 X.prog X.w X.K X.mg X.base [a, v, en] x sg g0 cdg X.A X.stack s H C8.E0).nox [.Return (some (.List [.Constant (.str told) j q1, e] q3)) q4] (tRet (tLst (tCons (tC (.str told)) (tCons te' tNil)))) := fun he hs =>
    pss_one (ps_ret (pe_lst (pa_cons pe_str (pa_cons he pa_nil (notStar_each hs)))))
  have pv1 : PE (cxOf C8.CX0 X.prog X.w X.K X.mg X.base [a, v, en] x sg g0 cdg X.A X.stack s H C8.E0).nox (.Name v q2) (tVar 1) := pe_var (i := 1) rfl (.inl hlv) hd.1 hd.2
  have sz : ∀ u : V, ([V.str told, u] : List V).length ≤ sizeLine := fun u => by rw [sizeLine_eq]; show 2 ≤ _; omega
  have clauseOk : ∀ cls d σ' H', (PySem.W.exmAny B.K cls cs = some true ∧ tKind B g cls d H' Q) → σ'.length = 3 → wGen X.K (fun _ _ _ _ => False) { nx := fun σ1 H1 => True, rt := Q } [(cs, some 2, fun b cls d D σ H => σ[2]? = some (some (.ref b)) ∧ σ.length = 3 ∧ tKind B g cls d H D.rt)] cls d σ' H' := fun cls d σ' H' ⟨e1, e2⟩ hl => ⟨true, by rw [hK]; exact e1, fun _ b _ => ⟨by rw [List.getElem?_set_self (by rw [hl]; decide)], by rw [List.length_set, hl], e2⟩, fun z => nomatch z⟩
  cases md with
  | false =>
    refine ⟨_, pss_cons tryRun (listRun pv1 fun _ _ z => nomatch z), ?_⟩
    refine ⟨fun cls d H' => PySem.W.exmAny B.K cls cs = some true ∧ tKind B g cls d H' Q, fun cls d σ' H' z hl => clauseOk cls d σ' H' z hl, rfl, hc, mt _ _ _ _ (fun u H1 z => ?_) h⟩
    exact ⟨u, rfl, sz u, z⟩
  | true =>
    obtain ⟨r1, r2⟩ := hrp rfl
    have prepr := pe_callB (X := (cxOf C8.CX0 X.prog X.w X.K X.mg X.base [a, v, en] x sg g0 cdg X.A X.stack s H C8.E0).nox) (p := q5) (pos := q6) (x := "repr") (cr_repr (B := B) hK hgd (show (X.A.deeper (envOfC x sg s.heap.objs.size g0 cdg)).units + 66 < cLine by have := (hr.deeper (envOfC x sg s.heap.objs.size g0 cdg)).un; omega)) r1 r2 (by decide +kernel) (pa_cons pv1 pa_nil) (by decide) (by decide)
    refine ⟨_, pss_cons tryRun (listRun prepr fun _ _ z => nomatch z), ?_⟩
    refine ⟨fun cls d H' => PySem.W.exmAny B.K cls cs = some true ∧ tKind B g cls d H' Q, fun cls d σ' H' z hl => clauseOk cls d σ' H' z hl, rfl, hc, mt _ _ _ _ (fun u H1 z => ?_) h⟩
    refine ⟨u, rfl, ?_⟩
    obtain ⟨σ, F, r, en', st, ds, R, rp, hh⟩ := z
    refine ⟨σ, F, r, en', st, ds, R, rp, mono_oRepr _ _ _ (fun t ht F' r' H' v' S' R' tr => ⟨sz v', ht F' r' H' v' S' R' tr⟩) hh⟩
theorem Rel.lam {B : Bg} {F : Hp} {r : List Addr} {en : En} {st : List D} {σ : Sl} {H H1 : Hp} (R : Rel B F r en st σ H) (ex : LamExt B.tabs H H1) : Rel B F r en st σ H1 where
  w := ⟨fun a o e => ex.ext a o (R.w.sub a o e) fun ps z => R.w.tab.2 a ps (by rw [e, z]), ⟨ex.tabs, R.w.tab.2⟩, R.w.nd, R.w.len, fun n a d e1 e2 => by
    obtain ⟨q1, o, q2, q3⟩ := R.w.box n a d e1 e2
    exact ⟨q1, o, ex.ext a o q2 q3.nt, q3⟩⟩
  val := R.val
  own := fun i d e => by
    obtain ⟨a, e1, q1, q2, o, q3, q4⟩ := R.own i d e
    exact ⟨a, e1, q1, q2, o, ex.ext a o q3 q4.nt, q4⟩
  dis := R.dis
  len := R.len
  exc := R.exc
theorem Step.lam {σ : Sl} {en : En} {F : Hp} {r : List Addr} {T : List (Addr × Str)} {H H1 : Hp} (ex : LamExt T H H1) : Step σ en F r H σ en F r H1 :=
  ⟨fun a o e _ _ nt => ex.ext a o e nt, ex.there, Sub.refl _, ⟨[], by simp, fun _ h => by cases h⟩, fun _ _ e => .inl e, fun _ h => .inl h⟩
def dTold : Bool → D → (D → Prop) → Prop
  | false, d, k => k d
  | true, d, k => oRepr [d] fun t => k t.d
theorem dTold_mono {md : Bool} {d : D} {k k' : D → Prop} (hk : ∀ d, k d → k' d) (h : dTold md d k) : dTold md d k' := by
  cases md with
  | false => exact hk _ h
  | true => exact mono_oRepr [d] (fun t => k t.d) (fun t => k' t.d) (fun t => hk t.d) (show oRepr [d] fun t => k t.d from h)
/-- told(lambda: e): what e gives, or what the kinds' def makes of what it raises -/
def dTell (g : Gam) (md : Bool) (told : Str) (te : DTE) : DTE := fun en st k _ => te en st (fun x en1 st1 => dTold md x.d fun d => k (.o (.lst [.str told, d])) en1 st1) fun xn en1 st1 => g (encX xn) st1 (fun t st2 => k t en1 st2) fun _ _ => False
theorem dTell_mono {g : Gam} {md : Bool} {told : Str} {te : DTE} (mg : MonoC g) (m : MonoE te) : MonoE (dTell g md told te) := fun _ _ _ _ _ _ hk _ h => m _ _ _ _ _ _ (fun _ _ _ z => dTold_mono (fun _ y => hk _ _ _ y) z) (fun _ _ _ z => mg _ _ _ _ _ _ (fun _ _ y => hk _ _ _ y) (fun _ _ y => y) z) h
theorem tM_mono {B : Bg} {W : WX} {te : DTE} {σ : Sl} {H : Hp} {Q Q' : VK} (m : MonoE te) (hq : ∀ v H1, Q v H1 → Q' v H1) (h : tM B W te σ H Q) : tM B W te σ H Q' := by
  obtain ⟨F, r, en, st, R, q⟩ := h
  exact ⟨F, r, en, st, R, m _ _ _ _ _ _ (fun _ _ _ z F' r' H' v S' R' t => hq _ _ (z F' r' H' v S' R' t)) (fun _ _ _ z => z) q⟩
theorem tell_read {B : Bg} {W : WX} {g : Gam} {md : Bool} {told : Str} {te : DTE} {cs : List Value} {σ : Sl} {H : Hp} {Q : VK} (mg : MonoC g) (m : MonoE te) (all : ∀ xn cls d F r, XRep B F r xn cls d → PySem.W.exmAny B.K cls cs = some true) (h : tM B W (dTell g md told te) σ H Q) :
    tLam3 B.tabs (tTell B md g told cs) (fun E => tM B (fun cls d _ H => E cls d H) te) σ H Q := by
  obtain ⟨F, r, en, st, R, q⟩ := h
  refine ⟨R.w.tab.1, fun H1 ex => ?_⟩
  have R1 := R.lam ex
  have S1 : Step σ en F r H σ en F r H1 := Step.lam ex
  refine ⟨F, r, en, st, R1, m _ _ _ _ _ _ (fun x en1 st1 hk => ?_) (fun xn en1 st1 he => ?_) q⟩
  · intro F2 r2 H2 v S2 R2 t2
    obtain ⟨F3, S3, R3, rep, _⟩ := freezeT S2 R2 t2
    cases md with
    | false => exact fun p hp => kp_new (Kpost.shift (S1.trans S3) hk) R3 hp ⟨[.str told, v], rfl, _, _, rfl, rfl, _, _, rfl, rep, rfl⟩
    | true =>
      have hk' : oRepr [x.d] fun t => Kpost B σ Q F r en H (T.o (D.lst [D.str told, t.d])) en1 st1 := hk
      refine ⟨σ, F3, r2, en1, st1, [x.d], R3, ⟨_, _, rfl, rep, rfl⟩, mono_oRepr _ _ _ (fun t ht => ?_) hk'⟩
      intro F4 r4 H4 v' S4 R4 t4 p hp
      obtain ⟨F5, S5, R5, rep5, _⟩ := freezeT S4 R4 t4
      exact kp_new (Kpost.shift ((S1.trans S3).trans S5) ht) R5 hp ⟨[.str told, v'], rfl, _, _, rfl, rfl, _, _, rfl, rep5, rfl⟩
  · intro F2 r2 H2 cls d S2 R2 xr
    exact ⟨all _ _ _ _ _ xr, F2, r2, st1, xn, R2.w, xr, mg _ _ _ _ _ _ (fun t st2 z => ca_k R2 (Kpost.shift (S1.trans S2) z)) (fun _ _ z => z) he⟩
/-! ### try -/
/-- an except suite: return a constant; a constant to a name -/
inductive MX where
  | ret (d : D) | set (i : Nat) (d : D)
/-- a constant's value -/
def cV : D → Option V
  | .non => some .non
  | .bl b => some (.bl b)
  | .str s => some (.str s)
  | .int i => some (.int i)
  | _ => none
theorem cV_rep {B : Bg} {F : Hp} {r : List Addr} {d : D} {v : V} (h : cV d = some v) : Rep B F r d v := by
  cases d <;> simp only [cV, reduceCtorEq, Option.some.injEq] at h <;> subst h <;> rfl
def dSu : MX → En → List D → Post → Prop
  | .ret d, _, st, P => P.rt (.v d) st
  | .set i d, en, st, P => P.nx (en.set i (some (.v d))) st
def dClu : List (List Nat × MX) → Xn → En → List D → Post → Prop
  | [], x, en, st, P => P.ex x en st
  | (cs, mx) :: r, x, en, st, P => if cs.contains x.1 = true then dSu mx en st P else dClu r x en st P
theorem dSu_mono {P P' : Post} (h : Post.le P P') : ∀ {mx : MX} {en : En} {st : List D}, dSu mx en st P → dSu mx en st P'
  | .ret d, _, _, q => h.rt _ _ q
  | .set i d, _, _, q => h.nx _ _ q
theorem dClu_mono {P P' : Post} (h : Post.le P P') {x : Xn} {en : En} {st : List D} : ∀ {l : List (List Nat × MX)}, dClu l x en st P → dClu l x en st P'
  | [], q => h.ex _ _ _ q
  | (cs, mx) :: r, q => by
    unfold dClu at q ⊢
    split at q
    · rename_i hc
      rw [if_pos hc]
      exact dSu_mono h q
    · rename_i hc
      rw [if_neg hc]
      exact dClu_mono h q
def dTri (t : DTS) (l : List (List Nat × MX)) : DTS := fun en st P => t en st { P with ex := fun x en1 st1 => dClu l x en1 st1 P }
theorem dTri_mono {t : DTS} {l : List (List Nat × MX)} (m : MonoS t) : MonoS (dTri t l) := fun en st P P' h q => m.app (P := { P with ex := fun x en1 st1 => dClu l x en1 st1 P }) q ⟨h.nx, h.rt, h.bk, h.ct, fun _ _ _ z => dClu_mono h z⟩
def suT (v : V) : MX → TS
  | .ret _ => fun D _ H => D.rt v H
  | .set i _ => fun D σ H => D.nx (σ.set i (some v)) H
def MX.d : MX → D
  | .ret d => d
  | .set _ d => d
/-- the clauses of the text, as readings -/
inductive HdsD (B : Bg) (X : Cx) : List ExceptHandler → List (List Nat × MX) → List Clu → Prop
  | nil : HdsD B X [] [] []
  | cons {te : Expr} {vs : List Value} {cs : List Nat} {mx : MX} {v : V} {b₀ : Stmt} {suite : List Stmt} {pos' : Pos} {hds : List ExceptHandler} {l : List (List Nat × MX)} {l' : List Clu} (hc : Tst X te vs) (hv : cV mx.d = some v)
      (his : ∀ xn cls d F r, XRep B F r xn cls d → PySem.W.exmAny B.K cls vs = some (cs.contains xn.1))
      (hsu : ∀ (a : Addr) (oe : Obj) (cls : Value) (d : Option Addr) (pn : List (Addr × Obj)), Zc cls d oe → (∃ vs, oe.data = .fields vs) → PSs (X.suite a ((a, oe) :: pn)) (b₀ :: suite) (suT v mx)) (r : HdsD B X hds l l') :
      HdsD B X (.ExceptHandler (some te) none (b₀ :: suite) pos' :: hds) ((cs, mx) :: l) ((vs, none, fun _ _ _ => suT v mx) :: l')
theorem HdsD.g {B : Bg} {X : Cx} {hds : List ExceptHandler} {l : List (List Nat × MX)} {l' : List Clu} (h : HdsD B X hds l l') : HdsG X hds l' := by
  induction h with
  | nil => exact .nil
  | cons hc hv his hsu r ih => exact .plain hc hsu ih
theorem clu_ok {B : Bg} {W : WX} {X : Cx} {hds : List ExceptHandler} {l : List (List Nat × MX)} {l' : List Clu} {D : Ends} {σ σ1 : Sl} {F F1 : Hp} {r r1 : List Addr} {en en1 : En} {H H1 : Hp} {st1 : List Ev.D} {x : Xn} {cls : Value} {d : Option Addr} (hK : X.K = B.K) (h : HdsD B X hds l l')
    (S : Step σ en F r H σ1 en1 F1 r1 H1) (R : Rel B F1 r1 en1 st1 σ1 H1) (xr : XRep B F1 r1 x cls d) (q : dClu l x en1 st1 (postOf B W D σ F r en H)) : wGen X.K W D l' cls d σ1 H1 := by
  induction h with
  | nil => exact q σ1 F1 r1 H1 cls d S R xr
  | @cons te vs cs mx v b₀ suite pos' hds l l' hc hv his hsu rr ih =>
    refine ⟨cs.contains x.1, by rw [hK]; exact his _ _ _ _ _ xr, fun hb a _ => ?_, fun hb => ?_⟩
    · unfold dClu at q
      rw [if_pos hb] at q
      cases mx with
      | ret d => exact q F1 r1 H1 v ⟨σ1, en1, S⟩ R.w (cV_rep hv)
      | set i d =>
        obtain ⟨S1, R1⟩ := Rel.setG (i := i) (x := .v d) (v := v) S R (cV_rep hv)
        exact q _ F1 r1 H1 S1 R1
    · unfold dClu at q
      rw [if_neg (by rw [hb]; exact Bool.false_ne_true)] at q
      exact ih q
theorem ds_tri {B : Bg} {W : WX} {X : Cx} {body : List Stmt} {h₀ : ExceptHandler} {hds : List ExceptHandler} {l : List (List Nat × MX)} {l' : List Clu} {t : DTS} {pos : Pos} (hK : X.K = B.K) (hs : X.stack = X.env :: X.outer) (hf : X.env.frame = some X.env.locals) (tk : Takes X W) (mt : MonoS t)
    (hb : ∀ (W : WX) (pn : List (Addr × Obj)) (xe : Value → Shared → Prop), Takes (X.tr pn xe) W → PassesOwn (model X.prog X.w) X.A X.env xe → DSs B W (X.tr pn xe) body t) (hh : HdsD B X (h₀ :: hds) l l') : DS B W X (.Try body (h₀ :: hds) [] [] pos) (dTri t l) := by
  refine ⟨dTri_mono mt, PS.weak (ps_tryG (tb := fun W => tS B W t) hs hf tk (fun W' pn xe t1 t2 => (hb W' pn xe t1 t2).run) hh.g) fun D σ H ⟨F, r, en, st, R, q⟩ => ?_⟩
  refine ⟨F, r, en, st, R, mt.app (P := { postOf B W D σ F r en H with ex := fun x en1 st1 => dClu l x en1 st1 (postOf B W D σ F r en H) }) q ⟨fun _ _ z => z, fun _ _ z => z, fun _ _ z => z, fun _ _ z => z, fun x en1 st1 z => ?_⟩⟩
  intro σ1 F1 r1 H1 cls d S1 R1 xr
  exact clu_ok hK hh S1 R1 xr z
end Ev
set_option Elab.async false
set_option linter.all false
set_option autoImplicit false
set_option maxRecDepth 100000
/-! Ev, part L: the small syntax, its meaning, and how a text becomes one. -/
namespace Ev
open PySem PySem.Spec PyProof.Rows L2
inductive Bi where
  | len | abs | min | max | int | all | any | sum | sorted | tuple | list | divmod | str | repr | isinstance
  deriving DecidableEq
def Bi.nm : Bi → Str
  | .len => "len"
  | .abs => "abs"
  | .min => "min"
  | .max => "max"
  | .int => "int"
  | .all => "all"
  | .any => "any"
  | .sum => "sum"
  | .sorted => "sorted"
  | .tuple => "tuple"
  | .list => "list"
  | .divmod => "divmod"
  | .str => "str"
  | .repr => "repr"
  | .isinstance => "isinstance"
def Bi.g : Bi → OpN
  | .len => oLen
  | .abs => oAbs
  | .min => oMin
  | .max => oMax
  | .int => oInt
  | .all => oAll
  | .any => oAny
  | .sum => oSum
  | .sorted => oSorted
  | .tuple => oTuple
  | .list => oList
  | .divmod => oDivmod
  | .str => oStr
  | .repr => oRepr
  | .isinstance => oIsi
def biAll : List Bi := [.len, .abs, .min, .max, .int, .all, .any, .sum, .sorted, .tuple, .list, .divmod, .str, .repr, .isinstance]
def biOf (x : Str) : Option Bi := biAll.find? fun f => decide (f.nm = x)
theorem biOf_nm {x : Str} {f : Bi} (h : biOf x = some f) : f.nm = x := by
  have q := List.find?_some h
  exact of_decide_eq_true q
def tyAll : List Ty := [.int, .bool, .str, .tuple, .list, .dict]
def tyOf (x : Str) : Option Ty := tyAll.find? fun t => decide (Str.ofString t.nm = x)
theorem tyOf_nm {x : Str} {t : Ty} (h : tyOf x = some t) : Str.ofString t.nm = x := by
  have q := List.find?_some h
  exact of_decide_eq_true q
mutual
inductive ME where
  | c (d : D) | var (i : Nat)
  | bin (op : Operator) (a b : ME) | cmp (op : CmpOp) (a b : ME) | chain (op op' : CmpOp) (a b c : ME)
  | neg (a : ME) | not (a : ME) | and (a b : ME) | or (a b : ME) | ite (t : MT) (a b : ME)
  | tup (as : MA) | lst (as : MA) | ix (a b : ME) | sl (a : ME) (lo hi : MO)
  | bi (f : Bi) (as : MA) | sset (a : ME) | call (p n m : Nat) (as ks : MA) | box (a : ME)
  | lc (it : MI) (ct : CT) (t : MT) (e : ME) (vs : List Nat)
  | attr (f : Str) (cs : List Nat) (ps : List (Nat × Nat)) (a : ME)
  | meth (m : Str) (ps : List (Nat × Nat)) (n k : Nat) (a : ME) (as ks : MA)
  | make (p c n k : Nat) (v : Bool) (as ks : MA)
  | rev (a : ME) | two (a : ME) | dcn (kvs : List (Key × D)) | fs (as : MA) | bm (f : Bm) (a b : ME) | eqo (neg : Bool) (ps : List (Nat × Nat)) (a b : ME)
  | ixp (i : Nat) (b : ME)
  | isx (i : Nat) (cs : List Nat) | atx (i : Nat) (cs : List Nat) | tell (p : Nat) (md : Bool) (told : Str) (e : ME) | tells (w : Str) (cs : List Nat) (md : Bool) (told : Str) (e : ME) | lrg1 (a : ME) | lrg2 (a b : ME) | sto (ps : List (Nat × Nat)) (a : ME) | rpo (ps : List (Nat × Nat)) (a : ME)
inductive MT where
  | val (e : ME) | not (t : MT) | and (t u : MT) | or (t u : MT) | yes
inductive MA where
  | nil | cons (e : ME) (as : MA) | star (e : ME) (as : MA)
inductive MO where
  | none | some (e : ME)
inductive MI where
  | any (e : ME) | range1 (as : MA) | range2 (as : MA) | range3 (as : MA) | zip (as : MA) | enum (as : MA)
end
mutual
inductive MG where
  | name (i : Nat) | tup (n : Nat) (gs : MGs) | sub (j : Nat) (e : ME) | star (g h : MG)
inductive MGs where
  | nil | cons (g : MG) (gs : MGs)
end
mutual
inductive MS where
  | expr (e : ME) | ret (e : ME) | retv (i : Nat) | retN | ifs (t : MT) (a b : MSs) | whil (t : MT) (a : MSs) | forr (it : MI) (g : MG) (a : MSs)
  | set (i : Nat) (e : ME) | par (is : List Nat) (as : MA) | asg (e : ME) (g : MG) | inc (i : Nat) (e : ME) | dec (i : Nat) (e : ME) | app (j : Nat) (e : ME) | ext (j : Nat) (e : ME)
  | fld (f : Str) (cs : List Nat) (o e : ME)
  | rais (c : Nat) (as : MA) | tri (a : MSs) (l : List (List Nat × MX))
  | pass | brk | cnt | never
inductive MSs where
  | nil | cons (s : MS) (ss : MSs)
end
def noOp : Op2 := fun _ _ _ => False
def bopG : Operator → Op2
  | .Add => oAdd
  | .Sub => oSub
  | .Mult => oMul
  | .FloorDiv => oDiv
  | .Mod => oMod
  | .Pow => oPow
  | _ => noOp
def copG : CmpOp → Op2
  | .Eq => oEq
  | .NotEq => oNe
  | .Lt => oLt
  | .LtE => oLe
  | .Gt => oGt
  | .GtE => oGe
  | .Is => oIs
  | .IsNot => oIsNot
  | .In => oIn
  | .NotIn => oNotIn
def dYes : DTT := fun en st k _ => k true en st
mutual
def wE (Γ : Nat → Gam) : ME → DTE
  | .c d => dC d
  | .var i => dVar i
  | .bin op a b => dOp (bopG op) (wE Γ a) (wE Γ b)
  | .cmp op a b => dOp (copG op) (wE Γ a) (wE Γ b)
  | .chain op op' a b c => dChain (copG op) (copG op') (wE Γ a) (wE Γ b) (wE Γ c)
  | .neg a => dNeg (wE Γ a)
  | .not a => dNotV (wE Γ a)
  | .and a b => dAndV (wE Γ a) (wE Γ b)
  | .or a b => dOrV (wE Γ a) (wE Γ b)
  | .ite t a b => dIf (wT Γ t) (wE Γ a) (wE Γ b)
  | .tup as => dTup (wA Γ as)
  | .lst as => dLst (wA Γ as)
  | .ix a b => dIx (wE Γ a) (wE Γ b)
  | .sl a lo hi => dSl (wE Γ a) (wO Γ lo) (wO Γ hi)
  | .bi f as => dCB f.g (wA Γ as)
  | .sset a => dCB oSset (dCons (wE Γ a) dNil)
  | .call p n m as ks => dCall (Γ p) n m (wA Γ as) (wA Γ ks)
  | .box a => dBox (wE Γ a)
  | .lc it ct t e vs => dLc (wI Γ it) ct (wT Γ t) (wE Γ e) vs
  | .attr f cs ps a => dAttr Γ f cs ps (wE Γ a)
  | .meth m ps n k a as ks => dMeth Γ m ps n k (wE Γ a) (wA Γ as) (wA Γ ks)
  | .make p c n k v as ks => dMake (Γ p) v c n k (wA Γ as) (wA Γ ks)
  | .rev a => dRev (wE Γ a)
  | .two a => dTwo (wE Γ a)
  | .dcn kvs => dDcn kvs
  | .fs as => dFs (wJ Γ as)
  | .bm f a b => dBm f (wE Γ a) (wE Γ b)
  | .eqo neg ps a b => dOpX (oEqo Γ neg ps) (wE Γ a) (wE Γ b)
  | .ixp i b => dIxP i (wE Γ b)
  | .isx i cs => dIsx i cs
  | .atx i cs => dAtx i cs
  | .tell p md told e => dTell (Γ p) md told (wE Γ e)
  | .tells w cs md told e => dTell (gSay w cs) md told (wE Γ e)
  | .lrg1 a => dLrg1 (wE Γ a)
  | .lrg2 a b => dLrg2 (wE Γ a) (wE Γ b)
  | .sto ps a => dSto Γ ps (wE Γ a)
  | .rpo ps a => dRpo Γ ps (wE Γ a)
def wT (Γ : Nat → Gam) : MT → DTT
  | .val e => dTst (wE Γ e)
  | .not t => dNotT (wT Γ t)
  | .and t u => dAndT (wT Γ t) (wT Γ u)
  | .or t u => dOrT (wT Γ t) (wT Γ u)
  | .yes => dYes
def wA (Γ : Nat → Gam) : MA → DTA
  | .nil => dNil
  | .cons e as => dCons (wE Γ e) (wA Γ as)
  | .star e as => dStar (wE Γ e) (wA Γ as)
/-- the parts of an f-string -/
def wJ (Γ : Nat → Gam) : MA → List DTE
  | .nil => []
  | .cons e as => wE Γ e :: wJ Γ as
  | .star e as => wE Γ e :: wJ Γ as
def wO (Γ : Nat → Gam) : MO → DTO
  | .none => dNoPart
  | .some e => dPart (wE Γ e)
def wI (Γ : Nat → Gam) : MI → DTI
  | .any e => dAny (wE Γ e)
  | .range1 as => dRange1 (wA Γ as)
  | .range2 as => dRange2 (wA Γ as)
  | .range3 as => dRange3 (wA Γ as)
  | .zip as => dZip (wA Γ as)
  | .enum as => dEnum (wA Γ as)
end
/-- values stored at once -/
def wP (Γ : Nat → Gam) : MA → DTAT
  | .nil => dNilT
  | .cons e as => dConsT (wE Γ e) (wP Γ as)
  | .star e as => dConsT (wE Γ e) (wP Γ as)
mutual
def wG (Γ : Nat → Gam) : MG → DTG
  | .name i => dgName i
  | .tup n gs => dgTup n (wGs Γ gs)
  | .sub j e => dgSub j (wE Γ e)
  | .star g h => dgStar (wG Γ g) (wG Γ h)
def wGs (Γ : Nat → Gam) : MGs → DTGs
  | .nil => dgNil
  | .cons g gs => dgCons (wG Γ g) (wGs Γ gs)
end
mutual
def wS (Γ : Nat → Gam) : MS → DTS
  | .expr e => dDrop (wE Γ e)
  | .ret e => dRet (wE Γ e)
  | .retv i => dRetV i
  | .retN => dRetN
  | .ifs t a b => dIfS (wT Γ t) (wSs Γ a) (wSs Γ b)
  | .whil t a => dWhile (wT Γ t) (wSs Γ a)
  | .forr it g a => dFor (wI Γ it) (wG Γ g) (wSs Γ a)
  | .set i e => dSet i (wE Γ e)
  | .par is as => dPar is (wP Γ as)
  | .asg e g => dAsg (wE Γ e) (wG Γ g)
  | .inc i e => dAug i (fun a b => a + b) (wE Γ e)
  | .dec i e => dAug i (fun a b => a - b) (wE Γ e)
  | .app j e => dApp j fApp (wE Γ e)
  | .ext j e => dApp j fExt (wE Γ e)
  | .fld f cs o e => dFldS f cs (wE Γ o) (wE Γ e)
  | .rais c as => dRais c (wA Γ as)
  | .tri a l => dTri (wSs Γ a) l
  | .pass => dNext
  | .brk => dBreak
  | .cnt => dCont
  | .never => dNever
def wSs (Γ : Nat → Gam) : MSs → DTS
  | .nil => dNext
  | .cons s ss => dSeq (wS Γ s) (wSs Γ ss)
end
/-! ### from the text -/
/-- what is called: a def, a method, a property's getter, a class -/
inductive Kd where
  | fn | meth (c : Nat) | prop (c : Nat) | init (c : Nat) | cmp (c : Nat) | kx | sto (c : Nat) | rpo (c : Nat)
  deriving DecidableEq
/-- a call as it is written: the name, how many by position (self apart), the keywords' names, which places take boxes -/
structure Pat where
  x : Str
  n : Nat
  ks : List Str
  bx : List Bool
  kd : Kd
/-- a class: its name, whether its instances are data, names that it has not -/
structure Cld where
  x : Str
  imm : Bool
  flds : List Str
/-- a def that tells what a function without arguments gives or raises: its name, the pattern of the def of kinds, whether repr is told, its words and names -/
structure Tl where
  x : Str
  p : Nat
  md : Bool
  told : Str
  a : Str
  v : Str
  en : Str
  kf : Str
  ys : List Str
  sw : Option (Str × Str) := none
/-- how a def is read: instances compared; raise read; lambdas made; given an exception -/
structure Flg where
  eq : Bool := false
  rs : Bool := false
  lam : Bool := false
  xm : Bool := false
  st : Bool := false
structure CC where
  N : List Str
  glob : List (Str × D)
  pats : List Pat
  clss : List Cld
  xcs : List Xc
  xns : List Str
  tls : List Tl
  fl : Flg
abbrev CC.eq (C : CC) : Bool := C.fl.eq
def slotOf : List Str → Str → Option Nat
  | [], _ => none
  | y :: ys, x => if y = x then some 0 else (slotOf ys x).map Nat.succ
theorem slotOf_get : ∀ {N : List Str} {x : Str} {i : Nat}, slotOf N x = some i → N[i]? = some x
  | [], x, i, h => by cases h
  | y :: ys, x, i, h => by
    unfold slotOf at h
    split at h
    · rename_i e
      cases h
      rw [e]
      rfl
    · obtain ⟨j, h1, rfl⟩ := Option.map_eq_some_iff.mp h
      rw [List.getElem?_cons_succ]
      exact slotOf_get h1
def visB (sc : Scope) (x : Str) : Bool := match sc.names.lookup x with
  | some .local => true
  | some .cell => true
  | some .free => true
  | _ => false
def locB (sc : Scope) (x : Str) : Bool := match sc.names.lookup x with
  | some .local => true
  | some .cell => true
  | _ => false
def gloB (sc : Scope) (x : Str) : Bool := match sc.names.lookup x with
  | some .globalImplicit => true
  | _ => false
theorem visB_vis {sc : Scope} {x : Str} (h : visB sc x = true) : Vis sc x := by
  unfold visB at h
  split at h
  · exact .inl (by assumption)
  · exact .inr (.inl (by assumption))
  · exact .inr (.inr (by assumption))
  · cases h
theorem locB_loc {sc : Scope} {x : Str} (h : locB sc x = true) : Loc sc x := by
  unfold locB at h
  split at h
  · exact .inl (by assumption)
  · exact .inr (by assumption)
  · cases h
theorem gloB_glo {sc : Scope} {x : Str} (h : gloB sc x = true) : sc.names.lookup x = some .globalImplicit := by
  unfold gloB at h
  split at h
  · assumption
  · cases h
def okNm (x : Str) : Bool := !(x == ("__debug__" : Str)) && !(x == ("__classdict__" : Str))
theorem okNm_1 {x : Str} (h : okNm x = true) : (x == ("__debug__" : Str)) = false ∧ (x == ("__classdict__" : Str)) = false := by
  unfold okNm at h
  rw [Bool.and_eq_true] at h
  exact ⟨by simpa using h.1, by simpa using h.2⟩
/-- the place of a local name -/
def vSlot (C : CC) (sc : Scope) (x : Str) : Option Nat := if visB sc x && okNm x then slotOf C.N x else none
def lSlot (C : CC) (sc : Scope) (x : Str) : Option Nat := if locB sc x && okNm x then slotOf C.N x else none
def okOp : Operator → Bool
  | .Add => true
  | .Sub => true
  | .Mult => true
  | .FloorDiv => true
  | .Mod => true
  | .Pow => true
  | _ => false
def isName : Expr → Bool
  | .Name _ _ => true
  | _ => false
def findPat (kd : Kd) (x : Str) (n : Nat) (ks : List Str) : List Pat → Nat → Option (Nat × Pat)
  | [], _ => none
  | p :: ps, i => if p.kd = kd ∧ p.x = x ∧ p.n = n ∧ p.ks = ks then some (i, p) else findPat kd x n ks ps (i + 1)
theorem findPat_get {kd : Kd} {x : Str} {n : Nat} {ks : List Str} {i : Nat} {p : Pat} : ∀ {ps : List Pat} {j : Nat}, findPat kd x n ks ps j = some (i, p) → j ≤ i ∧ ps[i - j]? = some p ∧ p.kd = kd ∧ p.x = x ∧ p.n = n ∧ p.ks = ks
  | [], j, h => by cases h
  | q :: qs, j, h => by
    unfold findPat at h
    split at h
    · rename_i e
      cases h
      exact ⟨Nat.le_refl _, by rw [Nat.sub_self]; rfl, e⟩
    · obtain ⟨h1, h2, h3⟩ := findPat_get h
      refine ⟨by omega, ?_, h3⟩
      have e : i - j = (i - (j + 1)) + 1 := by omega
      rw [e, List.getElem?_cons_succ]
      exact h2
/-- the patterns of a method, by class -/
def methsOf (m : Str) (n : Nat) (ks : List Str) : List Pat → Nat → List (Nat × Nat)
  | [], _ => []
  | p :: ps, i => match p.kd with
    | .meth c => if p.x = m ∧ p.n = n ∧ p.ks = ks then (c, i) :: methsOf m n ks ps (i + 1) else methsOf m n ks ps (i + 1)
    | _ => methsOf m n ks ps (i + 1)
theorem methsOf_get {m : Str} {n : Nat} {ks : List Str} {c i : Nat} : ∀ {ps : List Pat} {j : Nat}, (methsOf m n ks ps j).lookup c = some i → j ≤ i ∧ ∃ p, ps[i - j]? = some p ∧ p.kd = .meth c ∧ p.x = m ∧ p.n = n ∧ p.ks = ks
  | [], j, h => by cases h
  | q :: qs, j, h => by
    have next : (methsOf m n ks qs (j + 1)).lookup c = some i → j ≤ i ∧ ∃ p, (q :: qs)[i - j]? = some p ∧ p.kd = .meth c ∧ p.x = m ∧ p.n = n ∧ p.ks = ks := fun h => by
      obtain ⟨h1, p, h2, h3⟩ := methsOf_get h
      refine ⟨by omega, p, ?_, h3⟩
      have e : i - j = (i - (j + 1)) + 1 := by omega
      rw [e, List.getElem?_cons_succ]
      exact h2
    unfold methsOf at h
    split at h
    · rename_i c' hk
      split at h
      · rename_i e
        rw [List.lookup_cons] at h
        split at h
        · rename_i q'
          cases h
          have ec := eq_of_beq q'
          subst ec
          exact ⟨Nat.le_refl _, q, by rw [Nat.sub_self]; rfl, hk, e⟩
        · exact next h
      · exact next h
    · exact next h
/-- the getters of a property, by class -/
def propsOf (f : Str) : List Pat → Nat → List (Nat × Nat)
  | [], _ => []
  | p :: ps, i => match p.kd with
    | .prop c => if p.x = f then (c, i) :: propsOf f ps (i + 1) else propsOf f ps (i + 1)
    | _ => propsOf f ps (i + 1)
theorem propsOf_get {f : Str} {c i : Nat} : ∀ {ps : List Pat} {j : Nat}, (propsOf f ps j).lookup c = some i → j ≤ i ∧ ∃ p, ps[i - j]? = some p ∧ p.kd = .prop c ∧ p.x = f
  | [], j, h => by cases h
  | q :: qs, j, h => by
    have next : (propsOf f qs (j + 1)).lookup c = some i → j ≤ i ∧ ∃ p, (q :: qs)[i - j]? = some p ∧ p.kd = .prop c ∧ p.x = f := fun h => by
      obtain ⟨h1, p, h2, h3⟩ := propsOf_get h
      refine ⟨by omega, p, ?_, h3⟩
      have e : i - j = (i - (j + 1)) + 1 := by omega
      rw [e, List.getElem?_cons_succ]
      exact h2
    unfold propsOf at h
    split at h
    · rename_i c' hk
      split at h
      · rename_i e
        rw [List.lookup_cons] at h
        split at h
        · rename_i q'
          cases h
          have ec := eq_of_beq q'
          subst ec
          exact ⟨Nat.le_refl _, q, by rw [Nat.sub_self]; rfl, hk, e⟩
        · exact next h
      · exact next h
    · exact next h
/-- the own ==, by class -/
def cmpsOf : List Pat → Nat → List (Nat × Nat)
  | [], _ => []
  | p :: ps, i => match p.kd with
    | .cmp c => (c, i) :: cmpsOf ps (i + 1)
    | _ => cmpsOf ps (i + 1)
theorem cmpsOf_get {c i : Nat} : ∀ {ps : List Pat} {j : Nat}, (cmpsOf ps j).lookup c = some i → j ≤ i ∧ ∃ p, ps[i - j]? = some p ∧ p.kd = .cmp c
  | [], j, h => by cases h
  | q :: qs, j, h => by
    have next : (cmpsOf qs (j + 1)).lookup c = some i → j ≤ i ∧ ∃ p, (q :: qs)[i - j]? = some p ∧ p.kd = .cmp c := fun h => by
      obtain ⟨h1, p, h2, h3⟩ := cmpsOf_get h
      refine ⟨by omega, p, ?_, h3⟩
      have e : i - j = (i - (j + 1)) + 1 := by omega
      rw [e, List.getElem?_cons_succ]
      exact h2
    unfold cmpsOf at h
    split at h
    · rename_i c' hk
      rw [List.lookup_cons] at h
      split at h
      · rename_i q'
        cases h
        have ec := eq_of_beq q'
        subst ec
        exact ⟨Nat.le_refl _, q, by rw [Nat.sub_self]; rfl, hk⟩
      · exact next h
    · exact next h
/-- the own __str__, by class -/
def stosOf : List Pat → Nat → List (Nat × Nat)
  | [], _ => []
  | p :: ps, i => match p.kd with
    | .sto c => (c, i) :: stosOf ps (i + 1)
    | _ => stosOf ps (i + 1)
theorem stosOf_get {c i : Nat} : ∀ {ps : List Pat} {j : Nat}, (stosOf ps j).lookup c = some i → j ≤ i ∧ ∃ p, ps[i - j]? = some p ∧ p.kd = .sto c
  | [], j, h => by cases h
  | q :: qs, j, h => by
    have next : (stosOf qs (j + 1)).lookup c = some i → j ≤ i ∧ ∃ p, (q :: qs)[i - j]? = some p ∧ p.kd = .sto c := fun h => by
      obtain ⟨h1, p, h2, h3⟩ := stosOf_get h
      refine ⟨by omega, p, ?_, h3⟩
      have e : i - j = (i - (j + 1)) + 1 := by omega
      rw [e, List.getElem?_cons_succ]
      exact h2
    unfold stosOf at h
    split at h
    · rename_i c' hk
      rw [List.lookup_cons] at h
      split at h
      · rename_i q'
        cases h
        have ec := eq_of_beq q'
        subst ec
        exact ⟨Nat.le_refl _, q, by rw [Nat.sub_self]; rfl, hk⟩
      · exact next h
    · exact next h
/-- the own __repr__, by class -/
def rposOf : List Pat → Nat → List (Nat × Nat)
  | [], _ => []
  | p :: ps, i => match p.kd with
    | .rpo c => (c, i) :: rposOf ps (i + 1)
    | _ => rposOf ps (i + 1)
theorem rposOf_get {c i : Nat} : ∀ {ps : List Pat} {j : Nat}, (rposOf ps j).lookup c = some i → j ≤ i ∧ ∃ p, ps[i - j]? = some p ∧ p.kd = .rpo c
  | [], j, h => by cases h
  | q :: qs, j, h => by
    have next : (rposOf qs (j + 1)).lookup c = some i → j ≤ i ∧ ∃ p, (q :: qs)[i - j]? = some p ∧ p.kd = .rpo c := fun h => by
      obtain ⟨h1, p, h2, h3⟩ := rposOf_get h
      refine ⟨by omega, p, ?_, h3⟩
      have e : i - j = (i - (j + 1)) + 1 := by omega
      rw [e, List.getElem?_cons_succ]
      exact h2
    unfold rposOf at h
    split at h
    · rename_i c' hk
      rw [List.lookup_cons] at h
      split at h
      · rename_i q'
        cases h
        have ec := eq_of_beq q'
        subst ec
        exact ⟨Nat.le_refl _, q, by rw [Nat.sub_self]; rfl, hk⟩
      · exact next h
    · exact next h
/-- a def in which instances are compared is marked -/
def eqsOf (C : CC) : List (Nat × Nat) := match C.eq with
  | true => cmpsOf C.pats 0
  | false => []
theorem eqsOf_get {C : CC} {c i : Nat} (h : (eqsOf C).lookup c = some i) : ∃ p, C.pats[i]? = some p ∧ p.kd = .cmp c := by
  unfold eqsOf at h
  split at h
  · obtain ⟨_, p, h1, h2⟩ := cmpsOf_get h
    exact ⟨p, by simpa using h1, h2⟩
  · cases h
/-- in a marked def x[i] leaves x one's own -/
def nmSlot (C : CC) (sc : Scope) (a : Expr) : Option Nat := match C.eq with
  | true => (match a with
    | .Name x _ => vSlot C sc x
    | _ => none)
  | false => none
theorem nmSlot_get {C : CC} {sc : Scope} {a : Expr} {i : Nat} (h : nmSlot C sc a = some i) : ∃ x p, a = .Name x p ∧ vSlot C sc x = some i := by
  unfold nmSlot at h
  split at h
  · split at h
    · exact ⟨_, _, rfl, h⟩
    · cases h
  · cases h
def ixM (o : Option Nat) (ma mb : ME) : ME := match o with
  | some i => .ixp i mb
  | none => .ix ma mb
def cmpM (ps : List (Nat × Nat)) (op : CmpOp) (a b : ME) : ME := match op, ps with
  | .Eq, _ :: _ => .eqo false ps a b
  | .NotEq, _ :: _ => .eqo true ps a b
  | _, _ => .cmp op a b
/-- the classes whose instances alone have the name -/
def fldCls (f : Str) : List Cld → Nat → List Nat
  | [], _ => []
  | c :: cs, i => if c.flds.contains f then i :: fldCls f cs (i + 1) else fldCls f cs (i + 1)
theorem fldCls_get {f : Str} {c : Nat} : ∀ {cs : List Cld} {j : Nat}, (fldCls f cs j).contains c = true → j ≤ c ∧ ∃ cl, cs[c - j]? = some cl ∧ cl.flds.contains f = true
  | [], j, h => by cases h
  | q :: qs, j, h => by
    have next : (fldCls f qs (j + 1)).contains c = true → j ≤ c ∧ ∃ cl, (q :: qs)[c - j]? = some cl ∧ cl.flds.contains f = true := fun h => by
      obtain ⟨h1, p, h2, h3⟩ := fldCls_get h
      refine ⟨by omega, p, ?_, h3⟩
      have e : c - j = (c - (j + 1)) + 1 := by omega
      rw [e, List.getElem?_cons_succ]
      exact h2
    unfold fldCls at h
    split at h
    · rename_i e
      rw [List.contains_cons, Bool.or_eq_true] at h
      rcases h with z | z
      · have ec := eq_of_beq z
        subst ec
        exact ⟨Nat.le_refl _, q, by rw [Nat.sub_self]; rfl, e⟩
      · exact next z
    · exact next h
def clsNo (x : Str) : List Cld → Nat → Option (Nat × Cld)
  | [], _ => none
  | c :: cs, i => if c.x = x then some (i, c) else clsNo x cs (i + 1)
theorem clsNo_get {x : Str} {i : Nat} {c : Cld} : ∀ {cs : List Cld} {j : Nat}, clsNo x cs j = some (i, c) → j ≤ i ∧ cs[i - j]? = some c ∧ c.x = x
  | [], j, h => by cases h
  | q :: qs, j, h => by
    unfold clsNo at h
    split at h
    · rename_i e
      cases h
      exact ⟨Nat.le_refl _, by rw [Nat.sub_self]; rfl, e⟩
    · obtain ⟨h1, h2, h3⟩ := clsNo_get h
      refine ⟨by omega, ?_, h3⟩
      have e : i - j = (i - (j + 1)) + 1 := by omega
      rw [e, List.getElem?_cons_succ]
      exact h2
/-- [::-1] -/
def isTwo : Expr → Bool
  | .Slice none none (some (.Constant (.int 2) _ _)) _ => true
  | _ => false
theorem isTwo_get {b : Expr} (h : isTwo b = true) : ∃ k p1 p3, b = .Slice none none (some (.Constant (.int 2) k p1)) p3 := by
  unfold isTwo at h
  split at h
  · exact ⟨_, _, _, rfl⟩
  · cases h
def isRev : Expr → Bool
  | .Slice none none (some (.UnaryOp .USub (.Constant (.int 1) _ _) _)) _ => true
  | _ => false
theorem isRev_get {b : Expr} (h : isRev b = true) : ∃ k p1 p2 p3, b = .Slice none none (some (.UnaryOp .USub (.Constant (.int 1) k p1) p2)) p3 := by
  unfold isRev at h
  split at h
  · exact ⟨_, _, _, _, rfl⟩
  · cases h
/-- no super() in front of the point -/
def abOk : Expr → Bool
  | .Call (.Name id _) [] [] _ => id != ("super" : Str)
  | _ => true
theorem abOk_base {o : Expr} {f : Str} {env : PySem.Env} (h : abOk o = true) : attributeBase o f env (eval o env) = eval o env := by
  cases o <;> try rfl
  rename_i fn args kws p
  cases fn <;> try rfl
  rename_i id p2
  match args, kws with
  | [], [] => exact abase_call h
  | [], _ :: _ => rfl
  | _ :: _, _ => rfl
def namesOf : List Expr → Option (List Str)
  | [] => some []
  | .Name x _ :: es => (namesOf es).map (x :: ·)
  | _ => none
def slotsOf (C : CC) (sc : Scope) : List Expr → Option (List Nat)
  | [] => some []
  | .Name x _ :: es => (lSlot C sc x).bind fun i => (slotsOf C sc es).map (i :: ·)
  | _ => none
def ctOf (C : CC) (sc : Scope) : Expr → Option CT
  | .Name x _ => (lSlot C sc x).map .one
  | .Tuple es _ _ => (slotsOf C sc es).map .many
  | _ => none
def ownOf (N : List Str) : List (Str × NameKind) → List (Str × Nat)
  | [] => []
  | (x, k) :: r => match k with
    | .local => (match slotOf N x with
      | some i => (x, i) :: ownOf N r
      | none => ownOf N r)
    | .cell => (match slotOf N x with
      | some i => (x, i) :: ownOf N r
      | none => ownOf N r)
    | _ => ownOf N r
/-- in a block every stored name is a cell of its own or a local one -/
def blkNm (scope sc : Scope) (x : Str) : Bool := (scope.names.lookup x == some .cell) || ((relS scope sc).names.lookup x == some .local)
def blkNms (scope sc : Scope) : Expr → Bool
  | .Name x _ => blkNm scope sc x
  | .Tuple es _ _ => es.all fun e => match e with
    | .Name x _ => blkNm scope sc x
    | _ => false
  | _ => false
def isSt : Expr → Bool
  | .Starred .. => true
  | _ => false
theorem isSt_no {e : Expr} (h : isSt e = false) : ∀ x p, e ≠ .Starred x p := fun x p z => by rw [z] at h; cases h
/-- str(e), in a def that is marked -/
def stoOf (C : CC) (x : Str) (es : List Expr) (kws : List Keyword) : Option Expr := match C.fl.st with
  | false => none
  | true => (match es, kws with
    | [e], [] => if x = "str" ∧ isSt e = false then some e else none
    | _, _ => none)
theorem stoOf_get {C : CC} {x : Str} {es : List Expr} {kws : List Keyword} {e : Expr} (h : stoOf C x es kws = some e) : x = "str" ∧ kws = [] ∧ es = [e] ∧ isSt e = false := by
  unfold stoOf at h
  split at h
  · cases h
  · split at h
    · split at h
      · rename_i hc
        cases h
        exact ⟨hc.1, rfl, rfl, hc.2⟩
      · cases h
    · cases h
/-- repr(e), in a def that is marked, where a class has its own -/
def rpoOf (C : CC) (x : Str) (es : List Expr) (kws : List Keyword) : Option Expr := match C.fl.st && !(rposOf C.pats 0).isEmpty with
  | false => none
  | true => (match es, kws with
    | [e], [] => if x = "repr" ∧ isSt e = false then some e else none
    | _, _ => none)
theorem rpoOf_get {C : CC} {x : Str} {es : List Expr} {kws : List Keyword} {e : Expr} (h : rpoOf C x es kws = some e) : x = "repr" ∧ kws = [] ∧ es = [e] ∧ isSt e = false := by
  unfold rpoOf at h
  split at h
  · cases h
  · split at h
    · split at h
      · rename_i hc
        cases h
        exact ⟨hc.1, rfl, rfl, hc.2⟩
      · cases h
    · cases h
/-- a lambda's parameters: none, or one with its own integer -/
def parOf : Arguments → Option (List Str)
  | ⟨[], [], none, [], [], none, []⟩ => some []
  | ⟨[], [⟨x, none, _⟩], none, [], [], none, [.Constant (.int _) _ _]⟩ => if x = parX then some [parX] else none
  | _ => none
theorem parOf_get {a : Arguments} {ns : List Str} (h : parOf a = some ns) : LamP a ns := by
  unfold parOf at h
  split at h
  · cases h
    exact .zero
  · split at h
    · rename_i e
      subst e
      cases h
      exact .one
    · cases h
  · cases h
def lamOf (es : List Expr) (kws : List Keyword) : Option (Arguments × Expr × Scope) := match es, kws with
  | [.Lambda pr body scope _], [] => some (pr, body, scope)
  | _, _ => none
theorem lamOf_get {es : List Expr} {kws : List Keyword} {pr : Arguments} {body : Expr} {scope : Scope} (h : lamOf es kws = some (pr, body, scope)) : kws = [] ∧ ∃ p, es = [.Lambda pr body scope p] := by
  unfold lamOf at h
  split at h
  · cases h
    exact ⟨rfl, _, rfl⟩
  · cases h
def tlNo (x : Str) : List Tl → Option Tl
  | [] => none
  | t :: ts => if t.x = x then some t else tlNo x ts
theorem tlNo_get {x : Str} {t : Tl} : ∀ {ts : List Tl}, tlNo x ts = some t → t ∈ ts ∧ t.x = x
  | [], h => by cases h
  | u :: ts, h => by
    unfold tlNo at h
    split at h
    · rename_i e
      cases h
      exact ⟨List.mem_cons_self, e⟩
    · obtain ⟨h1, h2⟩ := tlNo_get h
      exact ⟨List.mem_cons_of_mem _ h1, h2⟩
/-- told(lambda: e) -/
def lamC (C : CC) (sc : Scope) (x : Str) (pr : Arguments) (scope : Scope) : Option Tl := (parOf pr).bind fun ns => if C.fl.lam && lamDB C.N ns sc scope then (tlNo x C.tls).bind fun tl => (match tl.sw with
  | some _ => some tl
  | none => (match C.pats[tl.p]? with
    | some q => if q.kd = .kx ∧ q.x = tl.kf then some tl else none
    | none => none)) else none
theorem lamC_get {C : CC} {sc : Scope} {x : Str} {pr : Arguments} {scope : Scope} {tl : Tl} (h : lamC C sc x pr scope = some tl) : C.fl.lam = true ∧ (∃ ns, LamD C.N ns sc scope ∧ LamP pr ns) ∧ tl ∈ C.tls ∧ tl.x = x ∧ (tl.sw = none → ∃ q, C.pats[tl.p]? = some q ∧ q.kd = .kx ∧ q.x = tl.kf) := by
  unfold lamC at h
  obtain ⟨ns, hp, h⟩ := Option.bind_eq_some_iff.mp h
  split at h
  · rename_i hc
    rw [Bool.and_eq_true] at hc
    obtain ⟨tl', h1, h⟩ := Option.bind_eq_some_iff.mp h
    obtain ⟨g1, g2⟩ := tlNo_get h1
    split at h
    · rename_i hs
      cases h
      exact ⟨hc.1, ⟨ns, lamD_by hc.2, parOf_get hp⟩, g1, g2, fun z => by rw [z] at hs; cases hs⟩
    · split at h
      · rename_i q hq
        split at h
        · rename_i hk
          cases h
          exact ⟨hc.1, ⟨ns, lamD_by hc.2, parOf_get hp⟩, g1, g2, fun _ => ⟨q, hq, hk⟩⟩
        · cases h
      · cases h
  · cases h
def tellM (C : CC) (tl : Tl) (m : ME) : ME := match tl.sw with
  | none => .tell tl.p tl.md tl.told m
  | some (w, f) => .tells w (idxs (fun c => c.fld == some f) C.xcs 0) tl.md tl.told m
def CC.inLam (C : CC) : CC := { C with fl := { C.fl with lam := false } }
/-- sorted(set(e)) -/
def ssetOf (sc : Scope) (x : Str) (es : List Expr) (kws : List Keyword) : Option Expr := match es, kws with
  | [.Call (.Name y _) [e] [] _], [] => if x = "sorted" ∧ y = "set" ∧ gloB sc y = true ∧ isSt e = false then some e else none
  | _, _ => none
theorem ssetOf_get {sc : Scope} {x : Str} {es : List Expr} {kws : List Keyword} {e : Expr} (h : ssetOf sc x es kws = some e) : x = "sorted" ∧ kws = [] ∧ gloB sc "set" = true ∧ isSt e = false ∧ ∃ p q, es = [.Call (.Name "set" p) [e] [] q] := by
  unfold ssetOf at h
  split at h
  · split at h
    · rename_i c
      obtain ⟨c1, rfl, c3, c4⟩ := c
      cases h
      exact ⟨c1, rfl, c3, c4, _, _, rfl⟩
    · cases h
  · cases h
mutual
def cE : Nat → CC → Scope → Expr → Option ME
  | 0, _, _, _ => none
  | n + 1, C, sc, e => match e with
    | .Constant (.int i) _ _ => some (.c (.int i))
    | .Constant (.str s) _ _ => some (.c (.str s))
    | .Constant (.bool b) _ _ => some (.c (.bl b))
    | .Constant .none _ _ => some (.c .non)
    | .Name x _ => match vSlot C sc x with
      | some i => some (.var i)
      | none => if gloB sc x && okNm x then (match C.glob.lookup x with
        | some d => some (.c d)
        | none => (tyOf x).map fun t => .c (.ty t)) else none
    | .BinOp a op b _ => if okOp op then (cE n C sc a).bind fun ma => (cE n C sc b).bind fun mb => some (.bin op ma mb) else none
    | .Compare a [op] [b] _ => (cE n C sc a).bind fun ma => (cE n C sc b).bind fun mb => some (cmpM (eqsOf C) op ma mb)
    | .Compare a [op, op'] [b, c] _ => (cE n C sc a).bind fun ma => (cE n C sc b).bind fun mb => (cE n C sc c).bind fun mc => some (.chain op op' ma mb mc)
    | .UnaryOp .USub a _ => (cE n C sc a).bind fun ma => some (.neg ma)
    | .UnaryOp .Not a _ => (cE n C sc a).bind fun ma => some (.not ma)
    | .BoolOp op es _ => cB n C sc op es
    | .IfExp t a b _ => (cT n C sc t).bind fun mt => (cE n C sc a).bind fun ma => (cE n C sc b).bind fun mb => some (.ite mt ma mb)
    | .Tuple es _ _ => (cAS n C sc es).bind fun as => some (.tup as)
    | .List es _ => (cAS n C sc es).bind fun as => some (.lst as)
    | .Dict ks vs _ => (dcOf ks vs).map .dcn
    | .JoinedStr (v1 :: v2 :: vs) _ => (cJ n C sc (v1 :: v2 :: vs)).bind fun as => some (.fs as)
    | .Attribute o f _ => if abOk o then (cE n C sc o).bind fun m => some (.attr f (fldCls f C.clss 0) (propsOf f C.pats 0) m) else none
    | .Subscript a b _ => (cE n C sc a).bind fun ma => if isRev b then some (.rev ma) else if isTwo b then some (.two ma) else match b with
      | .Slice lo hi none _ => (cO n C sc lo).bind fun ml => (cO n C sc hi).bind fun mh => some (.sl ma ml mh)
      | _ => (cE n C sc b).bind fun mb => some (ixM (nmSlot C sc a) ma mb)
    | .Call (.Name x _) es kws _ => if gloB sc x && okNm x && kws.all (·.arg.isSome) then
        (match lamOf es kws with
        | some (pr, body, scope) => (lamC C sc x pr scope).bind fun tl => (cE n C.inLam scope body).bind fun m => some (tellM C tl m)
        | none => match stoOf C x es kws with
        | some e => (cE n C sc e).bind fun m => some (.sto (stosOf C.pats 0) m)
        | none => match rpoOf C x es kws with
        | some e => (cE n C sc e).bind fun m => some (.rpo (rposOf C.pats 0) m)
        | none => match findPat .fn x es.length (kws.filterMap (·.arg)) C.pats 0 with
        | some (p, q) => (cAB n C sc q.bx es).bind fun as => (cK n C sc kws).bind fun ks => some (.call p es.length q.ks.length as ks)
        | none => match clsNo x C.clss 0 with
        | some (c, cl) => (match findPat (.init c) "__init__" es.length (kws.filterMap (·.arg)) C.pats 0 with
          | some (p, q) => (cAB n C sc q.bx es).bind fun as => (cK n C sc kws).bind fun ks => some (.make p c es.length q.ks.length cl.imm as ks)
          | none => none)
        | none => match ssetOf sc x es kws with
          | some e => (cE n C sc e).bind fun ma => some (.sset ma)
          | none => match lrgOf sc (gloB sc "range") x es kws with
          | some (a, none) => (cE n C sc a).bind fun ma => some (.lrg1 ma)
          | some (a, some b) => (cE n C sc a).bind fun ma => (cE n C sc b).bind fun mb => some (.lrg2 ma mb)
          | none => match es, kws with
            | e :: es', [] => (biOf x).bind fun f => (cA n C sc (e :: es')).bind fun as => some (.bi f as)
            | _, _ => none) else none
    | .Call (.Attribute o m ap) es kws p => if ap.endLine == p.line && abOk o && kws.all (·.arg.isSome) && decide (es.length + kws.length < 29) then
        (match bmOf m with
        | some f => (match es, kws with
          | [a], [] => (cE n C sc o).bind fun mo => (cE n C sc a).bind fun ma => some (.bm f mo ma)
          | _, _ => none)
        | none => (cE n C sc o).bind fun mo => (cAB n C sc [] es).bind fun as => (cK n C sc kws).bind fun ks => some (.meth m (methsOf m es.length (kws.filterMap (·.arg)) C.pats 0) es.length (kws.filterMap (·.arg)).length mo as ks)) else none
    | .ListComp elt [⟨tg, iter, ifs, ia⟩] scope _ => if ia = 0 then cL n C sc elt tg iter ifs scope else none
    | _ => none
/-- a comprehension -/
def cL : Nat → CC → Scope → Expr → Expr → Expr → List Expr → Scope → Option ME
  | 0, _, _, _, _, _, _, _ => none
  | n + 1, C, sc, elt, tg, iter, ifs, scope =>
    if blkC C.N sc scope (ownOf C.N scope.names) && blkNms scope sc tg then
      (cI n C sc tg iter).bind fun mi => (ctOf C (relS scope sc) tg).bind fun ct => if ct.slots.all (fun i => ((ownOf C.N scope.names).map Prod.snd).contains i) then
        (match ifs with
          | [] => some MT.yes
          | [t] => cT n C (relS scope sc) t
          | _ => none).bind fun mt => (cE n C (relS scope sc) elt).bind fun me => some (.lc mi ct mt me ((ownOf C.N scope.names).map Prod.snd)) else none
    else none
/-- the values of and, or -/
def cB : Nat → CC → Scope → BoolOp → List Expr → Option ME
  | 0, _, _, _, _ => none
  | n + 1, C, sc, op, es => match es with
    | [a] => cE n C sc a
    | a :: b :: r => (cE n C sc a).bind fun ma => (cB n C sc op (b :: r)).bind fun mb => match op with
      | .And => some (.and ma mb)
      | .Or => some (.or ma mb)
    | [] => none
def cT : Nat → CC → Scope → Expr → Option MT
  | 0, _, _, _ => none
  | n + 1, C, sc, e => match e with
    | .BoolOp op es _ => cTB n C sc op es
    | .UnaryOp .Not a _ => (cT n C sc a).bind fun t => some (.not t)
    | .Compare a [op] [b] _ => (cE n C sc a).bind fun ma => (cE n C sc b).bind fun mb => some (.val (cmpM (eqsOf C) op ma mb))
    | .Compare a [op, op'] [b, c] _ => (cE n C sc a).bind fun ma => (cE n C sc b).bind fun mb => (cE n C sc c).bind fun mc => some (.val (.chain op op' ma mb mc))
    | .Name x p => (cE n C sc (.Name x p)).bind fun m => some (.val m)
    | .Call f es ks p => (cE n C sc (.Call f es ks p)).bind fun m => some (.val m)
    | .Subscript a b p => (cE n C sc (.Subscript a b p)).bind fun m => some (.val m)
    | .Attribute a b p => (cE n C sc (.Attribute a b p)).bind fun m => some (.val m)
    | _ => none
def cTB : Nat → CC → Scope → BoolOp → List Expr → Option MT
  | 0, _, _, _, _ => none
  | n + 1, C, sc, op, es => match es with
    | [a] => cT n C sc a
    | a :: b :: r => (cT n C sc a).bind fun ma => (cTB n C sc op (b :: r)).bind fun mb => match op with
      | .And => some (.and ma mb)
      | .Or => some (.or ma mb)
    | [] => none
def cA : Nat → CC → Scope → List Expr → Option MA
  | 0, _, _, _ => none
  | n + 1, C, sc, es => match es with
    | [] => some .nil
    | e :: r => (cE n C sc e).bind fun m => (cA n C sc r).bind fun as => some (.cons m as)
/-- elements of a display, some of them starred -/
def cAS : Nat → CC → Scope → List Expr → Option MA
  | 0, _, _, _ => none
  | n + 1, C, sc, es => match es with
    | [] => some .nil
    | .Starred e _ :: r => (cE n C sc e).bind fun m => (cAS n C sc r).bind fun as => some (.star m as)
    | e :: r => (cE n C sc e).bind fun m => (cAS n C sc r).bind fun as => some (.cons m as)
/-- parts of an f-string -/
def cJ : Nat → CC → Scope → List Expr → Option MA
  | 0, _, _, _ => none
  | n + 1, C, sc, es => match es with
    | [] => some .nil
    | .Constant (.str s) _ _ :: r => (cJ n C sc r).bind fun as => some (.cons (.c (.str s)) as)
    | .FormattedValue e (-1) none _ :: r => (cE n C sc e).bind fun m => (cJ n C sc r).bind fun as => some (.cons m as)
    | _ => none
/-- arguments, some of them boxes -/
def cAB : Nat → CC → Scope → List Bool → List Expr → Option MA
  | 0, _, _, _, _ => none
  | n + 1, C, sc, bx, es => match es with
    | [] => some .nil
    | e :: r => (cE n C sc e).bind fun m => (cAB n C sc bx.tail r).bind fun as => some (.cons (if bx.headD false && !isName e then .box m else m) as)
def cK : Nat → CC → Scope → List Keyword → Option MA
  | 0, _, _, _ => none
  | n + 1, C, sc, es => match es with
    | [] => some .nil
    | ⟨_, e, _⟩ :: r => (cE n C sc e).bind fun m => (cK n C sc r).bind fun as => some (.cons m as)
def cO : Nat → CC → Scope → Option Expr → Option MO
  | 0, _, _, _ => none
  | n + 1, C, sc, e => match e with
    | none => some .none
    | some e => (cE n C sc e).bind fun m => some (.some m)
def cI : Nat → CC → Scope → Expr → Expr → Option MI
  | 0, _, _, _, _ => none
  | n + 1, C, sc, tg, e => match e with
    | .Call (.Name x _) [a] [] _ => if x = "range" ∧ gloB sc x = true then (cA n C sc [a]).bind fun as => some (.range1 as)
      else if x = "enumerate" ∧ gloB sc x = true then (match tg with
        | .Tuple _ _ _ => (cA n C sc [a]).bind fun as => some (.enum as)
        | _ => none) else (cE n C sc e).bind fun m => some (.any m)
    | .Call (.Name x _) [a, b] [] _ => if x = "range" ∧ gloB sc x = true then (cA n C sc [a, b]).bind fun as => some (.range2 as)
      else if x = "zip" ∧ gloB sc x = true then (match tg with
        | .Tuple _ _ _ => (cA n C sc [a, b]).bind fun as => some (.zip as)
        | _ => none) else (cE n C sc e).bind fun m => some (.any m)
    | .Call (.Name x _) [a, b, c] [] _ => if x = "range" ∧ gloB sc x = true then (cA n C sc [a, b, c]).bind fun as => some (.range3 as) else (cE n C sc e).bind fun m => some (.any m)
    | .Set _ _ _ => none
    | _ => (cE n C sc e).bind fun m => some (.any m)
end
end Ev
set_option Elab.async false
set_option linter.all false
set_option autoImplicit false
set_option maxRecDepth 100000
/-! Ev, part M: the small syntax of an expression tells what the expression does. -/
namespace Ev
open PySem PySem.Spec PyProof.Rows L2
structure Amb where
  P : Program
  w : PySem.World
  mg : Str → Option Value
  base : Heap
  k : Nat
structure InAmb (A : Amb) (B : Bg) (X : Cx) : Prop where
  prog : X.prog = A.P
  w : X.w = A.w
  K : X.K = B.K
  mg : X.mg = A.mg
  base : X.base = A.base
  room : Room (3 * A.k + 4) X.A
  gd : X.A.guards = some []
def bltNames : List Str := biAll.map Bi.nm ++ tyAll.map (fun t => Str.ofString t.nm) ++ (["range", "zip", "enumerate", "set"] : List Str)
/-- what is known of a pattern's call -/
def PatSem (B : Bg) (W : WX) (X : Cx) (q : Pat) (g : Gam) : Prop := match q.kd with
  | .fn => CallOk B W X q.x q.n q.ks g
  | .meth c => MethOk B W X c q.x q.n q.ks g
  | .prop c => PropOk B X c q.x g
  | .init c => MakeOk B W X c q.n q.ks g
  | .cmp c => CmpOk B X c g
  | .kx => HotAt X.prog X.w X.mg X.base B q.x g
  | .sto c => StoOk B X c g
  | .rpo c => RpoOk B X c g
/-- the names behind except -/
def exNames : Expr → Option (List Str)
  | .Name x _ => some [x]
  | .Tuple [.Name x _, .Name y _] _ _ => some [x, y]
  | .Tuple [.Name x _, .Name y _, .Name z _] _ _ => some [x, y, z]
  | _ => none
theorem nm_names {mg : Str → Option Value} {B : Bg} {xcs : List Xc} {X : Cx} {y : Str} {cv : Value} (hm : X.mg = mg) (hn : mg y = some cv ∨ (mg y = none ∧ bootBuiltins y = some cv ∧ y ≠ "__name__")) (hg : Gl X y) (hd : (y == ("__debug__" : Str)) = false) : Names X y cv := by
  subst hm
  exact ⟨hg, hd, hn⟩
theorem exm_nil {K : PySem.W.Frag} {cls : Value} : PySem.W.exmAny K cls [] = some false := rfl
theorem exm_cons {K : PySem.W.Frag} {cls c : Value} {r : List Value} {b d : Bool} (h1 : PySem.W.exmOne K cls c = some b) (h2 : PySem.W.exmAny K cls r = some d) : PySem.W.exmAny K cls (c :: r) = some (b || d) := by
  unfold PySem.W.exmAny
  rw [h1, h2]
theorem names_vals {mg : Str → Option Value} {B : Bg} {xcs : List Xc} {xns ys : List Str} {te : Expr} (XF : XcF mg B xcs xns) (h : exNames te = some ys) (hy : ∀ y ∈ ys, y ∈ xns) :
    ∃ vs, (∀ X : Cx, X.mg = mg → (∀ y ∈ ys, Gl X y ∧ (y == ("__debug__" : Str)) = false) → Tst X te vs) ∧ ∀ (xn : Xn) (cls : Value) (d : Option Addr) (F : Hp) (r : List Addr), XRep B F r xn cls d → ∃ c, xcs[xn.1]? = some c ∧ PySem.W.exmAny B.K cls vs = some (ys.any fun y => c.ups.contains y) := by
  have cl : ∀ {xn : Xn} {cls : Value} {d : Option Addr} {F : Hp} {r : List Addr}, XRep B F r xn cls d → ∃ c, xcs[xn.1]? = some c ∧ cls = .ref (B.xcl xn.1) := fun xr => by
    obtain ⟨⟨D, e1, e2⟩, lt, _⟩ := xrep_dict xr
    rw [XF.nx] at lt
    exact ⟨_, List.getElem?_eq_getElem lt, by rw [e1, e2]⟩
  unfold exNames at h
  split at h <;> cases h
  · rename_i x p
    obtain ⟨c1, v1, _, _, n1, i1⟩ := XF.nm x (hy x (.head _))
    refine ⟨[c1], fun X hm hg => .one (nm_names (B := B) (xcs := xcs) hm n1 (hg x (.head _)).1 (hg x (.head _)).2), fun xn cls d F r xr => ?_⟩
    obtain ⟨c, hc, ec⟩ := cl xr
    subst ec
    exact ⟨c, hc, by rw [exm_cons (i1 _ c hc).2 exm_nil]; simp⟩
  · rename_i x p1 y p2 k p
    obtain ⟨c1, v1, _, _, n1, i1⟩ := XF.nm x (hy x (.head _))
    obtain ⟨c2, v2, _, _, n2, i2⟩ := XF.nm y (hy y (.tail _ (.head _)))
    refine ⟨[c1, c2], fun X hm hg => .two (nm_names (B := B) (xcs := xcs) hm n1 (hg x (.head _)).1 (hg x (.head _)).2) (nm_names (B := B) (xcs := xcs) hm n2 (hg y (.tail _ (.head _))).1 (hg y (.tail _ (.head _))).2), fun xn cls d F r xr => ?_⟩
    obtain ⟨c, hc, ec⟩ := cl xr
    subst ec
    exact ⟨c, hc, by rw [exm_cons (i1 _ c hc).2 (exm_cons (i2 _ c hc).2 exm_nil)]; simp⟩
  · rename_i x p1 y p2 z p3 k p
    obtain ⟨c1, v1, _, _, n1, i1⟩ := XF.nm x (hy x (.head _))
    obtain ⟨c2, v2, _, _, n2, i2⟩ := XF.nm y (hy y (.tail _ (.head _)))
    obtain ⟨c3, v3, _, _, n3, i3⟩ := XF.nm z (hy z (.tail _ (.tail _ (.head _))))
    refine ⟨[c1, c2, c3], fun X hm hg => .three (nm_names (B := B) (xcs := xcs) hm n1 (hg x (.head _)).1 (hg x (.head _)).2) (nm_names (B := B) (xcs := xcs) hm n2 (hg y (.tail _ (.head _))).1 (hg y (.tail _ (.head _))).2) (nm_names (B := B) (xcs := xcs) hm n3 (hg z (.tail _ (.tail _ (.head _)))).1 (hg z (.tail _ (.tail _ (.head _)))).2), fun xn cls d F r xr => ?_⟩
    obtain ⟨c, hc, ec⟩ := cl xr
    subst ec
    exact ⟨c, hc, by rw [exm_cons (i1 _ c hc).2 (exm_cons (i2 _ c hc).2 (exm_cons (i3 _ c hc).2 exm_nil))]; simp⟩
/-- what is known of a teller -/
structure TelF (mg : Str → Option Value) (B : Bg) (xcs : List Xc) (xns : List Str) (tl : Tl) : Prop where
  all : ∀ c ∈ xcs, (tl.ys.any fun y => c.ups.contains y) = true
  yn : ∀ y ∈ tl.ys, y ∈ xns
  ex : ∃ (g : Addr) (fd : FuncData) (pg : Arguments) (sg : Scope) (te : Expr) (j j2 : Nat) (pv p1 p2 p3 pk pe pc pr ph pt q1 q2 q3 q4 q5 q6 u1 u2 u3 : Pos), mg tl.x = some (.ref g) ∧
    FunD B.K tl.x tl.x pg [.Try [.Assign [.Name tl.v pv] (.Call (.Name tl.a p1) [] [] p2) p3] [.ExceptHandler (some te) (some tl.en) [tellSu tl.kf tl.en j2 pk pe pc pr u1 u2 u3 tl.sw] ph] [] [] pt, tellEnd tl.told tl.v j q1 q2 q3 q4 q5 q6 tl.md] sg [] [] g fd ∧
    L2.Binds B.K fd [tl.a] [] ∧ FnScope [tl.a, tl.v, tl.en] [tl.a] sg ∧ exNames te = some tl.ys ∧ sg.names.lookup tl.v = some .local ∧ sg.names.lookup tl.en = some .local ∧ sg.names.lookup tl.kf = some .globalImplicit ∧ (tl.md = true ∨ tl.sw ≠ none → sg.names.lookup ("repr" : Str) = some .globalImplicit) ∧
    (∀ y ∈ tl.ys, sg.names.lookup y = some .globalImplicit) ∧ ∀ y ∈ tl.a :: tl.v :: tl.en :: tl.kf :: tl.ys, okNm y = true
/-- what a def that makes lambdas needs -/
structure LamF (A : Amb) (B : Bg) (X : Cx) : Prop where
  rm : Room (3 * A.k + 6) X.A
  tb : ∃ c P, X.env.code = .ref c ∧ LamX.TabB A.base A.mg c P ∧ (P, X.env.qual ++ "<lambda>") ∈ B.tabs ∧ ∀ p ∈ B.tabs, p.1 = P → p.2 = X.env.qual ++ "<lambda>"
structure GC (A : Amb) (B : Bg) (Γ : Nat → Gam) (C : CC) (W : WX) (sc : Scope) (X : Cx) : Prop where
  amb : InAmb A B X
  sco : X.env.scope = sc
  N : X.N = C.N
  nd : C.N.Nodup
  calm : X.calm = true
  tk : Takes X W
  blt : ∀ x ∈ bltNames, A.mg x = none
  glo : ∀ x d, C.glob.lookup x = some d → ∃ v u, A.mg x = some u ∧ RelV v u ∧ ∀ F r, Rep B F r d v
  cal : ∀ p q, C.pats[p]? = some q → ∀ X' W', InAmb A B X' → Takes X' W' → PatSem B W' X' q (Γ p)
  kit : KitF B
  nc : B.nc = C.clss.length
  cls : ∀ c cl, C.clss[c]? = some cl → A.mg cl.x = some (.ref (B.cls c)) ∧ ∀ f, cl.flds.contains f = true → NoAttr B.K (B.cls c) f
  xf : XcF A.mg B C.xcs C.xns
  tel : ∀ tl ∈ C.tls, TelF A.mg B C.xcs C.xns tl
  lamF : C.fl.lam = true → LamF A B X
theorem mono_noOp : Mono2 noOp := fun _ _ _ _ _ h => h
theorem mono_bop (op : Operator) : Mono2 (bopG op) := by
  cases op <;> first | exact mono_oAdd | exact mono_oSub | exact mono_oMul | exact mono_oDiv | exact mono_oMod | exact mono_oPow | exact mono_noOp
theorem mono_cop (op : CmpOp) : Mono2 (copG op) := by
  cases op <;> first | exact mono_oEq | exact mono_oNe | exact mono_oLt | exact mono_oLe | exact mono_oGt | exact mono_oGe | exact mono_oIs | exact mono_oIsNot | exact mono_oIn | exact mono_oNotIn
theorem mono_bi (f : Bi) : MonoN f.g := by
  cases f <;> first | exact mono_oLen | exact mono_oAbs | exact mono_oMin | exact mono_oMax | exact mono_oInt | exact mono_oAll | exact mono_oAny | exact mono_oSum | exact mono_oSorted | exact mono_oTuple | exact mono_oList | exact mono_oDivmod | exact mono_oStr | exact mono_oRepr | exact mono_oIsi
section
variable {A : Amb} {B : Bg} {Γ : Nat → Gam} {C : CC} {W : WX} {sc : Scope} {X : Cx}
theorem GC.units (G : GC A B Γ C W sc X) : X.A.units + 200 < cLine := by have := G.amb.room.un; omega
theorem bop_ok (G : GC A B Γ C W sc X) {op : Operator} (h : okOp op = true) : OpR X (binaryOp op) (rG B (bopG op)) := by
  cases op <;> first | exact or_add G.amb.K | exact or_sub | exact or_mul G.amb.K | exact or_div | exact or_mod | exact or_pow | cases h
theorem cop_ok (G : GC A B Γ C W sc X) (op : CmpOp) : OpR X (compareOp op) (rG B (copG op)) := by
  have hu : X.A.units + 64 < cLine := by have := G.units; omega
  cases op
  · exact or_eq G.amb.K hu
  · exact or_ne G.amb.K hu
  · exact or_lt
  · exact or_le
  · exact or_gt
  · exact or_ge
  · exact or_is
  · exact or_isnot
  · exact or_in G.amb.K (by have := G.units; omega)
  · exact or_notin G.amb.K (by have := G.units; omega)
theorem GC.gl (G : GC A B Γ C W sc X) {x : Str} (h : gloB sc x = true) : Gl X x := by
  show X.env.scope.names.lookup x = some .globalImplicit
  rw [G.sco]
  exact gloB_glo h
theorem GC.free (G : GC A B Γ C W sc X) {x : Str} (h : x ∈ bltNames) : X.mg x = none := by rw [G.amb.mg]; exact G.blt x h
theorem bi_in (f : Bi) : f.nm ∈ bltNames := by cases f <;> decide +kernel
theorem ty_in (t : Ty) : Str.ofString t.nm ∈ bltNames := by cases t <;> decide +kernel
theorem ty_boot (t : Ty) : bootBuiltins (Str.ofString t.nm) = some (.type t.nm) := by cases t <;> decide +kernel
theorem ty_ne (t : Ty) : Str.ofString t.nm ≠ "__name__" := by cases t <;> decide +kernel
theorem bi_ne (f : Bi) : f.nm ≠ "__name__" := by cases f <;> decide +kernel
theorem bi_ok (G : GC A B Γ C W sc X) (f : Bi) {e : Expr} {es : List Expr} {tA : DTA} {p pos : Pos} (hg : gloB sc f.nm = true) (hd : (f.nm == ("__debug__" : Str)) = false) (ha : DA B W X (e :: es) tA) (hs : ∀ x ∈ e :: es, ∀ y q, x ≠ .Starred y q) :
    DE B W X (.Call (.Name f.nm p) (e :: es) [] pos) (dCB f.g tA) := by
  have hf := G.free (bi_in f)
  have h1 : ∀ y q, e ≠ .Starred y q := hs e List.mem_cons_self
  have h2 := noStars (env := X.env) (es := es) (fun x hx => hs x (List.mem_cons_of_mem _ hx)) pos
  have h3 := G.gl hg
  have hn := bi_ne f
  have hu : X.A.units + 66 < cLine := by have := G.units; omega
  cases f
  · exact de_callB (cr_len G.amb.K) mono_oLen h3 hf (by decide +kernel) ha hn hd h1 h2
  · exact de_callB cr_abs mono_oAbs h3 hf (by decide +kernel) ha hn hd h1 h2
  · exact de_callB (cr_minD G.amb.K G.calm) mono_oMin h3 hf (by decide +kernel) ha hn hd h1 h2
  · exact de_callB (cr_maxD G.amb.K G.calm) mono_oMax h3 hf (by decide +kernel) ha hn hd h1 h2
  · exact de_callTy cr_int mono_oInt h3 hf (by decide +kernel) ha hn hd h1 h2
  · exact de_callB (cr_allD G.calm) mono_oAll h3 hf (by decide +kernel) ha hn hd h1 h2
  · exact de_callB (cr_anyD G.calm) mono_oAny h3 hf (by decide +kernel) ha hn hd h1 h2
  · exact de_callB (cr_sumD G.calm) mono_oSum h3 hf (by decide +kernel) ha hn hd h1 h2
  · exact de_callB cr_sortedD mono_oSorted h3 hf (by decide +kernel) ha hn hd h1 h2
  · exact de_callTy (cr_tuple G.amb.K) mono_oTuple h3 hf (by decide +kernel) ha hn hd h1 h2
  · exact de_callTy (cr_list G.amb.K) mono_oList h3 hf (by decide +kernel) ha hn hd h1 h2
  · exact de_callB cr_divmod mono_oDivmod h3 hf (by decide +kernel) ha hn hd h1 h2
  · exact de_callTy cr_str mono_oStr h3 hf (by decide +kernel) ha hn hd h1 h2
  · exact de_callB (cr_repr G.amb.K G.amb.gd hu) mono_oRepr h3 hf (by decide +kernel) ha hn hd h1 h2
  · exact de_callB (cr_isi G.amb.K G.kit) mono_oIsi h3 hf (by decide +kernel) ha hn hd h1 h2
theorem var_pe (G : GC A B Γ C W sc X) {x : Str} {i : Nat} {p : Pos} (h : vSlot C sc x = some i) : PE X (.Name x p) (tVar i) := by
  unfold vSlot at h
  split at h
  · rename_i hc
    rw [Bool.and_eq_true] at hc
    obtain ⟨n1, n2⟩ := okNm_1 hc.2
    exact pe_var (by rw [G.N]; exact slotOf_get h) (by rw [G.sco]; exact visB_vis hc.1) n1 n2
  · cases h
end
/-- what is shown of each part of the compiler -/
structure Snd (A : Amb) (B : Bg) (Γ : Nat → Gam) (C : CC) (n : Nat) : Prop where
  E : ∀ W sc X, GC A B Γ C W sc X → ∀ e m, cE n C sc e = some m → DE B W X e (wE Γ m)
  L : ∀ W sc X, GC A B Γ C W sc X → ∀ elt tg iter ifs scope m pos, cL n C sc elt tg iter ifs scope = some m → DE B W X (.ListComp elt [⟨tg, iter, ifs, 0⟩] scope pos) (wE Γ m) ∧
    ∀ (i : Nat) (y : Str) (py spos : Pos), C.N[i]? = some y → sc.names.lookup y = some .local → swapsWith (.ListComp elt [⟨tg, iter, ifs, 0⟩] scope pos) (some (.Name y py)) spos.line X.env = pure true →
      DS B W X (.Assign [.Name y py] (.ListComp elt [⟨tg, iter, ifs, 0⟩] scope pos) spos) (dSet i (wE Γ m))
  Bo : ∀ W sc X, GC A B Γ C W sc X → ∀ op es m pos, cB n C sc op es = some m → DE B W X (.BoolOp op es pos) (wE Γ m)
  T : ∀ W sc X, GC A B Γ C W sc X → ∀ e m, cT n C sc e = some m → DT B W X e (wT Γ m)
  TB : ∀ W sc X, GC A B Γ C W sc X → ∀ op es m pos, cTB n C sc op es = some m → DW B W X (.BoolOp op es pos) (wT Γ m)
  AS : ∀ W sc X, GC A B Γ C W sc X → ∀ es m, cAS n C sc es = some m → DA B W X es (wA Γ m)
  J : ∀ W sc X, GC A B Γ C W sc X → ∀ es m, cJ n C sc es = some m → DJ B W X es (wJ Γ m)
  Ar : ∀ W sc X, GC A B Γ C W sc X → ∀ es m, cA n C sc es = some m → DA B W X es (wA Γ m) ∧ ∀ e ∈ es, ∀ x p, e ≠ .Starred x p
  AB : ∀ W sc X, GC A B Γ C W sc X → ∀ bx es m, cAB n C sc bx es = some m → DA B W X es (wA Γ m) ∧ (∀ e ∈ es, ∀ x p, e ≠ .Starred x p) ∧ (es = [] → wA Γ m = dNil)
  K : ∀ W sc X, GC A B Γ C W sc X → ∀ ks m, cK n C sc ks = some m → DK B W X ks (wA Γ m)
  O : ∀ W sc X, GC A B Γ C W sc X → ∀ e m, cO n C sc e = some m → DO B W X e (wO Γ m)
  I : ∀ W sc X, GC A B Γ C W sc X → ∀ tg e m, cI n C sc tg e = some m → DI B W X tg e (wI Γ m) ∧ ∀ x, foldedSetIterable e X.env x = pure x
theorem cmps_ok {A : Amb} {B : Bg} {Γ : Nat → Gam} {C : CC} {W : WX} {sc : Scope} {X : Cx} (G : GC A B Γ C W sc X) : ∀ c p, (eqsOf C).lookup c = some p → CmpOk B X c (Γ p) := fun c p hl => by
  obtain ⟨q, g1, g2⟩ := eqsOf_get hl
  have hcal := G.cal p q g1 X W G.amb G.tk
  unfold PatSem at hcal
  rw [g2] at hcal
  exact hcal
theorem cE_shape {n : Nat} {C : CC} {sc : Scope} {e : Expr} {m : ME} (h : cE n C sc e = some m) : (∀ x p, e ≠ .Starred x p) ∧ (∀ x k p, e ≠ .Set x k p) ∧ ∀ a b c p, e ≠ .Slice a b c p := by
  cases n with
  | zero => simp only [cE, reduceCtorEq] at h
  | succ n =>
    refine ⟨fun x p z => ?_, fun x k p z => ?_, fun a b c p z => ?_⟩ <;> subst z <;> simp only [cE, reduceCtorEq] at h
theorem noSet_fold {e : Expr} (h : ∀ x k p, e ≠ .Set x k p) {env : PySem.Env} : ∀ x, foldedSetIterable e env x = pure x := by
  intro x
  cases e <;> first | rfl | exact absurd rfl (h _ _ _)
theorem plainIx_of {b : Expr} (h : ∀ a c d p, b ≠ .Slice a c d p) : PlainIx b := by
  intro o i
  cases b <;> first | rfl | exact absurd rfl (h _ _ _ _)
section
variable {A : Amb} {B : Bg} {Γ : Nat → Gam} {C : CC} {W : WX} {sc : Scope} {X : Cx} {n : Nat}
/-- the context of a lambda's body -/
theorem GC.lam (G : GC A B Γ C W sc X) {Z : Around} {outer : List Env} {s : Shared} {H : Hp} {E : XK} {scope : Scope} {f c' : Addr} (hg : Z.guards = some []) (hr : Room (3 * A.k + 4) (Z.deeper (LamX.lamEnv X scope s.heap.objs.size f c'))) :
    GC A B Γ C.inLam (fun cls d _ H => E cls d H) scope (LamX.lamCx X Z outer s H E scope f c') where
  amb := ⟨G.amb.prog, G.amb.w, G.amb.K, G.amb.mg, G.amb.base, hr, hg⟩
  sco := rfl
  N := G.N
  nd := G.nd
  calm := rfl
  tk := takes_of rfl rfl rfl rfl
  blt := G.blt
  glo := G.glo
  cal := G.cal
  kit := G.kit
  nc := G.nc
  cls := G.cls
  xf := G.xf
  tel := G.tel
  lamF := fun z => nomatch (show false = true from z)
theorem tell_E (SL : Snd A B Γ C.inLam n) (G : GC A B Γ C W sc X) {x : Str} {pr : Arguments} {body : Expr} {scope : Scope} {tl : Tl} {m : ME} {px lp pos : Pos} (hg : gloB sc x = true) (hd : (x == ("__debug__" : Str)) = false) (hl : lamC C sc x pr scope = some tl) (hm : cE n C.inLam scope body = some m) :
    DE B W X (.Call (.Name x px) [.Lambda pr body scope lp] [] pos) (wE Γ (tellM C tl m)) := by
  obtain ⟨l1, ⟨ns, l2, lP⟩, l4, l5, l6⟩ := lamC_get hl
  subst l5
  have T := G.tel tl l4
  obtain ⟨rm, c, P, t1, t2, t3, t4⟩ := G.lamF l1
  obtain ⟨g, fd, pg, sg, te, j, j2, pv, p1, p2, p3, pk, pe, pc, pr', ph, pt, q1, q2, q3, q4, q5, q6, u1, u2, u3, e1, FD, e3, S, e5, e6, e7, e8, e9, e10, e11⟩ := T.ex
  obtain ⟨vs, v1, v2⟩ := names_vals G.xf e5 T.yn
  have ok : ∀ y ∈ tl.a :: tl.v :: tl.en :: tl.kf :: tl.ys, (y == ("__debug__" : Str)) = false ∧ (y == ("__classdict__" : Str)) = false := fun y hy => okNm_1 (e11 y hy)
  have hS : LamD X.N ns X.env.scope scope := by rw [G.sco, G.N]; exact l2
  have mono : MonoE (wE Γ m) := by
    have q0 := SL.E _ _ _ (G.lam (Z := X.A) (outer := X.stack) (s := X.s_0) (H := X.H_0) (E := fun _ _ _ => False) (scope := scope) (f := 0) (c' := 0) G.amb.gd ?_) body m hm
    · exact q0.mono
    · exact (rm.mono (by omega : 3 * A.k + 4 + 1 ≤ 3 * A.k + 6)).deeper _
  have rh : L2H.RoomH 2 X.A := L2H.roomH_of (rm.mono (by omega))
  have pen : ∀ cdv s H b oe pn, PE ((cxOf C8.CX0 X.prog X.w X.K X.mg X.base [tl.a, tl.v, tl.en] tl.x sg g cdv X.A X.stack s H C8.E0).nox.suite b ((b, oe) :: pn)) (.Name tl.en pe) (tVar 2) := fun cdv s H b oe pn =>
    pe_var (i := 2) rfl (.inl e7) (ok _ (.tail _ (.tail _ (.head _)))).1 (ok _ (.tail _ (.tail _ (.head _)))).2
  have main : ∀ gm : Gam, MonoC gm → (∀ cdv s H (b : Addr) (oe : Obj) (cls : Value) (d : Option Addr) (pn : List (Addr × Obj)), Zc cls d oe → (∃ vs, oe.data = .fields vs) →
      PSs ((cxOf C8.CX0 X.prog X.w X.K X.mg X.base [tl.a, tl.v, tl.en] tl.x sg g cdv X.A X.stack s H C8.E0).nox.suite b ((b, oe) :: pn)) [tellSu tl.kf tl.en j2 pk pe pc pr' u1 u2 u3 tl.sw] (fun D σ H => σ[2]? = some (some (.ref b)) ∧ σ.length = 3 ∧ tKind B gm cls d H D.rt)) →
      DE B W X (.Call (.Name tl.x px) [.Lambda pr body scope lp] [] pos) (dTell gm tl.md tl.told (wE Γ m)) := fun gm mgm suR => by
    have gives : ∀ cdv, GivesM X [tl.a, tl.v, tl.en] tl.x sg g cdv [.Try [.Assign [.Name tl.v pv] (.Call (.Name tl.a p1) [] [] p2) p3] [.ExceptHandler (some te) (some tl.en) [tellSu tl.kf tl.en j2 pk pe pc pr' u1 u2 u3 tl.sw] ph] [] [] pt, tellEnd tl.told tl.v j q1 q2 q3 q4 q5 q6 tl.md] tl.a (X.env.qual ++ "<lambda>") (tTell B tl.md gm tl.told vs) := fun cdv =>
      tell_gives G.amb.K rh G.amb.gd S.nd e6 e7 ⟨(ok _ (.tail _ (.head _))).1, (ok _ (.tail _ (.head _))).2⟩ (suR cdv) (fun z => ⟨e9 (.inl z), G.free (by decide +kernel)⟩)
        (fun s H => v1 _ G.amb.mg fun y hy => ⟨e10 y hy, (ok y (.tail _ (.tail _ (.tail _ (.tail _ hy))))).1⟩)
    refine ⟨dTell_mono mgm mono, PE.weak (pe_lam3 (t := fun E => tM B (fun cls d _ H => E cls d H) (wE Γ m)) (k := 3 * A.k + 4) (T := B.tabs) (G.gl hg) (by rw [G.amb.mg]; exact e1) (by rw [G.amb.K]; exact FD) (by rw [G.amb.K]; exact e3) S rfl ((S.par tl.a (by simp)).elim .inl fun z => .inr (.inl z)) gives
      (fun E σ H Q1 Q2 hq h => tM_mono mono hq h) (by rw [G.amb.base, G.amb.mg]; exact t2) t1 t3 t4 rm hS lP (fun Z outer s H E f c' hgd hr => (SL.E _ _ _ (G.lam (hgd.trans G.amb.gd) hr) body m hm).run) hd (ok _ (.head _)).1 (ok _ (.head _)).2)
      fun σ H Q h => tell_read mgm mono (fun xn cls d F r xr => ?_) h⟩
    obtain ⟨cc, hc, ec⟩ := v2 xn cls d F r xr
    rw [ec, T.all cc (List.mem_of_getElem? hc)]
  unfold tellM
  cases hsw : tl.sw with
  | none =>
    obtain ⟨q, l6, l7, l8⟩ := l6 hsw
    have hot := G.cal tl.p q l6 X W G.amb G.tk
    unfold PatSem at hot
    rw [l7, l8] at hot
    show DE B W X _ (wE Γ (.tell tl.p tl.md tl.told m))
    unfold wE
    refine main _ hot.mono fun cdv s H b oe cls d pn hz hf => ?_
    rw [hsw]
    exact su_kind (X := (cxOf C8.CX0 X.prog X.w X.K X.mg X.base [tl.a, tl.v, tl.en] tl.x sg g cdv X.A X.stack s H C8.E0).nox) hot G.amb.K hz hf (rh.deeper _) G.amb.gd e8 (ok _ (.tail _ (.tail _ (.tail _ (.head _))))).1 (pen cdv s H b oe pn)
  | some wf =>
    obtain ⟨w, f⟩ := wf
    show DE B W X _ (wE Γ (.tells w (idxs (fun c => c.fld == some f) C.xcs 0) tl.md tl.told m))
    unfold wE
    refine main _ (gSay_mono _ _) fun cdv s H b oe cls d pn hz hf => ?_
    rw [hsw]
    exact su_say (X := (cxOf C8.CX0 X.prog X.w X.K X.mg X.base [tl.a, tl.v, tl.en] tl.x sg g cdv X.A X.stack s H C8.E0).nox) G.xf G.amb.K hz hf (show (X.A.deeper (envOfC tl.x sg s.heap.objs.size g cdv)).units + 66 < cLine by have := (rh.deeper (envOfC tl.x sg s.heap.objs.size g cdv)).un; omega) G.amb.gd (e9 (.inr (by rw [hsw]; exact fun z => nomatch z))) (G.free (by decide +kernel)) (pen cdv s H b oe pn)
theorem step_E (S : Snd A B Γ C n) (SL : Snd A B Γ C.inLam n) (G : GC A B Γ C W sc X) (e : Expr) (m : ME) (h : cE (n + 1) C sc e = some m) : DE B W X e (wE Γ m) := by
  cases e with
  | Constant c j p =>
    cases c <;> simp only [cE, reduceCtorEq, Option.some.injEq] at h <;> subst h <;> unfold wE
    · exact de_const pe_non fun _ _ => rfl
    · exact de_const pe_bl fun _ _ => rfl
    · exact de_const pe_int fun _ _ => rfl
    · exact de_const pe_str fun _ _ => rfl
  | Name x p =>
    simp only [cE] at h
    split at h
    · rename_i i hi
      cases h
      unfold wE
      exact de_var (var_pe G hi)
    · split at h
      · rename_i hc
        rw [Bool.and_eq_true] at hc
        have hd := (okNm_1 hc.2).1
        split at h
        · rename_i d hd'
          cases h
          unfold wE
          obtain ⟨v, u, e1, e2, e3⟩ := G.glo x d hd'
          exact de_const (pe_glob (G.gl hc.1) (by rw [G.amb.mg]; exact e1) e2 hd) e3
        · obtain ⟨t, ht, rfl⟩ := Option.map_eq_some_iff.mp h
          unfold wE
          have en := tyOf_nm ht
          subst en
          exact de_const (v := .ty t.nm) (pe_bltn (G.gl hc.1) (G.free (ty_in t)) (ty_boot t) rfl (ty_ne t) hd) fun _ _ => rfl
      · cases h
  | BinOp a op b p =>
    simp only [cE] at h
    split at h
    · rename_i ho
      obtain ⟨ma, h1, h⟩ := Option.bind_eq_some_iff.mp h
      obtain ⟨mb, h2, h⟩ := Option.bind_eq_some_iff.mp h
      cases h
      unfold wE
      exact de_bin (bop_ok G ho) (mono_bop op) (S.E W sc X G a ma h1) (S.E W sc X G b mb h2)
    · cases h
  | Compare a ops bs p =>
    match ops, bs with
    | [op], [b] =>
      simp only [cE] at h
      obtain ⟨ma, h1, h⟩ := Option.bind_eq_some_iff.mp h
      obtain ⟨mb, h2, h⟩ := Option.bind_eq_some_iff.mp h
      cases h
      have hu : X.A.units + 64 < cLine := by have := G.units; omega
      have hp := cmps_ok G
      unfold cmpM
      split
      · unfold wE
        exact de_eqo (neg := false) G.amb.K hu hp (S.E W sc X G a ma h1) (S.E W sc X G b mb h2) (noSet_marks (cE_shape h2).2.1)
      · unfold wE
        exact de_eqo (neg := true) G.amb.K hu hp (S.E W sc X G a ma h1) (S.E W sc X G b mb h2) (noSet_marks (cE_shape h2).2.1)
      · unfold wE
        exact de_cmp (cop_ok G _) (mono_cop _) (S.E W sc X G a ma h1) (S.E W sc X G b mb h2) (noSet_marks (cE_shape h2).2.1)
    | [op, op'], [b, c] =>
      simp only [cE] at h
      obtain ⟨ma, h1, h⟩ := Option.bind_eq_some_iff.mp h
      obtain ⟨mb, h2, h⟩ := Option.bind_eq_some_iff.mp h
      obtain ⟨mc, h3, h⟩ := Option.bind_eq_some_iff.mp h
      cases h
      unfold wE
      exact de_chain (cop_ok G op) (cop_ok G op') (mono_cop op) (mono_cop op') (S.E W sc X G a ma h1) (S.E W sc X G b mb h2) (S.E W sc X G c mc h3) (noSet_marks (cE_shape h3).2.1)
    | [], _ => simp only [cE, reduceCtorEq] at h
    | [_], [] => simp only [cE, reduceCtorEq] at h
    | [_], _ :: _ :: _ => simp only [cE, reduceCtorEq] at h
    | [_, _], [] => simp only [cE, reduceCtorEq] at h
    | [_, _], [_] => simp only [cE, reduceCtorEq] at h
    | [_, _], _ :: _ :: _ :: _ => simp only [cE, reduceCtorEq] at h
    | _ :: _ :: _ :: _, _ => simp only [cE, reduceCtorEq] at h
  | UnaryOp op a p =>
    cases op <;> simp only [cE, reduceCtorEq] at h
    · obtain ⟨ma, h1, h⟩ := Option.bind_eq_some_iff.mp h
      cases h
      unfold wE
      exact de_not (S.E W sc X G a ma h1)
    · obtain ⟨ma, h1, h⟩ := Option.bind_eq_some_iff.mp h
      cases h
      unfold wE
      exact de_neg (S.E W sc X G a ma h1)
  | BoolOp op es p =>
    simp only [cE] at h
    exact S.Bo W sc X G op es m p h
  | IfExp t a b p =>
    simp only [cE] at h
    obtain ⟨mt, h0, h⟩ := Option.bind_eq_some_iff.mp h
    obtain ⟨ma, h1, h⟩ := Option.bind_eq_some_iff.mp h
    obtain ⟨mb, h2, h⟩ := Option.bind_eq_some_iff.mp h
    cases h
    unfold wE
    exact de_if (S.T W sc X G t mt h0) (S.E W sc X G a ma h1) (S.E W sc X G b mb h2)
  | Tuple es j p =>
    simp only [cE] at h
    obtain ⟨as, h1, h⟩ := Option.bind_eq_some_iff.mp h
    cases h
    unfold wE
    exact de_tup (S.AS W sc X G es as h1)
  | Dict ks vs p =>
    simp only [cE] at h
    obtain ⟨kvs, h1, rfl⟩ := Option.map_eq_some_iff.mp h
    unfold wE
    exact de_dcn h1
  | List es p =>
    simp only [cE] at h
    obtain ⟨as, h1, h⟩ := Option.bind_eq_some_iff.mp h
    cases h
    unfold wE
    exact de_lst (S.AS W sc X G es as h1)
  | JoinedStr vs p =>
    match vs with
    | [] => simp only [cE, reduceCtorEq] at h
    | [_] => simp only [cE, reduceCtorEq] at h
    | v1 :: v2 :: vs =>
      simp only [cE] at h
      obtain ⟨as, h1, h⟩ := Option.bind_eq_some_iff.mp h
      cases h
      unfold wE
      exact de_fs (S.J W sc X G _ as h1)
  | Attribute o f p =>
    simp only [cE] at h
    split at h
    · rename_i hab
      obtain ⟨mo, h1, h⟩ := Option.bind_eq_some_iff.mp h
      cases h
      unfold wE
      refine de_attr (S.E W sc X G o mo h1) (fun c p hl => ?_) (fun c hc => ?_) (abOk_base hab)
      · obtain ⟨_, q, g1, g2, g3⟩ := propsOf_get hl
        have hcal := G.cal p q (by simpa using g1) X W G.amb G.tk
        unfold PatSem at hcal
        rw [g2, g3] at hcal
        exact hcal
      · obtain ⟨_, cl, g1, g2⟩ := fldCls_get hc
        have g1 : C.clss[c]? = some cl := by simpa using g1
        have hlt : c < B.nc := by rw [G.nc]; exact (List.getElem?_eq_some_iff.mp g1).1
        rw [G.amb.K]
        exact ⟨(G.kit.ins c hlt).cl, (G.cls c cl g1).2 f g2⟩
    · cases h
  | Subscript a b p =>
    simp only [cE] at h
    obtain ⟨ma, h1, h⟩ := Option.bind_eq_some_iff.mp h
    split at h
    · rename_i hr
      cases h
      obtain ⟨k, p1, p2, p3, rfl⟩ := isRev_get hr
      unfold wE
      exact de_rev G.amb.K (S.E W sc X G a ma h1)
    split at h
    · rename_i hr
      cases h
      obtain ⟨k, p1, p3, rfl⟩ := isTwo_get hr
      unfold wE
      exact de_two G.amb.K (S.E W sc X G a ma h1)
    · split at h
      · obtain ⟨ml, h2, h⟩ := Option.bind_eq_some_iff.mp h
        obtain ⟨mh, h3, h⟩ := Option.bind_eq_some_iff.mp h
        cases h
        unfold wE
        exact de_sl G.amb.K (S.E W sc X G a ma h1) (S.O W sc X G _ ml h2) (S.O W sc X G _ mh h3)
      · obtain ⟨mb, h2, h⟩ := Option.bind_eq_some_iff.mp h
        cases h
        have hpl := plainIx_of (cE_shape h2).2.2
        unfold ixM
        split
        · rename_i i hi
          obtain ⟨x, px, rfl, hv⟩ := nmSlot_get hi
          unfold wE
          exact de_ixP G.amb.K (var_pe G hv) (S.E W sc X G b mb h2) hpl
        · unfold wE
          exact de_ix G.amb.K (S.E W sc X G a ma h1) (S.E W sc X G b mb h2) hpl
  | Call f es kws p =>
    cases f <;> try (simp only [cE, reduceCtorEq] at h; done)
    · rename_i o m ap
      simp only [cE] at h
      split at h
      · rename_i hc
        simp only [Bool.and_eq_true, decide_eq_true_eq] at hc
        obtain ⟨⟨⟨hc1, hc2⟩, hc3⟩, hc4⟩ := hc
        split at h
        · rename_i f hf
          split at h
          · obtain ⟨mo, h1, h⟩ := Option.bind_eq_some_iff.mp h
            obtain ⟨ma, h2, h⟩ := Option.bind_eq_some_iff.mp h
            cases h
            unfold wE
            have en := bmOf_nm hf
            subst en
            exact de_bm G.amb.K f (S.E W sc X G o mo h1) (S.E W sc X G _ ma h2) (cE_shape h2).1 (abOk_base hc2) hc1
          · cases h
        · obtain ⟨mo, h1, h⟩ := Option.bind_eq_some_iff.mp h
          obtain ⟨as, h2, h⟩ := Option.bind_eq_some_iff.mp h
          obtain ⟨ks, h3, h⟩ := Option.bind_eq_some_iff.mp h
          cases h
          unfold wE
          obtain ⟨a1, a2, a3⟩ := S.AB W sc X G [] es as h2
          refine de_meth (S.E W sc X G o mo h1) a1 (S.K W sc X G kws ks h3) (fun c p hl => ?_) a2 (fun k hk => List.all_eq_true.mp hc3 k hk) rfl a3 (abOk_base hc2) hc4 hc1
          obtain ⟨_, q, g1, g2, g3, g4, g5⟩ := methsOf_get hl
          have hcal := G.cal p q (by simpa using g1) X W G.amb G.tk
          unfold PatSem at hcal
          rw [g2] at hcal
          simp only at hcal
          rw [g3, g4, g5] at hcal
          exact hcal
      · cases h
    rename_i x px
    simp only [cE] at h
    split at h
    · rename_i hc
      rw [Bool.and_eq_true, Bool.and_eq_true] at hc
      obtain ⟨⟨hc1, hc2⟩, hc3⟩ := hc
      have hd := (okNm_1 hc2).1
      split at h
      · rename_i pr body scope hlm
        obtain ⟨rfl, lp, rfl⟩ := lamOf_get hlm
        obtain ⟨tl, h1, h⟩ := Option.bind_eq_some_iff.mp h
        obtain ⟨mb, h2, h⟩ := Option.bind_eq_some_iff.mp h
        cases h
        exact tell_E SL G hc1 hd h1 h2
      split at h
      · rename_i e0 hso
        obtain ⟨rfl, rfl, rfl, f4⟩ := stoOf_get hso
        obtain ⟨ma, h1, h⟩ := Option.bind_eq_some_iff.mp h
        cases h
        unfold wE
        refine de_sto (fun c p hl => ?_) (G.gl hc1) (G.free (by decide +kernel)) (S.E W sc X G e0 ma h1) (isSt_no f4)
        obtain ⟨_, q, g1, g2⟩ := stosOf_get hl
        have hcal := G.cal p q (by simpa using g1) X W G.amb G.tk
        unfold PatSem at hcal
        rw [g2] at hcal
        exact hcal
      split at h
      · rename_i e0 hso
        obtain ⟨rfl, rfl, rfl, f4⟩ := rpoOf_get hso
        obtain ⟨ma, h1, h⟩ := Option.bind_eq_some_iff.mp h
        cases h
        unfold wE
        refine de_rpo G.amb.K G.amb.gd (by have := G.units; omega) (fun c p hl => ?_) (G.gl hc1) (G.free (by decide +kernel)) (S.E W sc X G e0 ma h1) (isSt_no f4)
        obtain ⟨_, q, g1, g2⟩ := rposOf_get hl
        have hcal := G.cal p q (by simpa using g1) X W G.amb G.tk
        unfold PatSem at hcal
        rw [g2] at hcal
        exact hcal
      split at h
      · rename_i pi q hq
        obtain ⟨as, h1, h⟩ := Option.bind_eq_some_iff.mp h
        obtain ⟨ks, h2, h⟩ := Option.bind_eq_some_iff.mp h
        cases h
        unfold wE
        obtain ⟨_, g1, g0, g2, g3, g4⟩ := findPat_get hq
        obtain ⟨a1, a2, a3⟩ := S.AB W sc X G q.bx es as h1
        have hcal := G.cal pi q (by simpa using g1) X W G.amb G.tk
        unfold PatSem at hcal
        rw [g0] at hcal
        simp only at hcal
        rw [g2, g3] at hcal
        exact de_call hcal (G.gl hc1) hd a1 (S.K W sc X G kws ks h2) a2 (fun k hk => List.all_eq_true.mp hc3 k hk) g4.symm a3
      · split at h
        · rename_i c cl hcn
          obtain ⟨_, j1, j2⟩ := clsNo_get hcn
          have j1 : C.clss[c]? = some cl := by simpa using j1
          split at h
          · rename_i pi q hq
            obtain ⟨as, h1, h⟩ := Option.bind_eq_some_iff.mp h
            obtain ⟨ks, h2, h⟩ := Option.bind_eq_some_iff.mp h
            cases h
            unfold wE
            obtain ⟨_, g1, g0, g2, g3, g4⟩ := findPat_get hq
            obtain ⟨a1, a2, a3⟩ := S.AB W sc X G q.bx es as h1
            have hcal := G.cal pi q (by simpa using g1) X W G.amb G.tk
            unfold PatSem at hcal
            rw [g0] at hcal
            simp only at hcal
            rw [g3] at hcal
            refine de_make hcal (by rw [G.amb.mg, ← j2]; exact (G.cls c cl j1).1) (G.gl hc1) hd a1 (S.K W sc X G kws ks h2) a2 (fun k hk => List.all_eq_true.mp hc3 k hk) g4.symm a3
          · cases h
        split at h
        · rename_i e0 hss
          obtain ⟨f1, f2, f3, f4, p1, p2, f5⟩ := ssetOf_get hss
          subst f1 f2 f5
          obtain ⟨ma, h1, h⟩ := Option.bind_eq_some_iff.mp h
          cases h
          unfold wE
          exact de_sset G.calm (G.gl hc1) (G.free (by decide +kernel)) (G.gl f3) (G.free (by decide +kernel)) (S.E W sc X G e0 ma h1) (isSt_no f4)
        split at h
        · rename_i a0 hlr
          obtain ⟨rfl, rfl, f3, p1, p2, f5⟩ := lrgOf_get hlr
          obtain ⟨ma, h1, h⟩ := Option.bind_eq_some_iff.mp h
          cases h
          rcases f5 with ⟨_, rfl⟩ | ⟨b, f5, _⟩
          · unfold wE
            exact de_lrg1 G.calm (G.gl hc1) (G.free (by decide +kernel)) (G.gl f3) (G.free (by decide +kernel)) (S.E W sc X G a0 ma h1) (cE_shape h1).1
          · cases f5
        · rename_i a0 b0 hlr
          obtain ⟨rfl, rfl, f3, p1, p2, f5⟩ := lrgOf_get hlr
          obtain ⟨ma, h1, h⟩ := Option.bind_eq_some_iff.mp h
          obtain ⟨mb, h2, h⟩ := Option.bind_eq_some_iff.mp h
          cases h
          rcases f5 with ⟨f5, _⟩ | ⟨b, f5, rfl⟩
          · cases f5
          · cases f5
            unfold wE
            exact de_lrg2 G.calm (G.gl hc1) (G.free (by decide +kernel)) (G.gl f3) (G.free (by decide +kernel)) (S.E W sc X G a0 ma h1) (S.E W sc X G b0 mb h2) (cE_shape h1).1 (cE_shape h2).1
        · split at h
          · obtain ⟨f, h1, h⟩ := Option.bind_eq_some_iff.mp h
            obtain ⟨as, h2, h⟩ := Option.bind_eq_some_iff.mp h
            cases h
            unfold wE
            have en := biOf_nm h1
            subst en
            obtain ⟨a1, a2⟩ := S.Ar W sc X G _ as h2
            exact bi_ok G f hc1 hd a1 a2
          · cases h
    · cases h
  | ListComp elt gs scope p =>
    match gs with
    | [⟨tg, iter, ifs, ia⟩] =>
      simp only [cE] at h
      split at h
      · rename_i e0
        subst e0
        exact (S.L W sc X G elt tg iter ifs scope m p h).1
      · cases h
    | [] => simp only [cE, reduceCtorEq] at h
    | _ :: _ :: _ => simp only [cE, reduceCtorEq] at h
  | _ => simp only [cE, reduceCtorEq] at h
end
end Ev
set_option Elab.async false
set_option linter.all false
set_option autoImplicit false
set_option maxRecDepth 100000
/-! Ev, part N: the other parts of the compiler; all together. -/
namespace Ev
open PySem PySem.Spec PyProof.Rows L2
section
variable {A : Amb} {B : Bg} {Γ : Nat → Gam} {C : CC} {W : WX} {sc : Scope} {X : Cx} {n : Nat}
theorem step_Bo (S : Snd A B Γ C n) (G : GC A B Γ C W sc X) (op : BoolOp) (es : List Expr) (m : ME) (pos : Pos) (h : cB (n + 1) C sc op es = some m) : DE B W X (.BoolOp op es pos) (wE Γ m) := by
  match es with
  | [] => simp only [cB, reduceCtorEq] at h
  | [a] =>
    simp only [cB] at h
    exact de_one (S.E W sc X G a m h)
  | a :: b :: r =>
    simp only [cB] at h
    obtain ⟨ma, h1, h⟩ := Option.bind_eq_some_iff.mp h
    obtain ⟨mb, h2, h⟩ := Option.bind_eq_some_iff.mp h
    cases op <;> cases h <;> unfold wE
    · exact de_and (S.E W sc X G a ma h1) (S.Bo W sc X G _ _ mb pos h2)
    · exact de_or (S.E W sc X G a ma h1) (S.Bo W sc X G _ _ mb pos h2)
theorem step_TB (S : Snd A B Γ C n) (G : GC A B Γ C W sc X) (op : BoolOp) (es : List Expr) (m : MT) (pos : Pos) (h : cTB (n + 1) C sc op es = some m) : DW B W X (.BoolOp op es pos) (wT Γ m) := by
  match es with
  | [] => simp only [cTB, reduceCtorEq] at h
  | [a] =>
    simp only [cTB] at h
    cases op
    · exact dw_and1 (S.T W sc X G a m h)
    · exact dw_or1 (S.T W sc X G a m h)
  | a :: b :: r =>
    simp only [cTB] at h
    obtain ⟨ma, h1, h⟩ := Option.bind_eq_some_iff.mp h
    obtain ⟨mb, h2, h⟩ := Option.bind_eq_some_iff.mp h
    cases op <;> cases h <;> unfold wT
    · exact dw_and (S.T W sc X G a ma h1) (S.TB W sc X G _ _ mb pos h2)
    · exact dw_or (S.T W sc X G a ma h1) (S.TB W sc X G _ _ mb pos h2)
theorem step_T (S : Snd A B Γ C n) (G : GC A B Γ C W sc X) (e : Expr) (m : MT) (h : cT (n + 1) C sc e = some m) : DT B W X e (wT Γ m) := by
  cases e with
  | BoolOp op es p =>
    simp only [cT] at h
    exact (S.TB W sc X G op es m p h).dt
  | UnaryOp op a p =>
    cases op <;> simp only [cT, reduceCtorEq] at h
    obtain ⟨t, h1, h⟩ := Option.bind_eq_some_iff.mp h
    cases h
    unfold wT
    exact dt_not (S.T W sc X G a t h1)
  | Compare a ops bs p =>
    match ops, bs with
    | [op], [b] =>
      simp only [cT] at h
      obtain ⟨ma, h1, h⟩ := Option.bind_eq_some_iff.mp h
      obtain ⟨mb, h2, h⟩ := Option.bind_eq_some_iff.mp h
      cases h
      have hu : X.A.units + 64 < cLine := by have := G.units; omega
      have hp := cmps_ok G
      unfold wT cmpM
      split
      · unfold wE
        exact dt_eqo (neg := false) G.amb.K hu hp (S.E W sc X G a ma h1) (S.E W sc X G b mb h2) (noSet_marks (cE_shape h2).2.1)
      · unfold wE
        exact dt_eqo (neg := true) G.amb.K hu hp (S.E W sc X G a ma h1) (S.E W sc X G b mb h2) (noSet_marks (cE_shape h2).2.1)
      · unfold wE
        exact dt_cmp (cop_ok G _) (mono_cop _) (S.E W sc X G a ma h1) (S.E W sc X G b mb h2) (noSet_marks (cE_shape h2).2.1)
    | [op, op'], [b, c] =>
      simp only [cT] at h
      obtain ⟨ma, h1, h⟩ := Option.bind_eq_some_iff.mp h
      obtain ⟨mb, h2, h⟩ := Option.bind_eq_some_iff.mp h
      obtain ⟨mc, h3, h⟩ := Option.bind_eq_some_iff.mp h
      cases h
      unfold wT wE
      exact dt_chain (cop_ok G op) (cop_ok G op') (mono_cop op) (mono_cop op') (S.E W sc X G a ma h1) (S.E W sc X G b mb h2) (S.E W sc X G c mc h3) (noSet_marks (cE_shape h3).2.1)
    | [], _ => simp only [cT, reduceCtorEq] at h
    | [_], [] => simp only [cT, reduceCtorEq] at h
    | [_], _ :: _ :: _ => simp only [cT, reduceCtorEq] at h
    | [_, _], [] => simp only [cT, reduceCtorEq] at h
    | [_, _], [_] => simp only [cT, reduceCtorEq] at h
    | [_, _], _ :: _ :: _ :: _ => simp only [cT, reduceCtorEq] at h
    | _ :: _ :: _ :: _, _ => simp only [cT, reduceCtorEq] at h
  | Name x p =>
    simp only [cT] at h
    obtain ⟨t, h1, h⟩ := Option.bind_eq_some_iff.mp h
    cases h
    unfold wT
    exact dt_val (S.E W sc X G _ t h1) (by intro _; rfl)
  | Call f es ks p =>
    simp only [cT] at h
    obtain ⟨t, h1, h⟩ := Option.bind_eq_some_iff.mp h
    cases h
    unfold wT
    exact dt_val (S.E W sc X G _ t h1) (by intro _; rfl)
  | Subscript a b p =>
    simp only [cT] at h
    obtain ⟨t, h1, h⟩ := Option.bind_eq_some_iff.mp h
    cases h
    unfold wT
    exact dt_val (S.E W sc X G _ t h1) (by intro _; rfl)
  | Attribute a b p =>
    simp only [cT] at h
    obtain ⟨t, h1, h⟩ := Option.bind_eq_some_iff.mp h
    cases h
    unfold wT
    exact dt_val (S.E W sc X G _ t h1) (by intro _; rfl)
  | _ => simp only [cT, reduceCtorEq] at h
theorem step_Ar (S : Snd A B Γ C n) (G : GC A B Γ C W sc X) (es : List Expr) (m : MA) (h : cA (n + 1) C sc es = some m) : DA B W X es (wA Γ m) ∧ ∀ e ∈ es, ∀ x p, e ≠ .Starred x p := by
  match es with
  | [] =>
    simp only [cA, Option.some.injEq] at h
    subst h
    unfold wA
    exact ⟨da_nil, fun e he => by cases he⟩
  | e :: r =>
    simp only [cA] at h
    obtain ⟨me, h1, h⟩ := Option.bind_eq_some_iff.mp h
    obtain ⟨mr, h2, h⟩ := Option.bind_eq_some_iff.mp h
    cases h
    unfold wA
    obtain ⟨i1, i2⟩ := S.Ar W sc X G r mr h2
    have hs := (cE_shape h1).1
    refine ⟨da_cons (S.E W sc X G e me h1) i1 hs, fun x hx => ?_⟩
    rcases List.mem_cons.mp hx with z | z
    · rw [z]; exact hs
    · exact i2 x z
theorem step_AS (S : Snd A B Γ C n) (G : GC A B Γ C W sc X) (es : List Expr) (m : MA) (h : cAS (n + 1) C sc es = some m) : DA B W X es (wA Γ m) := by
  match es with
  | [] =>
    simp only [cAS, Option.some.injEq] at h
    subst h
    unfold wA
    exact da_nil
  | e :: r =>
    have gen : (∀ x p, e ≠ .Starred x p) → ((cE n C sc e).bind fun m => (cAS n C sc r).bind fun as => some (MA.cons m as)) = some m → DA B W X (e :: r) (wA Γ m) := fun hs h => by
      obtain ⟨me, h1, h⟩ := Option.bind_eq_some_iff.mp h
      obtain ⟨mr, h2, h⟩ := Option.bind_eq_some_iff.mp h
      cases h
      unfold wA
      exact da_cons (S.E W sc X G e me h1) (S.AS W sc X G r mr h2) hs
    cases e <;> try exact gen (fun _ _ z => by cases z) (by simpa only [cAS] using h)
    simp only [cAS] at h
    obtain ⟨me, h1, h⟩ := Option.bind_eq_some_iff.mp h
    obtain ⟨mr, h2, h⟩ := Option.bind_eq_some_iff.mp h
    cases h
    unfold wA
    exact da_star G.amb.K (S.E W sc X G _ me h1) (S.AS W sc X G r mr h2)
theorem step_J (S : Snd A B Γ C n) (G : GC A B Γ C W sc X) (es : List Expr) (m : MA) (h : cJ (n + 1) C sc es = some m) : DJ B W X es (wJ Γ m) := by
  unfold cJ at h
  split at h
  · cases h
    unfold wJ
    exact .nil
  · obtain ⟨mr, h2, h⟩ := Option.bind_eq_some_iff.mp h
    cases h
    unfold wJ
    exact .con (S.J W sc X G _ mr h2)
  · obtain ⟨me, h1, h⟩ := Option.bind_eq_some_iff.mp h
    obtain ⟨mr, h2, h⟩ := Option.bind_eq_some_iff.mp h
    cases h
    unfold wJ
    exact .fmt (S.E W sc X G _ me h1) (S.J W sc X G _ mr h2)
  · cases h
theorem step_AB (S : Snd A B Γ C n) (G : GC A B Γ C W sc X) (bx : List Bool) (es : List Expr) (m : MA) (h : cAB (n + 1) C sc bx es = some m) : DA B W X es (wA Γ m) ∧ (∀ e ∈ es, ∀ x p, e ≠ .Starred x p) ∧ (es = [] → wA Γ m = dNil) := by
  match es with
  | [] =>
    simp only [cAB, Option.some.injEq] at h
    subst h
    unfold wA
    exact ⟨da_nil, (fun e he => by cases he), fun _ => rfl⟩
  | e :: r =>
    simp only [cAB] at h
    obtain ⟨me, h1, h⟩ := Option.bind_eq_some_iff.mp h
    obtain ⟨mr, h2, h⟩ := Option.bind_eq_some_iff.mp h
    cases h
    unfold wA
    obtain ⟨i1, i2, _⟩ := S.AB W sc X G bx.tail r mr h2
    have hs := (cE_shape h1).1
    refine ⟨da_cons ?_ i1 hs, fun x hx => ?_, fun z => by cases z⟩
    · split
      · unfold wE
        exact de_box (S.E W sc X G e me h1)
      · exact S.E W sc X G e me h1
    · rcases List.mem_cons.mp hx with z | z
      · rw [z]; exact hs
      · exact i2 x z
theorem step_K (S : Snd A B Γ C n) (G : GC A B Γ C W sc X) (ks : List Keyword) (m : MA) (h : cK (n + 1) C sc ks = some m) : DK B W X ks (wA Γ m) := by
  match ks with
  | [] =>
    simp only [cK, Option.some.injEq] at h
    subst h
    unfold wA
    exact dk_nil
  | ⟨nm, e, p⟩ :: r =>
    simp only [cK] at h
    obtain ⟨me, h1, h⟩ := Option.bind_eq_some_iff.mp h
    obtain ⟨mr, h2, h⟩ := Option.bind_eq_some_iff.mp h
    cases h
    unfold wA
    exact dk_cons (S.E W sc X G e me h1) (S.K W sc X G r mr h2)
theorem step_O (S : Snd A B Γ C n) (G : GC A B Γ C W sc X) (e : Option Expr) (m : MO) (h : cO (n + 1) C sc e = some m) : DO B W X e (wO Γ m) := by
  cases e with
  | none =>
    simp only [cO, Option.some.injEq] at h
    subst h
    unfold wO
    exact do_none
  | some e =>
    simp only [cO] at h
    obtain ⟨me, h1, h⟩ := Option.bind_eq_some_iff.mp h
    cases h
    unfold wO
    exact do_some (S.E W sc X G e me h1)
theorem any_I (S : Snd A B Γ C n) (G : GC A B Γ C W sc X) (tg e : Expr) (m : MI) (h : ((cE n C sc e).bind fun m => some (MI.any m)) = some m) : DI B W X tg e (wI Γ m) ∧ ∀ x, foldedSetIterable e X.env x = pure x := by
  obtain ⟨me, h1, h⟩ := Option.bind_eq_some_iff.mp h
  cases h
  unfold wI
  exact ⟨di_any G.amb.K (S.E W sc X G e me h1), noSet_fold (cE_shape h1).2.1⟩
theorem step_I (S : Snd A B Γ C n) (G : GC A B Γ C W sc X) (tg e : Expr) (m : MI) (h : cI (n + 1) C sc tg e = some m) : DI B W X tg e (wI Γ m) ∧ ∀ x, foldedSetIterable e X.env x = pure x := by
  have rg : ("range" : Str) ∈ bltNames := by decide +kernel
  have zp : ("zip" : Str) ∈ bltNames := by decide +kernel
  have en : ("enumerate" : Str) ∈ bltNames := by decide +kernel
  cases e with
  | Set a b c => simp only [cI, reduceCtorEq] at h
  | Call f es kws p =>
    cases f <;> try exact any_I S G tg _ m (by simpa only [cI] using h)
    rename_i x px
    match es, kws with
    | [a], [] =>
      simp only [cI] at h
      split at h
      · rename_i hc
        obtain ⟨rfl, hg⟩ := hc
        obtain ⟨as, h1, h⟩ := Option.bind_eq_some_iff.mp h
        cases h
        unfold wI
        obtain ⟨a1, a2⟩ := S.Ar W sc X G _ as h1
        exact ⟨di_range1 (G.gl hg) (G.free rg) a1 (a2 a (by simp)), fun _ => rfl⟩
      · split at h
        · rename_i hc
          obtain ⟨rfl, hg⟩ := hc
          split at h
          · obtain ⟨as, h1, h⟩ := Option.bind_eq_some_iff.mp h
            cases h
            unfold wI
            obtain ⟨a1, a2⟩ := S.Ar W sc X G _ as h1
            exact ⟨di_enum G.amb.K (G.gl hg) (G.free en) a1 (a2 a (by simp)), fun _ => rfl⟩
          · cases h
        · exact any_I S G tg _ m h
    | [a, b], [] =>
      simp only [cI] at h
      split at h
      · rename_i hc
        obtain ⟨rfl, hg⟩ := hc
        obtain ⟨as, h1, h⟩ := Option.bind_eq_some_iff.mp h
        cases h
        unfold wI
        obtain ⟨a1, a2⟩ := S.Ar W sc X G _ as h1
        exact ⟨di_range2 (G.gl hg) (G.free rg) a1 (a2 a (by simp)) (a2 b (by simp)), fun _ => rfl⟩
      · split at h
        · rename_i hc
          obtain ⟨rfl, hg⟩ := hc
          split at h
          · obtain ⟨as, h1, h⟩ := Option.bind_eq_some_iff.mp h
            cases h
            unfold wI
            obtain ⟨a1, a2⟩ := S.Ar W sc X G _ as h1
            exact ⟨di_zip G.amb.K (G.gl hg) (G.free zp) a1 (a2 a (by simp)) (a2 b (by simp)), fun _ => rfl⟩
          · cases h
        · exact any_I S G tg _ m h
    | [a, b, c], [] =>
      simp only [cI] at h
      split at h
      · rename_i hc
        obtain ⟨rfl, hg⟩ := hc
        obtain ⟨as, h1, h⟩ := Option.bind_eq_some_iff.mp h
        cases h
        unfold wI
        obtain ⟨a1, a2⟩ := S.Ar W sc X G _ as h1
        exact ⟨di_range3 (G.gl hg) (G.free rg) a1 (a2 a (by simp)) (a2 b (by simp)) (a2 c (by simp)), fun _ => rfl⟩
      · exact any_I S G tg _ m h
    | [], kws => exact any_I S G tg _ m (by simpa only [cI] using h)
    | [_], _ :: _ => exact any_I S G tg _ m (by simpa only [cI] using h)
    | [_, _], _ :: _ => exact any_I S G tg _ m (by simpa only [cI] using h)
    | [_, _, _], _ :: _ => exact any_I S G tg _ m (by simpa only [cI] using h)
    | _ :: _ :: _ :: _ :: _, kws => exact any_I S G tg _ m (by simpa only [cI] using h)
  | _ => exact any_I S G tg _ m (by simpa only [cI] using h)
/-! ### comprehensions -/
theorem takesW0 {X : Cx} : Takes X W0 := fun _ _ x => by
  obtain ⟨_, _, _, _, _, _, _, _, _, _, _, _, _, _, _, _, z⟩ := x
  exact z.elim
theorem GC.blk (G : GC A B Γ C W sc X) (s : Shared) (H : Hp) (scope : Scope) (Ca : Addr) (cl : List (Str × Addr)) (fp : List Addr) : GC A B Γ C W0 (relS scope sc) (X.blk s H scope (compEnvC scope cl Ca X.env) fp) where
  amb := ⟨G.amb.prog, G.amb.w, G.amb.K, G.amb.mg, G.amb.base, G.amb.room, G.amb.gd⟩
  sco := by rw [← G.sco]; rfl
  N := G.N
  nd := G.nd
  calm := G.calm
  tk := takesW0
  blt := G.blt
  glo := G.glo
  cal := G.cal
  kit := G.kit
  nc := G.nc
  cls := G.cls
  xf := G.xf
  tel := G.tel
  lamF := fun z => ⟨(G.lamF z).rm, (G.lamF z).tb⟩
theorem blk_pg (G : GC A B Γ C W sc X) {s : Shared} {H : Hp} {scope : Scope} {Ca : Addr} {cl : List (Str × Addr)} {fp : List Addr} {x : Str} {i : Nat} {p : Pos} (h : lSlot C (relS scope sc) x = some i) (hb : blkNm scope sc x = true) :
    PG (X.blk s H scope (compEnvC scope cl Ca X.env) fp) (.Name x p) (gName i) := by
  have GB := G.blk s H scope Ca cl fp
  unfold lSlot at h
  split at h
  · rename_i hc
    rw [Bool.and_eq_true] at hc
    refine pg_name (by rw [GB.N]; exact GB.nd) (by rw [GB.N]; exact slotOf_get h) (by rw [GB.sco]; exact locB_loc hc.1) ?_
    unfold blkNm at hb
    rw [Bool.or_eq_true] at hb
    rcases hb with z | z
    · exact .inl z
    · refine .inr ?_
      rw [GB.sco]
      exact eq_of_beq z
  · cases h
theorem blk_pgs (G : GC A B Γ C W sc X) {s : Shared} {H : Hp} {scope : Scope} {Ca : Addr} {cl : List (Str × Addr)} {fp : List Addr} : ∀ {es : List Expr} {is : List Nat}, slotsOf C (relS scope sc) es = some is →
    (es.all fun e => match e with | .Name x _ => blkNm scope sc x | _ => false) = true →
    PGs (X.blk s H scope (compEnvC scope cl Ca X.env) fp) es (gNms is) ∧ (assignEach es (compEnvC scope cl Ca X.env)).length = is.length ∧ (assignEach es (compEnvC scope cl Ca X.env)).findIdx? (·.1) = none
  | [], is, h, _ => by
    simp only [slotsOf, Option.some.injEq] at h
    subst h
    exact ⟨pgs_nil, rfl, rfl⟩
  | e :: es, is, h, hb => by
    cases e <;> try (simp only [slotsOf, reduceCtorEq] at h; done)
    rename_i x px
    simp only [slotsOf] at h
    obtain ⟨i, h1, h⟩ := Option.bind_eq_some_iff.mp h
    obtain ⟨r, h2, rfl⟩ := Option.map_eq_some_iff.mp h
    rw [List.all_cons, Bool.and_eq_true] at hb
    obtain ⟨i1, i2, i3⟩ := blk_pgs G (s := s) (H := H) (Ca := Ca) (cl := cl) (fp := fp) h2 hb.2
    refine ⟨pgs_cons (blk_pg G h1 hb.1) i1 rfl, ?_, ?_⟩
    · show (assignEach es (compEnvC scope cl Ca X.env)).length + 1 = _
      rw [i2]
      rfl
    · show List.findIdx? (·.1) ((false, _) :: assignEach es (compEnvC scope cl Ca X.env)) = none
      rw [List.findIdx?_cons, i3]
      rfl
theorem blk_ct (G : GC A B Γ C W sc X) {s : Shared} {H : Hp} {scope : Scope} {Ca : Addr} {cl : List (Str × Addr)} {fp : List Addr} {tg : Expr} {ct : CT} (h : ctOf C (relS scope sc) tg = some ct) (hb : blkNms scope sc tg = true) :
    PG (X.blk s H scope (compEnvC scope cl Ca X.env) fp) tg (tCT B.K ct) := by
  cases tg <;> try (simp only [ctOf, reduceCtorEq] at h; done)
  · obtain ⟨i, h1, rfl⟩ := Option.map_eq_some_iff.mp h
    exact blk_pg G h1 hb
  · rename_i els j pp
    obtain ⟨is, h1, rfl⟩ := Option.map_eq_some_iff.mp h
    obtain ⟨i1, i2, i3⟩ := blk_pgs G (s := s) (H := H) (Ca := Ca) (cl := cl) (fp := fp) h1 hb
    have q := pg_tup (X := X.blk s H scope (compEnvC scope cl Ca X.env) fp) (n := is.length) (k := j) (pos := pp) G.calm i1 i2 i3
    show PG _ _ (gTup B.K is.length (gNms is))
    rw [← G.amb.K]
    exact q
theorem dYes_mono : MonoT dYes := fun _ _ _ _ _ _ hk _ h => hk _ _ _ h
theorem step_L (S : Snd A B Γ C n) (G : GC A B Γ C W sc X) (elt tg iter : Expr) (ifs : List Expr) (scope : Scope) (m : ME) (pos : Pos) (h : cL (n + 1) C sc elt tg iter ifs scope = some m) : DE B W X (.ListComp elt [⟨tg, iter, ifs, 0⟩] scope pos) (wE Γ m) ∧
    ∀ (i : Nat) (y : Str) (py spos : Pos), C.N[i]? = some y → sc.names.lookup y = some .local → swapsWith (.ListComp elt [⟨tg, iter, ifs, 0⟩] scope pos) (some (.Name y py)) spos.line X.env = pure true →
      DS B W X (.Assign [.Name y py] (.ListComp elt [⟨tg, iter, ifs, 0⟩] scope pos) spos) (dSet i (wE Γ m)) := by
  simp only [cL] at h
  split at h
  · rename_i hc
    rw [Bool.and_eq_true] at hc
    obtain ⟨hc1, hc2⟩ := hc
    obtain ⟨mi, h1, h⟩ := Option.bind_eq_some_iff.mp h
    obtain ⟨ct, h2, h⟩ := Option.bind_eq_some_iff.mp h
    split at h
    · rename_i hsl
      obtain ⟨mt, h3, h⟩ := Option.bind_eq_some_iff.mp h
      obtain ⟨me, h4, h⟩ := Option.bind_eq_some_iff.mp h
      cases h
      unfold wE
      obtain ⟨i1, i2⟩ := S.I W sc X G tg iter mi h1
      have ok : BlkOk X.N X.env.scope scope (ownOf C.N scope.names) := by rw [G.N, G.sco]; exact blkOk_by hc1
      have hv : ∀ i ∈ ct.slots, i ∈ (ownOf C.N scope.names).map (·.2) := fun i hi => by
        have q := List.all_eq_true.mp hsl i hi
        exact List.contains_iff_mem.mp q
      have hg : ∀ (s : Shared) (H : Hp) (Ca : Addr) (cl : List (Str × Addr)) (fp : List Addr), PG (X.blk s H scope (compEnvC scope cl Ca X.env) fp) tg (tCT B.K ct) := fun s H Ca cl fp => blk_ct G h2 hc2
      have he : ∀ (s : Shared) (H : Hp) (Ca : Addr) (cl : List (Str × Addr)) (fp : List Addr), DE B W0 (X.blk s H scope (compEnvC scope cl Ca X.env) fp) elt (wE Γ me) := fun s H Ca cl fp => S.E W0 _ _ (G.blk s H scope Ca cl fp) elt me h4
      have ht : ∀ (s : Shared) (H : Hp) (Ca : Addr) (cl : List (Str × Addr)) (fp : List Addr), MonoT (wT Γ mt) ∧ PTs (X.blk s H scope (compEnvC scope cl Ca X.env) fp) ifs (tMT B W0 (wT Γ mt)) := fun s H Ca cl fp => by
        split at h3
        · cases h3
          unfold wT
          refine ⟨dYes_mono, ⟨fun pins s' σ H' Q I q => pts_nil.run pins s' σ H' Q I ?_⟩⟩
          obtain ⟨F, r, en, st, R, q⟩ := q
          exact q F r H' Step.refl R
        · have q := S.T W0 _ _ (G.blk s H scope Ca cl fp) _ mt h3
          exact ⟨q.mono, pts_one q.run⟩
        · cases h3
      have hN : X.N.Nodup := by rw [G.N]; exact G.nd
      have mm : MonoT (wT Γ mt) := (ht X.s_0 (fun _ => none) 0 [] []).1
      have me' : MonoE (wE Γ me) := (he X.s_0 (fun _ => none) 0 [] []).mono
      refine ⟨de_lc G.amb.K G.calm hN i1 ok mm me' hv hg (fun s H Ca cl fp => (ht s H Ca cl fp).2) (fun s H Ca cl fp => (he s H Ca cl fp).run) i2, fun i y py spos hy hl hsw => ?_⟩
      exact ds_setLc G.amb.K G.calm hN (by rw [G.N]; exact hy) (by rw [G.sco]; exact hl) hsw i1 ok mm me' hv hg (fun s H Ca cl fp => (ht s H Ca cl fp).2) (fun s H Ca cl fp => (he s H Ca cl fp).run) i2
    · cases h
  · cases h
end
theorem snd_any (A : Amb) (B : Bg) (Γ : Nat → Gam) : ∀ (n : Nat) (C : CC), Snd A B Γ C n
  | 0, C => by
    refine ⟨?_, ?_, ?_, ?_, ?_, ?_, ?_, ?_, ?_, ?_, ?_, ?_⟩
    · intro _ _ _ _ _ _ h; simp only [cE, reduceCtorEq] at h
    · intro _ _ _ _ _ _ _ _ _ _ _ h; simp only [cL, reduceCtorEq] at h
    · intro _ _ _ _ _ _ _ _ h; simp only [cB, reduceCtorEq] at h
    · intro _ _ _ _ _ _ h; simp only [cT, reduceCtorEq] at h
    · intro _ _ _ _ _ _ _ _ h; simp only [cTB, reduceCtorEq] at h
    · intro _ _ _ _ _ _ h; simp only [cAS, reduceCtorEq] at h
    · intro _ _ _ _ _ _ h; simp only [cJ, reduceCtorEq] at h
    · intro _ _ _ _ _ _ h; simp only [cA, reduceCtorEq] at h
    · intro _ _ _ _ _ _ _ h; simp only [cAB, reduceCtorEq] at h
    · intro _ _ _ _ _ _ h; simp only [cK, reduceCtorEq] at h
    · intro _ _ _ _ _ _ h; simp only [cO, reduceCtorEq] at h
    · intro _ _ _ _ _ _ _ h; simp only [cI, reduceCtorEq] at h
  | n + 1, C =>
    have S := snd_any A B Γ n C
    have SL := snd_any A B Γ n C.inLam
    ⟨fun W sc X G => step_E S SL G, fun W sc X G => step_L S G, fun W sc X G => step_Bo S G, fun W sc X G => step_T S G, fun W sc X G => step_TB S G, fun W sc X G => step_AS S G, fun W sc X G => step_J S G, fun W sc X G => step_Ar S G, fun W sc X G => step_AB S G, fun W sc X G => step_K S G, fun W sc X G => step_O S G, fun W sc X G => step_I S G⟩
theorem snd_all (A : Amb) (B : Bg) (Γ : Nat → Gam) (C : CC) (n : Nat) : Snd A B Γ C n := snd_any A B Γ n C
end Ev
set_option Elab.async false
set_option linter.all false
set_option autoImplicit false
set_option maxRecDepth 100000
/-! Ev, part O: statements of the text. -/
namespace Ev
open PySem PySem.Spec PyProof.Rows L2
def starB : Expr → Bool
  | .Starred .. => true
  | _ => false
def nmAt (sc : Scope) (line : Nat) : Expr → Option Str
  | .Name id pos => if sc.names.lookup id == some .local && pos.line == line then some id else none
  | _ => none
def swN (sc : Scope) (ts vs : List Expr) : Option (Option (List Str)) :=
  if !(ts.length == 2 || ts.length == 3) || vs.length != ts.length then some none
  else if vs.any starB then some none
  else
    let names := ts.filterMap (nmAt sc ((ts.head?.map (·.pos.line)).getD 0))
    if names.length != ts.length || names.eraseDups.length != names.length then some none
    else if vs.all (foldedForSure 8) then some none
    else if vs.all (constantsAlone 8) then none else some (some names)
theorem swN_ok {sc : Scope} {env : PySem.Env} {ts vs : List Expr} {k k' : Nat} {p p' : Pos} {r : Option (List Str)} (hs : env.scope = sc) (hk : sc.kind = .function) (h : swN sc ts vs = some r) : swappedStores [.Tuple ts k p] (.Tuple vs k' p') env = pure r := by
  have hb : env.blockKind = .function := by unfold Env.blockKind; rw [hs, hk]; rfl
  subst hs
  unfold swappedStores
  dsimp only
  unfold swN at h
  rw [hb]
  dsimp only at h
  generalize hL : ((ts.head?.map (·.pos.line)).getD 0) = L at h ⊢
  have e0 : (ScopeKind.function != ScopeKind.function) = false := by decide
  rw [e0, Bool.or_false]
  by_cases c1 : (!(ts.length == 2 || ts.length == 3) || vs.length != ts.length) = true
  · rw [if_pos c1] at h ⊢
    cases h
    rfl
  rw [if_neg c1] at h ⊢
  have e1 : (vs.any fun x => match x with | .Starred .. => true | _ => false) = vs.any starB := by
    congr 1
  by_cases c2 : vs.any starB = true
  · rw [if_pos c2] at h
    cases h
    exact if_pos c2
  rw [if_neg c2] at h
  refine (if_neg c2).trans ?_
  by_cases c3 : ((ts.filterMap (nmAt env.scope L)).length != ts.length || (ts.filterMap (nmAt env.scope L)).eraseDups.length != (ts.filterMap (nmAt env.scope L)).length) = true
  · rw [if_pos c3] at h
    cases h
    exact if_pos c3
  rw [if_neg c3] at h
  refine (if_neg c3).trans ?_
  by_cases c4 : vs.all (foldedForSure 8) = true
  · rw [if_pos c4] at h ⊢
    cases h
    rfl
  rw [if_neg c4] at h ⊢
  by_cases c5 : vs.all (constantsAlone 8) = true
  · rw [if_pos c5] at h
    cases h
  rw [if_neg c5] at h ⊢
  cases h
  rfl

/-- x, *xs -/
def starOf : List Expr → Option (Expr × Expr)
  | [a, .Starred b _] => some (a, b)
  | _ => none
theorem starOf_get {es : List Expr} {a b : Expr} (h : starOf es = some (a, b)) : ∃ p, es = [a, .Starred b p] := by
  unfold starOf at h
  split at h
  · cases h
    exact ⟨_, rfl⟩
  · cases h
mutual
def cG : Nat → CC → Scope → Expr → Option MG
  | 0, _, _, _ => none
  | n + 1, C, sc, e => match e with
    | .Name x _ => (lSlot C sc x).map .name
    | .Tuple es _ _ => (match starOf es with
      | some (a, b) => (cG n C sc a).bind fun g => (cG n C sc b).bind fun h => some (.star g h)
      | none => (cGs n C sc es).map (.tup es.length))
    | .Subscript (.Name x _) i _ => (vSlot C sc x).bind fun j => (cE n C sc i).bind fun m => some (.sub j m)
    | _ => none
def cGs : Nat → CC → Scope → List Expr → Option MGs
  | 0, _, _, _ => none
  | n + 1, C, sc, es => match es with
    | [] => some .nil
    | e :: r => (cG n C sc e).bind fun g => (cGs n C sc r).bind fun gs => some (.cons g gs)
end
def nodupB : List Nat → Bool
  | [] => true
  | i :: is => !is.contains i && nodupB is
def allLoc (sc : Scope) : List Expr → Bool
  | [] => true
  | .Name x _ :: es => (sc.names.lookup x == some .local) && allLoc sc es
  | _ => false
/-- x.append(a), x.extend(a), x a list of its own -/
def appOf (C : CC) (sc : Scope) (o : Expr) (mt : Str) (ap : Pos) (es : List Expr) (ks : List Keyword) (cp : Pos) : Option (Bool × Nat × Expr) := match o, es, ks with
  | .Name x _, [a], [] => if ap.endLine == cp.line then (if mt = "append" then (vSlot C sc x).map fun j => (true, j, a) else if mt = "extend" then (vSlot C sc x).map fun j => (false, j, a) else none) else none
  | _, _, _ => none
theorem appOf_get {C : CC} {sc : Scope} {o : Expr} {mt : Str} {ap : Pos} {es : List Expr} {ks : List Keyword} {cp : Pos} {b : Bool} {j : Nat} {a : Expr} (h : appOf C sc o mt ap es ks cp = some (b, j, a)) :
    ∃ x p, o = .Name x p ∧ es = [a] ∧ ks = [] ∧ (ap.endLine == cp.line) = true ∧ vSlot C sc x = some j ∧ mt = (if b = true then "append" else "extend") := by
  unfold appOf at h
  split at h
  · split at h
    · rename_i hl
      split at h
      · rename_i em
        obtain ⟨i, h1, h2⟩ := Option.map_eq_some_iff.mp h
        cases h2
        exact ⟨_, _, rfl, rfl, rfl, hl, h1, em⟩
      · split at h
        · rename_i em
          obtain ⟨i, h1, h2⟩ := Option.map_eq_some_iff.mp h
          cases h2
          exact ⟨_, _, rfl, rfl, rfl, hl, h1, em⟩
        · cases h
    · cases h
  · cases h
/-- x, y = a, b by a tuple: names that a block below reads -/
def parC (C : CC) (sc : Scope) (ts vs : List Expr) : Option (List Nat) := if !allLoc sc ts && !(vs.all (foldedForSure 8)) then (slotsOf C sc ts).bind fun is => if nodupB is && decide (is.length ≤ 10) then some is else none else none
theorem parC_get {C : CC} {sc : Scope} {ts vs : List Expr} {is : List Nat} (h : parC C sc ts vs = some is) : slotsOf C sc ts = some is ∧ is.length ≤ 10 := by
  unfold parC at h
  split at h
  · obtain ⟨is', h1, h⟩ := Option.bind_eq_some_iff.mp h
    split at h
    · rename_i hc
      rw [Bool.and_eq_true, decide_eq_true_eq] at hc
      cases h
      exact ⟨h1, hc.2⟩
    · cases h
  · cases h
/-- raise C(e), raise C() -/
def xcNo (x : Str) : List Xc → Nat → Option (Nat × Xc)
  | [], _ => none
  | c :: cs, i => if c.x = x then some (i, c) else xcNo x cs (i + 1)
theorem xcNo_get {x : Str} {i : Nat} {c : Xc} : ∀ {cs : List Xc} {j : Nat}, xcNo x cs j = some (i, c) → j ≤ i ∧ cs[i - j]? = some c ∧ c.x = x
  | [], j, h => by cases h
  | q :: qs, j, h => by
    unfold xcNo at h
    split at h
    · rename_i e
      cases h
      exact ⟨Nat.le_refl _, by rw [Nat.sub_self]; rfl, e⟩
    · obtain ⟨h1, h2, h3⟩ := xcNo_get h
      refine ⟨by omega, ?_, h3⟩
      have e : i - j = (i - (j + 1)) + 1 := by omega
      rw [e, List.getElem?_cons_succ]
      exact h2
def raisOf (C : CC) (sc : Scope) (a b : Option Expr) : Option (Nat × Option Expr) := match a, b with
  | some (.Call (.Name x _) es [] _), none => if gloB sc x && okNm x then (match xcNo x C.xcs 0 with
    | some (j, c) => (match c.fld, es with
      | some _, [e] => if isSt e then none else some (j, some e)
      | none, [] => some (j, none)
      | _, _ => none)
    | none => none) else none
  | _, _ => none
theorem raisOf_get {C : CC} {sc : Scope} {a b : Option Expr} {j : Nat} {o : Option Expr} (h : raisOf C sc a b = some (j, o)) : b = none ∧ ∃ x p es q c, a = some (.Call (.Name x p) es [] q) ∧ gloB sc x = true ∧ okNm x = true ∧ C.xcs[j]? = some c ∧ c.x = x ∧ ((∃ f e, c.fld = some f ∧ es = [e] ∧ isSt e = false ∧ o = some e) ∨ (c.fld = none ∧ es = [] ∧ o = none)) := by
  unfold raisOf at h
  split at h
  · rename_i x p es q
    split at h
    · rename_i hc
      rw [Bool.and_eq_true] at hc
      split at h
      · rename_i j' c hx
        obtain ⟨_, g1, g2⟩ := xcNo_get hx
        split at h
        · rename_i f e hf
          split at h
          · cases h
          · rename_i hs
            cases h
            exact ⟨rfl, x, p, _, q, c, rfl, hc.1, hc.2, by simpa using g1, g2, .inl ⟨f, _, hf, rfl, Bool.eq_false_iff.mpr hs, rfl⟩⟩
        · rename_i hf
          cases h
          exact ⟨rfl, x, p, _, q, c, rfl, hc.1, hc.2, by simpa using g1, g2, .inr ⟨hf, rfl, rfl⟩⟩
        · cases h
      · cases h
    · cases h
  · cases h
/-- a constant of a suite -/
def suC : Expr → Option D
  | .Constant (.str s) _ _ => some (.str s)
  | .Constant (.bool b) _ _ => some (.bl b)
  | .Constant .none _ _ => some .non
  | _ => none
def suM (C : CC) (sc : Scope) : List Stmt → Option MX
  | [.Return (some e) _] => (suC e).map .ret
  | [.Assign [.Name y _] e _] => if sc.names.lookup y == some .local then (lSlot C sc y).bind fun i => (suC e).map (.set i) else none
  | _ => none
def nmsB (C : CC) (sc : Scope) (ys : List Str) : Bool := ys.all fun y => C.xns.contains y && (gloB sc y && okNm y)
def cHd (C : CC) (sc : Scope) : ExceptHandler → Option (List Nat × MX)
  | .ExceptHandler (some te) none body _ => (exNames te).bind fun ys => if nmsB C sc ys then (suM C sc body).map fun m => (idxs (fun c => ys.any fun y => c.ups.contains y) C.xcs 0, m) else none
  | _ => none
def cHs (C : CC) (sc : Scope) : List ExceptHandler → Option (List (List Nat × MX))
  | [] => some []
  | h :: hs => (cHd C sc h).bind fun m => (cHs C sc hs).map (m :: ·)
def triOf (oe fin : List Stmt) (hds : List ExceptHandler) : Bool := match oe, fin, hds with
  | [], [], _ :: _ => true
  | _, _, _ => false
mutual
def cS : Nat → CC → Scope → Stmt → Option MS
  | 0, _, _, _ => none
  | n + 1, C, sc, s => match s with
    | .Pass _ => some .pass
    | .Break _ => some .brk
    | .Continue _ => some .cnt
    | .Raise a b _ => (match C.fl.rs with
      | false => some .never
      | true => (match raisOf C sc a b with
        | some (j, some e) => (cE n C sc e).bind fun m => some (.rais j (.cons m .nil))
        | some (j, none) => some (.rais j .nil)
        | none => some .never))
    | .Try body hds oe fin _ => if triOf oe fin hds then (cSs n C sc body).bind fun mb => (cHs C sc hds).bind fun l => some (.tri mb l) else none
    | .Expr (.Constant (.str _) _ _) _ => some .pass
    | .Expr (.Call (.Attribute o mt ap) es ks cp) _ => (match appOf C sc o mt ap es ks cp with
      | some (true, j, a) => (cE n C sc a).bind fun m => some (.app j m)
      | some (false, j, a) => (cE n C sc a).bind fun m => some (.ext j m)
      | none => (cE n C sc (.Call (.Attribute o mt ap) es ks cp)).bind fun m => some (.expr m))
    | .Expr (.Call (.Name x px) es ks p) _ => (cE n C sc (.Call (.Name x px) es ks p)).bind fun m => some (.expr m)
    | .Return none _ => some .retN
    | .Return (some (.Name x p)) _ => (match vSlot C sc x with
      | some i => some (.retv i)
      | none => (cE n C sc (.Name x p)).bind fun m => some (.ret m))
    | .Return (some e) _ => (cE n C sc e).bind fun m => some (.ret m)
    | .If t a b _ => (cT n C sc t).bind fun mt => (cSs n C sc a).bind fun ma => (cSs n C sc b).bind fun mb => some (.ifs mt ma mb)
    | .While t a [] _ => (cT n C sc t).bind fun mt => (cSs n C sc a).bind fun ma => some (.whil mt ma)
    | .For tg it a [] _ => (cI n C sc tg it).bind fun mi => (cG n C sc tg).bind fun g => (cSs n C sc a).bind fun ma => some (.forr mi g ma)
    | .Assign [.Name y _] (.ListComp elt [⟨tg, iter, ifs, ia⟩] scope _) _ => if ia = 0 then (lSlot C sc y).bind fun i => (cL n C sc elt tg iter ifs scope).bind fun m => some (.set i m) else none
    | .Assign [.Name y _] e _ => (lSlot C sc y).bind fun i => (cE n C sc e).bind fun m => some (.set i m)
    | .Assign [.Tuple ts k p] (.Tuple vs k' p') _ => (match swN sc ts vs with
      | some (some _) => if allLoc sc ts then (slotsOf C sc ts).bind fun is => if nodupB is then (cA n C sc vs).bind fun as => some (.par is as) else none else none
      | some none => (match parC C sc ts vs with
        | some is => (cA n C sc vs).bind fun as => some (.par is as)
        | none => (cE n C sc (.Tuple vs k' p')).bind fun m => (cG n C sc (.Tuple ts k p)).bind fun g => some (.asg m g))
      | none => none)
    | .Assign [.Tuple ts k p] e _ => (cE n C sc e).bind fun m => (cG n C sc (.Tuple ts k p)).bind fun g => some (.asg m g)
    | .Assign [.Attribute o f _] e _ => (cE n C sc e).bind fun m => (cE n C sc o).bind fun mo => some (.fld f (fldCls f C.clss 0) mo m)
    | .Assign [.Subscript o i p] e _ => (cE n C sc e).bind fun m => (cG n C sc (.Subscript o i p)).bind fun g => some (.asg m g)
    | .AugAssign (.Name x _) op e _ => (lSlot C sc x).bind fun i => (cE n C sc e).bind fun m => (match op with
      | .Add => some (.inc i m)
      | .Sub => some (.dec i m)
      | _ => none)
    | _ => none
def cSs : Nat → CC → Scope → List Stmt → Option MSs
  | 0, _, _, _ => none
  | n + 1, C, sc, ss => match ss with
    | [] => some .nil
    | s :: r => (cS n C sc s).bind fun m => (cSs n C sc r).bind fun mr => some (.cons m mr)
end
structure GS (A : Amb) (B : Bg) (Γ : Nat → Gam) (C : CC) (W : WX) (sc : Scope) (X : Cx) : Prop where
  gc : GC A B Γ C W sc X
  po : PassesOwn (model X.prog X.w) X.A X.env X.xe
  fn : ∀ x, X.fn x = true
  kd : sc.kind = .function
  stk : X.stack = X.env :: X.outer
  frm : X.env.frame = some X.env.locals
structure SndG (A : Amb) (B : Bg) (Γ : Nat → Gam) (C : CC) (n : Nat) : Prop where
  G : ∀ W sc X, GS A B Γ C W sc X → ∀ e g, cG n C sc e = some g → DG B W X e (wG Γ g) ∧ ∀ x p, e ≠ .Starred x p
  Gs : ∀ W sc X, GS A B Γ C W sc X → ∀ es gs, cGs n C sc es = some gs → DGs B W X es (wGs Γ gs) ∧ (assignEach es X.env).length = es.length ∧ (assignEach es X.env).findIdx? (·.1) = none
theorem each_ns {e : Expr} {es : List Expr} {env : PySem.Env} (h : ∀ x p, e ≠ .Starred x p) : assignEach (e :: es) env = (false, assign e env) :: assignEach es env := by
  cases e <;> first | rfl | exact absurd rfl (h _ _)
theorem lSlot_get {C : CC} {sc : Scope} {x : Str} {i : Nat} (h : lSlot C sc x = some i) : C.N[i]? = some x ∧ Loc sc x := by
  unfold lSlot at h
  split at h
  · rename_i hc
    rw [Bool.and_eq_true] at hc
    exact ⟨slotOf_get h, locB_loc hc.1⟩
  · cases h
theorem snd_G (A : Amb) (B : Bg) (Γ : Nat → Gam) (C : CC) : ∀ n, SndG A B Γ C n
  | 0 => ⟨fun _ _ _ _ _ _ h => by simp only [cG, reduceCtorEq] at h, fun _ _ _ _ _ _ h => by simp only [cGs, reduceCtorEq] at h⟩
  | n + 1 => by
    have S := snd_G A B Γ C n
    have SE := snd_all A B Γ C n
    refine ⟨fun W sc X G e g h => ?_, fun W sc X G es gs h => ?_⟩
    · cases e <;> try (simp only [cG, reduceCtorEq] at h; done)
      · rename_i o i p
        cases o <;> try (simp only [cG, reduceCtorEq] at h; done)
        rename_i x px
        simp only [cG] at h
        obtain ⟨j, h1, h⟩ := Option.bind_eq_some_iff.mp h
        obtain ⟨m, h2, h⟩ := Option.bind_eq_some_iff.mp h
        cases h
        unfold wG
        have hu := G.gc.units
        exact ⟨dg_sub (var_pe G.gc h1) (SE.E W sc X G.gc i m h2) (by omega) (cE_shape h2).2.2, fun _ _ z => by cases z⟩
      · rename_i x px
        simp only [cG] at h
        obtain ⟨i, h1, rfl⟩ := Option.map_eq_some_iff.mp h
        unfold wG
        obtain ⟨g1, g2⟩ := lSlot_get h1
        exact ⟨dg_name (pg_name (by rw [G.gc.N]; exact G.gc.nd) (by rw [G.gc.N]; exact g1) (by rw [G.gc.sco]; exact g2) (.inl (G.fn x))), fun _ _ z => by cases z⟩
      · rename_i es k p
        simp only [cG] at h
        split at h
        · rename_i a b hab
          obtain ⟨q, rfl⟩ := starOf_get hab
          obtain ⟨g1, h1, h⟩ := Option.bind_eq_some_iff.mp h
          obtain ⟨g2, h2, h⟩ := Option.bind_eq_some_iff.mp h
          cases h
          unfold wG
          obtain ⟨i1, i2⟩ := S.G W sc X G a g1 h1
          obtain ⟨j1, j2⟩ := S.G W sc X G b g2 h2
          exact ⟨dg_star G.gc.calm i1 j1 (by rw [each_ns i2]; rfl), fun _ _ z => by cases z⟩
        · obtain ⟨gs, h1, rfl⟩ := Option.map_eq_some_iff.mp h
          unfold wG
          obtain ⟨i1, i2, i3⟩ := S.Gs W sc X G es gs h1
          exact ⟨dg_tup G.gc.amb.K G.gc.calm i1 i2 i3, fun _ _ z => by cases z⟩
    · match es with
      | [] =>
        simp only [cGs, Option.some.injEq] at h
        subst h
        unfold wGs
        exact ⟨dgs_nil, rfl, rfl⟩
      | e :: r =>
        simp only [cGs] at h
        obtain ⟨g, h1, h⟩ := Option.bind_eq_some_iff.mp h
        obtain ⟨gr, h2, h⟩ := Option.bind_eq_some_iff.mp h
        cases h
        unfold wGs
        obtain ⟨i1, i2⟩ := S.G W sc X G e g h1
        obtain ⟨j1, j2, j3⟩ := S.Gs W sc X G r gr h2
        have ee := each_ns (es := r) (env := X.env) i2
        refine ⟨dgs_cons i1 j1 (by rw [ee]; rfl), by rw [ee, List.length_cons, j2, List.length_cons], ?_⟩
        rw [ee, List.findIdx?_cons, j3]
        rfl
structure SndS (A : Amb) (B : Bg) (Γ : Nat → Gam) (C : CC) (n : Nat) : Prop where
  S : ∀ W sc X, GS A B Γ C W sc X → ∀ s m, cS n C sc s = some m → DS B W X s (wS Γ m)
  Ss : ∀ W sc X, GS A B Γ C W sc X → ∀ s m, cSs n C sc s = some m → DSs B W X s (wSs Γ m)
def isComp : Expr → Bool
  | .ListComp .. => true
  | .SetComp .. => true
  | .DictComp .. => true
  | _ => false
theorem noComp_sw {e : Expr} {t : Option Expr} {l : Nat} {env : PySem.Env} (h : isComp e = false) : swapsWith e t l env = pure false := by
  cases e <;> first | rfl | cases h
theorem cE_comp {n : Nat} {C : CC} {sc : Scope} {e : Expr} {m : ME} (h : cE n C sc e = some m) : isComp e = false ∨ ∃ elt tg iter ifs scope p, e = .ListComp elt [⟨tg, iter, ifs, 0⟩] scope p := by
  cases n with
  | zero => simp only [cE, reduceCtorEq] at h
  | succ n =>
    cases e <;> first | exact .inl rfl | skip
    · rename_i elt gs scope p
      match gs with
      | [⟨tg, iter, ifs, ia⟩] =>
        simp only [cE] at h
        split at h
        · rename_i e0
          subst e0
          exact .inr ⟨elt, tg, iter, ifs, scope, p, rfl⟩
        · cases h
      | [] => simp only [cE, reduceCtorEq] at h
      | _ :: _ :: _ => simp only [cE, reduceCtorEq] at h
    · simp only [cE, reduceCtorEq] at h
    · simp only [cE, reduceCtorEq] at h
theorem allLoc_get {sc : Scope} {x : Str} {p : Pos} : ∀ {ts : List Expr}, allLoc sc ts = true → .Name x p ∈ ts → sc.names.lookup x = some .local
  | [], _, h => by cases h
  | t :: ts, h, hm => by
    cases t <;> try (simp only [allLoc, reduceCtorEq] at h; done)
    simp only [allLoc, Bool.and_eq_true] at h
    rcases List.mem_cons.mp hm with z | z
    · cases z
      exact eq_of_beq h.1
    · exact allLoc_get h.2 z
end Ev
set_option Elab.async false
set_option linter.all false
set_option autoImplicit false
set_option maxRecDepth 100000
/-! Ev, part P: the small syntax of a statement tells what the statement does. -/
namespace Ev
open PySem PySem.Spec PyProof.Rows L2
theorem fm_names {sc : Scope} {L : Nat} : ∀ {ts : List Expr} {ns : List Str}, namesOf ts = some ns → (ts.filterMap (nmAt sc L)).length = ts.length → ts.filterMap (nmAt sc L) = ns
  | [], ns, h, _ => by
    simp only [namesOf, Option.some.injEq] at h
    subst h
    rfl
  | t :: ts, ns, h, hl => by
    cases t <;> try (simp only [namesOf, reduceCtorEq] at h; done)
    rename_i x p
    simp only [namesOf] at h
    obtain ⟨r, h1, rfl⟩ := Option.map_eq_some_iff.mp h
    rw [List.filterMap_cons] at hl ⊢
    have hle := List.length_filterMap_le (nmAt sc L) ts
    cases q : nmAt sc L (.Name x p) with
    | none =>
      rw [q] at hl
      dsimp only at hl
      rw [List.length_cons] at hl
      omega
    | some y =>
      rw [q] at hl
      dsimp only at hl ⊢
      rw [List.length_cons, List.length_cons] at hl
      rw [fm_names h1 (by omega)]
      simp only [nmAt] at q
      split at q
      · cases q; rfl
      · cases q
theorem swN_names {sc : Scope} {ts vs : List Expr} {names ns : List Str} (h : swN sc ts vs = some (some names)) (hn : namesOf ts = some ns) : names = ns ∧ (ts.length = 2 ∨ ts.length = 3) ∧ vs.length = ts.length := by
  unfold swN at h
  dsimp only at h
  by_cases c1 : (!(ts.length == 2 || ts.length == 3) || vs.length != ts.length) = true
  · rw [if_pos c1] at h; cases h
  rw [if_neg c1] at h
  by_cases c2 : vs.any starB = true
  · rw [if_pos c2] at h; cases h
  rw [if_neg c2] at h
  split at h
  · cases h
  rename_i c3
  split at h
  · cases h
  split at h
  · cases h
  cases h
  simp only [Bool.or_eq_true, bne_iff_ne, ne_eq, not_or, Decidable.not_not, Bool.not_eq_true', Bool.or_eq_false_iff, beq_eq_false_iff_ne] at c1 c3
  refine ⟨fm_names hn c3.1, ?_, c1.2⟩
  have := c1.1
  omega
theorem slots_names {C : CC} {sc : Scope} : ∀ {ts : List Expr} {is : List Nat}, slotsOf C sc ts = some is → ∃ ns, namesOf ts = some ns
  | [], _, _ => ⟨[], rfl⟩
  | t :: ts, is, h => by
    cases t <;> try (simp only [slotsOf, reduceCtorEq] at h; done)
    simp only [slotsOf] at h
    obtain ⟨i, h1, h⟩ := Option.bind_eq_some_iff.mp h
    obtain ⟨r, h2, rfl⟩ := Option.map_eq_some_iff.mp h
    obtain ⟨ns, e⟩ := slots_names h2
    exact ⟨_, by simp only [namesOf, e]; rfl⟩
section
variable {A : Amb} {B : Bg} {Γ : Nat → Gam} {C : CC} {W : WX} {sc : Scope} {X : Cx} {n : Nat}
theorem set_S (G : GS A B Γ C W sc X) {y : Str} {py pos : Pos} {e : Expr} {i : Nat} {m : ME} (h1 : lSlot C sc y = some i) (hd : DE B W X e (wE Γ m)) (hs : swapsWith e (some (.Name y py)) pos.line X.env = pure false) : DS B W X (.Assign [.Name y py] e pos) (wS Γ (.set i m)) := by
  obtain ⟨g1, g2⟩ := lSlot_get h1
  unfold wS
  exact ds_set (by rw [G.gc.N]; exact G.gc.nd) (by rw [G.gc.N]; exact g1) (by rw [G.gc.sco]; exact g2) hd hs (.inl (G.fn y))
theorem setL_S (SE : Snd A B Γ C n) (G : GS A B Γ C W sc X) {y : Str} {py pos p : Pos} {elt tg iter : Expr} {ifs : List Expr} {scope : Scope} {i : Nat} {m : ME} (h1 : lSlot C sc y = some i) (h : cL n C sc elt tg iter ifs scope = some m) :
    DS B W X (.Assign [.Name y py] (.ListComp elt [⟨tg, iter, ifs, 0⟩] scope p) pos) (wS Γ (.set i m)) := by
  obtain ⟨l1, l2⟩ := SE.L W sc X G.gc elt tg iter ifs scope m p h
  obtain ⟨g1, g2⟩ := lSlot_get h1
  obtain ⟨b, hb, hb2⟩ : ∃ b, swapsWith (.ListComp elt [⟨tg, iter, ifs, 0⟩] scope p) (some (.Name y py)) pos.line X.env = pure b ∧ (b = true → X.env.kindOf y = some .local) := by
    refine ⟨X.env.blockKind == .function && X.env.kindOf y == some .local && py.line == (Expr.ListComp elt [⟨tg, iter, ifs, 0⟩] scope p).pos.line && !(scope.names.any fun (n, k) => n == y && (k == .local || k == .cell)), rfl, fun z => ?_⟩
    rw [Bool.and_eq_true, Bool.and_eq_true, Bool.and_eq_true] at z
    exact eq_of_beq z.1.1.2
  cases b with
  | false => exact set_S G h1 l1 hb
  | true =>
    unfold wS
    have q : X.env.scope.names.lookup y = some .local := hb2 rfl
    rw [G.gc.sco] at q
    exact l2 i y py pos g1 q hb
theorem asg_S (SE : Snd A B Γ C n) (SG : SndG A B Γ C n) (G : GS A B Γ C W sc X) {tg e : Expr} {pos : Pos} {m : ME} {g : MG} (h1 : cE n C sc e = some m) (h2 : cG n C sc tg = some g) (hw : swappedStores [tg] e X.env = pure none) (ht : ∀ x p, tg ≠ .Name x p) :
    DS B W X (.Assign [tg] e pos) (wS Γ (.asg m g)) := by
  unfold wS
  obtain ⟨i1, i2⟩ := SG.G W sc X G tg g h2
  refine ds_asg (SE.E W sc X G.gc e m h1) i1 ?_ hw (by rw [each_ns i2]; rfl)
  show swapsWith e (some tg) pos.line X.env = pure false
  rcases cE_comp h1 with hc | ⟨elt, tg', iter, ifs, scope, p, rfl⟩
  · exact noComp_sw hc
  · cases tg <;> first | rfl | exact absurd rfl (ht _ _)
theorem len2 {α : Type} : ∀ {l : List α}, l.length = 2 → ∃ a b, l = [a, b]
  | [a, b], _ => ⟨a, b, rfl⟩
theorem len3 {α : Type} : ∀ {l : List α}, l.length = 3 → ∃ a b c, l = [a, b, c]
  | [a, b, c], _ => ⟨a, b, c, rfl⟩
theorem dat_of {A : Amb} {B : Bg} {Γ : Nat → Gam} {C : CC} {W : WX} {sc : Scope} {X : Cx} (G : GC A B Γ C W sc X) : ∀ {n : Nat} (vs : List Expr) (as : MA), cA n C sc vs = some as → DAT B W X vs (wP Γ as)
  | 0, vs, as, h => by simp [cA] at h
  | n + 1, [], as, h => by
    simp only [cA, Option.some.injEq] at h
    subst h
    unfold wP
    exact dat_nil
  | n + 1, e :: r, as, h => by
    have h0 := ((snd_all A B Γ C (n + 1)).Ar W sc X G (e :: r) as h).2 e List.mem_cons_self
    simp only [cA] at h
    obtain ⟨m, h1, h⟩ := Option.bind_eq_some_iff.mp h
    obtain ⟨as', h2, h⟩ := Option.bind_eq_some_iff.mp h
    cases h
    unfold wP
    exact dat_cons ((snd_all A B Γ C n).E W sc X G e m h1) (dat_of G r as' h2) h0
theorem fn_pgs (G : GS A B Γ C W sc X) : ∀ {es : List Expr} {is : List Nat}, slotsOf C sc es = some is → PGs X es (gNms is) ∧ (assignEach es X.env).length = is.length ∧ (assignEach es X.env).findIdx? (·.1) = none
  | [], is, h => by
    simp only [slotsOf, Option.some.injEq] at h
    subst h
    exact ⟨pgs_nil, rfl, rfl⟩
  | e :: es, is, h => by
    cases e <;> try (simp only [slotsOf, reduceCtorEq] at h; done)
    rename_i x px
    simp only [slotsOf] at h
    obtain ⟨i, h1, h⟩ := Option.bind_eq_some_iff.mp h
    obtain ⟨r, h2, rfl⟩ := Option.map_eq_some_iff.mp h
    obtain ⟨i1, i2, i3⟩ := fn_pgs G h2
    obtain ⟨g1, g2⟩ := lSlot_get h1
    refine ⟨pgs_cons (pg_name (by rw [G.gc.N]; exact G.gc.nd) (by rw [G.gc.N]; exact g1) (by rw [G.gc.sco]; exact g2) (.inl (G.fn x))) i1 rfl, ?_, ?_⟩
    · show (assignEach es X.env).length + 1 = _
      rw [i2]
      rfl
    · show List.findIdx? (·.1) ((false, _) :: assignEach es X.env) = none
      rw [List.findIdx?_cons, i3]
      rfl
theorem par_S (SE : Snd A B Γ C n) (G : GS A B Γ C W sc X) {ts vs : List Expr} {k k' : Nat} {p p' pos : Pos} {names : List Str} {is : List Nat} {as : MA} (h0 : swN sc ts vs = some (some names)) (hl : allLoc sc ts = true) (h1 : slotsOf C sc ts = some is) (hn : nodupB is = true) (h2 : cA n C sc vs = some as) :
    DS B W X (.Assign [.Tuple ts k p] (.Tuple vs k' p') pos) (wS Γ (.par is as)) := by
  obtain ⟨ns, e1⟩ := slots_names h1
  obtain ⟨e2, hlen, hv⟩ := swN_names h0 e1
  subst e2
  have hw := swN_ok (k := k) (k' := k') (p := p) (p' := p') G.gc.sco G.kd h0
  have a1 := dat_of (n := n) G.gc vs as h2
  have hN : X.N.Nodup := by rw [G.gc.N]; exact G.gc.nd
  have loc : ∀ {x : Str} {q : Pos}, .Name x q ∈ ts → X.env.scope.names.lookup x = some .local := fun hm => by rw [G.gc.sco]; exact allLoc_get hl hm
  unfold wS
  rcases hlen with hlen | hlen
  · obtain ⟨t1, t2, rfl⟩ := len2 hlen
    obtain ⟨a, b, rfl⟩ := len2 hv
    cases t1 <;> try (simp only [slotsOf, reduceCtorEq] at h1; done)
    cases t2 <;> try (simp only [slotsOf, Option.bind_eq_some_iff, Option.map_eq_some_iff, reduceCtorEq, false_and, and_false, exists_false, exists_const] at h1; done)
    rename_i x px y py
    simp only [slotsOf] at h1
    obtain ⟨i, g1, h1⟩ := Option.bind_eq_some_iff.mp h1
    obtain ⟨r, h3, rfl⟩ := Option.map_eq_some_iff.mp h1
    obtain ⟨j, g2, h3⟩ := Option.bind_eq_some_iff.mp h3
    obtain ⟨r, h4, rfl⟩ := Option.map_eq_some_iff.mp h3
    cases h4
    simp only [namesOf, Option.map_some, Option.some.injEq] at e1
    subst e1
    have hij : i ≠ j := by
      simp only [nodupB, Bool.and_eq_true, Bool.not_eq_true', List.contains_cons, Bool.or_eq_false_iff, beq_eq_false_iff_ne] at hn
      exact hn.1.1
    exact ds_par2 G.gc.calm hN (by rw [G.gc.N]; exact (lSlot_get g1).1) (by rw [G.gc.N]; exact (lSlot_get g2).1) hij (loc (q := px) (.head _)) (loc (q := py) (.tail _ (.head _))) a1 hw
  · obtain ⟨t1, t2, t3, rfl⟩ := len3 hlen
    obtain ⟨a, b, c, rfl⟩ := len3 hv
    cases t1 <;> try (simp only [slotsOf, reduceCtorEq] at h1; done)
    cases t2 <;> try (simp only [slotsOf, Option.bind_eq_some_iff, Option.map_eq_some_iff, reduceCtorEq, false_and, and_false, exists_false, exists_const] at h1; done)
    cases t3 <;> try (simp only [slotsOf, Option.bind_eq_some_iff, Option.map_eq_some_iff, reduceCtorEq, false_and, and_false, exists_false, exists_const] at h1; done)
    rename_i x px y py z pz
    simp only [slotsOf] at h1
    obtain ⟨i, g1, h1⟩ := Option.bind_eq_some_iff.mp h1
    obtain ⟨r, h3, rfl⟩ := Option.map_eq_some_iff.mp h1
    obtain ⟨j, g2, h3⟩ := Option.bind_eq_some_iff.mp h3
    obtain ⟨r, h4, rfl⟩ := Option.map_eq_some_iff.mp h3
    obtain ⟨l, g3, h4⟩ := Option.bind_eq_some_iff.mp h4
    obtain ⟨r, h5, rfl⟩ := Option.map_eq_some_iff.mp h4
    cases h5
    simp only [namesOf, Option.map_some, Option.some.injEq] at e1
    subst e1
    simp only [nodupB, Bool.and_eq_true, Bool.not_eq_true', List.contains_cons, Bool.or_eq_false_iff, beq_eq_false_iff_ne] at hn
    exact ds_par3 G.gc.calm hN (by rw [G.gc.N]; exact (lSlot_get g1).1) (by rw [G.gc.N]; exact (lSlot_get g2).1) (by rw [G.gc.N]; exact (lSlot_get g3).1) hn.1.1 hn.1.2.1 hn.2.1.1 (loc (q := px) (.head _)) (loc (q := py) (.tail _ (.head _))) (loc (q := pz) (.tail _ (.tail _ (.head _)))) a1 hw
theorem step_Assign (SE : Snd A B Γ C n) (SG : SndG A B Γ C n) (G : GS A B Γ C W sc X) (tgs : List Expr) (e : Expr) (pos : Pos) (m : MS) (h : cS (n + 1) C sc (.Assign tgs e pos) = some m) : DS B W X (.Assign tgs e pos) (wS Γ m) := by
  match tgs with
  | [] => simp only [cS, reduceCtorEq] at h
  | _ :: _ :: _ => simp only [cS, reduceCtorEq] at h
  | [tg] =>
    cases tg <;> try (simp only [cS, reduceCtorEq] at h; done)
    · rename_i o f p
      simp only [cS] at h
      obtain ⟨me, h1, h⟩ := Option.bind_eq_some_iff.mp h
      obtain ⟨mo, h2, h⟩ := Option.bind_eq_some_iff.mp h
      cases h
      unfold wS
      refine ds_fld (SE.E W sc X G.gc e me h1) (SE.E W sc X G.gc o mo h2) (fun c hc => ?_) ?_
      · obtain ⟨_, cl, g1, g2⟩ := fldCls_get hc
        have g1 : C.clss[c]? = some cl := by simpa using g1
        have hlt : c < B.nc := by rw [G.gc.nc]; exact (List.getElem?_eq_some_iff.mp g1).1
        rw [G.gc.amb.K]
        exact ⟨(G.gc.kit.ins c hlt).cl, (G.gc.cls c cl g1).2 f g2⟩
      · rcases cE_comp h1 with hc | ⟨elt, tg', iter, ifs, scope, p, rfl⟩
        · exact noComp_sw hc
        · rfl
    · rename_i o i p
      simp only [cS] at h
      obtain ⟨me, h1, h⟩ := Option.bind_eq_some_iff.mp h
      obtain ⟨g, h2, h⟩ := Option.bind_eq_some_iff.mp h
      cases h
      exact asg_S SE SG G h1 h2 (by cases e <;> rfl) fun _ _ z => by cases z
    · rename_i y py
      have gen : isComp e = false → ((lSlot C sc y).bind fun i => (cE n C sc e).bind fun m => some (MS.set i m)) = some m → DS B W X (.Assign [.Name y py] e pos) (wS Γ m) := fun hc h => by
        obtain ⟨i, h1, h⟩ := Option.bind_eq_some_iff.mp h
        obtain ⟨me, h2, h⟩ := Option.bind_eq_some_iff.mp h
        cases h
        exact set_S G h1 (SE.E W sc X G.gc e me h2) (noComp_sw hc)
      cases e <;> try exact gen rfl (by simpa only [cS] using h)
      · rename_i elt gs scope p
        match gs with
        | [⟨tg, iter, ifs, ia⟩] =>
          simp only [cS] at h
          split at h
          · rename_i e0
            subst e0
            obtain ⟨i, h1, h⟩ := Option.bind_eq_some_iff.mp h
            obtain ⟨me, h2, h⟩ := Option.bind_eq_some_iff.mp h
            cases h
            exact setL_S SE G h1 h2
          · cases h
        | [] =>
          simp only [cS] at h
          obtain ⟨i, h1, h⟩ := Option.bind_eq_some_iff.mp h
          obtain ⟨me, h2, h⟩ := Option.bind_eq_some_iff.mp h
          cases n <;> simp only [cE, reduceCtorEq] at h2
        | _ :: _ :: _ =>
          simp only [cS] at h
          obtain ⟨i, h1, h⟩ := Option.bind_eq_some_iff.mp h
          obtain ⟨me, h2, h⟩ := Option.bind_eq_some_iff.mp h
          cases n <;> simp only [cE, reduceCtorEq] at h2
      · simp only [cS] at h
        obtain ⟨i, h1, h⟩ := Option.bind_eq_some_iff.mp h
        obtain ⟨me, h2, h⟩ := Option.bind_eq_some_iff.mp h
        cases n <;> simp only [cE, reduceCtorEq] at h2
      · simp only [cS] at h
        obtain ⟨i, h1, h⟩ := Option.bind_eq_some_iff.mp h
        obtain ⟨me, h2, h⟩ := Option.bind_eq_some_iff.mp h
        cases n <;> simp only [cE, reduceCtorEq] at h2
    · rename_i ts k p
      have gen : swappedStores [.Tuple ts k p] e X.env = pure none → ((cE n C sc e).bind fun m => (cG n C sc (.Tuple ts k p)).bind fun g => some (MS.asg m g)) = some m → DS B W X (.Assign [.Tuple ts k p] e pos) (wS Γ m) := fun hw h => by
        obtain ⟨me, h1, h⟩ := Option.bind_eq_some_iff.mp h
        obtain ⟨g, h2, h⟩ := Option.bind_eq_some_iff.mp h
        cases h
        exact asg_S SE SG G h1 h2 hw fun _ _ z => by cases z
      cases e <;> try exact gen rfl (by simpa only [cS] using h)
      rename_i vs k' p'
      simp only [cS] at h
      split at h
      · rename_i names hsw
        split at h
        · rename_i hl
          obtain ⟨is, h1, h⟩ := Option.bind_eq_some_iff.mp h
          split at h
          · rename_i hn
            obtain ⟨as, h2, h⟩ := Option.bind_eq_some_iff.mp h
            cases h
            exact par_S SE G hsw hl h1 hn h2
          · cases h
        · cases h
      · rename_i hsw
        split at h
        · rename_i is hpc
          obtain ⟨hsl, hle⟩ := parC_get hpc
          obtain ⟨as, h2, h⟩ := Option.bind_eq_some_iff.mp h
          cases h
          obtain ⟨i1, i2, i3⟩ := fn_pgs G hsl
          unfold wS
          exact ds_parT G.gc.calm i1 i2 i3 hle (dat_of (n := n) G.gc vs as h2) (swN_ok G.gc.sco G.kd hsw)
        · exact gen (swN_ok G.gc.sco G.kd hsw) h
      · cases h
theorem step_Expr (SE : Snd A B Γ C n) (G : GS A B Γ C W sc X) (e : Expr) (pos : Pos) (m : MS) (h : cS (n + 1) C sc (.Expr e pos) = some m) : DS B W X (.Expr e pos) (wS Γ m) := by
  cases e <;> try (simp only [cS, reduceCtorEq] at h; done)
  · rename_i f es ks cp
    cases f <;> try (simp only [cS, reduceCtorEq] at h; done)
    · rename_i o mt ap
      simp only [cS] at h
      split at h
      · rename_i j a hap
        obtain ⟨x, p, rfl, rfl, rfl, hl, hv, em⟩ := appOf_get hap
        rw [if_pos rfl] at em
        subst em
        obtain ⟨me, h2, h⟩ := Option.bind_eq_some_iff.mp h
        cases h
        unfold wS
        exact ds_append (var_pe G.gc hv) (SE.E W sc X G.gc a me h2) (cE_shape h2).1 hl
      · rename_i j a hap
        obtain ⟨x, p, rfl, rfl, rfl, hl, hv, em⟩ := appOf_get hap
        rw [if_neg Bool.false_ne_true] at em
        subst em
        obtain ⟨me, h2, h⟩ := Option.bind_eq_some_iff.mp h
        cases h
        unfold wS
        exact ds_extend G.gc.amb.K (var_pe G.gc hv) (SE.E W sc X G.gc a me h2) (cE_shape h2).1 hl
      · obtain ⟨me, h2, h⟩ := Option.bind_eq_some_iff.mp h
        cases h
        unfold wS
        exact ds_expr (SE.E W sc X G.gc _ me h2) rfl
    · simp only [cS] at h
      obtain ⟨me, h2, h⟩ := Option.bind_eq_some_iff.mp h
      cases h
      unfold wS
      exact ds_expr (SE.E W sc X G.gc _ me h2) rfl
  · rename_i c j cp
    cases c <;> simp only [cS, reduceCtorEq, Option.some.injEq] at h
    subst h
    unfold wS
    exact ds_doc
theorem suC_ok {X : Cx} {e : Expr} {d : D} (h : suC e = some d) : ∃ v, cV d = some v ∧ PE X e (tC v) := by
  unfold suC at h
  split at h <;> cases h
  · exact ⟨_, rfl, pe_str⟩
  · exact ⟨_, rfl, pe_bl⟩
  · exact ⟨_, rfl, pe_non⟩
theorem suC_comp {e : Expr} {d : D} (h : suC e = some d) : isComp e = false := by
  unfold suC at h
  split at h <;> first | rfl | cases h
theorem hds_ok (G : GS A B Γ C W sc X) : ∀ {hds : List ExceptHandler} {l : List (List Nat × MX)}, cHs C sc hds = some l → ∃ l', HdsD B X hds l l'
  | [], l, h => by
    simp only [cHs, Option.some.injEq] at h
    subst h
    exact ⟨_, .nil⟩
  | hd :: hds, l, h => by
    simp only [cHs] at h
    obtain ⟨m, h1, h⟩ := Option.bind_eq_some_iff.mp h
    obtain ⟨l0, h2, rfl⟩ := Option.map_eq_some_iff.mp h
    obtain ⟨l', ih⟩ := hds_ok G h2
    unfold cHd at h1
    split at h1
    · rename_i te body pos'
      obtain ⟨ys, g1, h1⟩ := Option.bind_eq_some_iff.mp h1
      split at h1
      · rename_i hn
        obtain ⟨mx, g2, rfl⟩ := Option.map_eq_some_iff.mp h1
        have hy : ∀ y ∈ ys, y ∈ C.xns ∧ gloB sc y = true ∧ okNm y = true := fun y hy => by
          have z := List.all_eq_true.mp hn y hy
          rw [Bool.and_eq_true, Bool.and_eq_true] at z
          exact ⟨List.contains_iff_mem.mp z.1, z.2⟩
        obtain ⟨vs, v1, v2⟩ := names_vals G.gc.xf g1 fun y h => (hy y h).1
        have T := v1 X G.gc.amb.mg fun y h => ⟨G.gc.gl (hy y h).2.1, (okNm_1 (hy y h).2.2).1⟩
        have his : ∀ (xn : Xn) (cls : Value) (d : Option Addr) (F : Hp) (r : List Addr), XRep B F r xn cls d → PySem.W.exmAny B.K cls vs = some ((idxs (fun c => ys.any fun y => c.ups.contains y) C.xcs 0).contains xn.1) := fun xn cls d F r xr => by
          obtain ⟨c, hc, ec⟩ := v2 xn cls d F r xr
          have z := idxs_at (P := fun c => ys.any fun y => c.ups.contains y) (k := 0) hc
          rw [Nat.zero_add] at z
          rw [z]
          exact ec
        unfold suM at g2
        split at g2
        · rename_i e p
          obtain ⟨d, g3, rfl⟩ := Option.map_eq_some_iff.mp g2
          obtain ⟨v, g4, _⟩ := suC_ok (X := X) g3
          refine ⟨_, .cons T g4 his (fun a oe cls d' pn _ _ => ?_) ih⟩
          obtain ⟨v', g5, g6⟩ := suC_ok (X := X.suite a ((a, oe) :: pn)) g3
          rw [g4] at g5
          cases g5
          exact pss_one (ps_ret g6)
        · split at g2
          · rename_i hl
            obtain ⟨i, g0, g2⟩ := Option.bind_eq_some_iff.mp g2
            obtain ⟨d, g3, rfl⟩ := Option.map_eq_some_iff.mp g2
            obtain ⟨v, g4, _⟩ := suC_ok (X := X) g3
            obtain ⟨z1, z2⟩ := lSlot_get g0
            refine ⟨_, .cons T g4 his (fun a oe cls d' pn _ _ => ?_) ih⟩
            obtain ⟨v', g5, g6⟩ := suC_ok (X := X.suite a ((a, oe) :: pn)) g3
            rw [g4] at g5
            cases g5
            exact pss_one (ps_set (X := X.suite a ((a, oe) :: pn)) (by rw [show (X.suite a ((a, oe) :: pn)).N = C.N from G.gc.N]; exact G.gc.nd) (by rw [show (X.suite a ((a, oe) :: pn)).N = C.N from G.gc.N]; exact z1) (by rw [show (X.suite a ((a, oe) :: pn)).env.scope = sc from G.gc.sco]; exact z2) g6 (noComp_sw (suC_comp g3)) (.inl (G.fn _)))
          · cases g2
        · cases g2
      · cases h1
    · cases h1
theorem GS.tr (G : GS A B Γ C W sc X) {W' : WX} {pn : List (Addr × Obj)} {xe : Value → Shared → Prop} (tk : Takes (X.tr pn xe) W') (po : PassesOwn (model X.prog X.w) X.A X.env xe) : GS A B Γ C W' sc (X.tr pn xe) :=
  ⟨⟨⟨G.gc.amb.prog, G.gc.amb.w, G.gc.amb.K, G.gc.amb.mg, G.gc.amb.base, G.gc.amb.room, G.gc.amb.gd⟩, G.gc.sco, G.gc.N, G.gc.nd, G.gc.calm, tk, G.gc.blt, G.gc.glo, G.gc.cal, G.gc.kit, G.gc.nc, G.gc.cls, G.gc.xf, G.gc.tel, fun z => ⟨(G.gc.lamF z).rm, (G.gc.lamF z).tb⟩⟩, po, G.fn, G.kd, G.stk, G.frm⟩
theorem step_Raise (SE : Snd A B Γ C n) (G : GS A B Γ C W sc X) (a b : Option Expr) (pos : Pos) (m : MS) (h : cS (n + 1) C sc (.Raise a b pos) = some m) : DS B W X (.Raise a b pos) (wS Γ m) := by
  simp only [cS] at h
  split at h
  · cases h
    unfold wS
    exact ds_never
  · split at h
    · rename_i j e hr
      obtain ⟨me, h1, h⟩ := Option.bind_eq_some_iff.mp h
      cases h
      obtain ⟨rfl, x, p, es, q, c, rfl, g1, g2, g3, g4, g5⟩ := raisOf_get hr
      subst g4
      rcases g5 with ⟨f, e', z1, rfl, z3, z4⟩ | ⟨_, _, z⟩
      · cases z4
        unfold wS wA wA
        exact ds_rais1 G.gc.xf g3 z1 G.gc.amb.K G.gc.amb.mg G.gc.calm G.gc.tk (G.gc.amb.room.mono (by omega)) (G.gc.gl g1) (okNm_1 g2).1 (SE.E W sc X G.gc e me h1) (isSt_no z3)
      · cases z
    · rename_i j hr
      cases h
      obtain ⟨rfl, x, p, es, q, c, rfl, g1, g2, g3, g4, g5⟩ := raisOf_get hr
      subst g4
      rcases g5 with ⟨_, _, _, _, _, z⟩ | ⟨z1, rfl, _⟩
      · cases z
      · unfold wS wA
        exact ds_rais0 G.gc.xf g3 z1 G.gc.amb.K G.gc.amb.mg G.gc.calm G.gc.tk (G.gc.gl g1) (okNm_1 g2).1
    · cases h
      unfold wS
      exact ds_never
theorem step_Ret (SE : Snd A B Γ C n) (G : GS A B Γ C W sc X) (e : Option Expr) (pos : Pos) (m : MS) (h : cS (n + 1) C sc (.Return e pos) = some m) : DS B W X (.Return e pos) (wS Γ m) := by
  cases e with
  | none =>
    simp only [cS, Option.some.injEq] at h
    subst h
    unfold wS
    exact ds_retN
  | some e =>
    have gen : ((cE n C sc e).bind fun m => some (MS.ret m)) = some m → DS B W X (.Return (some e) pos) (wS Γ m) := fun h => by
      obtain ⟨me, h2, h⟩ := Option.bind_eq_some_iff.mp h
      cases h
      unfold wS
      exact ds_ret (SE.E W sc X G.gc e me h2)
    cases e <;> try exact gen (by simpa only [cS] using h)
    simp only [cS] at h
    split at h
    · rename_i i hi
      cases h
      unfold wS
      exact ds_retv (var_pe G.gc hi)
    · exact gen h
end
theorem snd_S (A : Amb) (B : Bg) (Γ : Nat → Gam) (C : CC) : ∀ n, SndS A B Γ C n
  | 0 => ⟨fun _ _ _ _ _ _ h => by simp only [cS, reduceCtorEq] at h, fun _ _ _ _ _ _ h => by simp only [cSs, reduceCtorEq] at h⟩
  | n + 1 => by
    have S := snd_S A B Γ C n
    have SE := snd_all A B Γ C n
    have SG := snd_G A B Γ C n
    refine ⟨fun W sc X G s m h => ?_, fun W sc X G ss m h => ?_⟩
    · cases s <;> try (simp only [cS, reduceCtorEq] at h; done)
      · exact step_Ret SE G _ _ m h
      · exact step_Assign SE SG G _ _ _ m h
      · rename_i tg op e pos
        cases tg <;> try (simp only [cS, reduceCtorEq] at h; done)
        rename_i x px
        simp only [cS] at h
        obtain ⟨i, h1, h⟩ := Option.bind_eq_some_iff.mp h
        obtain ⟨me, h2, h⟩ := Option.bind_eq_some_iff.mp h
        obtain ⟨g1, g2⟩ := lSlot_get h1
        cases op <;> cases h <;> unfold wS
        · exact ds_aug (by rw [G.gc.N]; exact G.gc.nd) (by rw [G.gc.N]; exact g1) (by rw [G.gc.sco]; exact g2) (SE.E W sc X G.gc e me h2) ip_add (.inl (G.fn x))
        · exact ds_aug (by rw [G.gc.N]; exact G.gc.nd) (by rw [G.gc.N]; exact g1) (by rw [G.gc.sco]; exact g2) (SE.E W sc X G.gc e me h2) ip_sub (.inl (G.fn x))
      · rename_i tg it a oe pos
        cases oe <;> try (simp only [cS, reduceCtorEq] at h; done)
        simp only [cS] at h
        obtain ⟨mi, h1, h⟩ := Option.bind_eq_some_iff.mp h
        obtain ⟨g, h2, h⟩ := Option.bind_eq_some_iff.mp h
        obtain ⟨ma, h3, h⟩ := Option.bind_eq_some_iff.mp h
        cases h
        unfold wS
        obtain ⟨i1, i2⟩ := SE.I W sc X G.gc tg it mi h1
        exact ds_for G.po G.gc.calm i1 (SG.G W sc X G tg g h2).1 (S.Ss W sc X G a ma h3) i2
      · rename_i t a oe pos
        cases oe <;> try (simp only [cS, reduceCtorEq] at h; done)
        simp only [cS] at h
        obtain ⟨mt, h1, h⟩ := Option.bind_eq_some_iff.mp h
        obtain ⟨ma, h2, h⟩ := Option.bind_eq_some_iff.mp h
        cases h
        unfold wS
        exact ds_while G.po (SE.T W sc X G.gc t mt h1) (S.Ss W sc X G a ma h2)
      · rename_i t a b pos
        simp only [cS] at h
        obtain ⟨mt, h1, h⟩ := Option.bind_eq_some_iff.mp h
        obtain ⟨ma, h2, h⟩ := Option.bind_eq_some_iff.mp h
        obtain ⟨mb, h3, h⟩ := Option.bind_eq_some_iff.mp h
        cases h
        unfold wS
        exact ds_if (SE.T W sc X G.gc t mt h1) (S.Ss W sc X G a ma h2) (S.Ss W sc X G b mb h3)
      · exact step_Raise SE G _ _ _ m h
      · rename_i body hds oe fin pos
        simp only [cS] at h
        split at h
        · rename_i ht
          obtain ⟨mb, h1, h⟩ := Option.bind_eq_some_iff.mp h
          obtain ⟨l, h2, h⟩ := Option.bind_eq_some_iff.mp h
          cases h
          unfold triOf at ht
          split at ht
          · rename_i h0 hs
            obtain ⟨l', hd⟩ := hds_ok G h2
            unfold wS
            have i1 := S.Ss W sc X G body mb h1
            exact ds_tri G.gc.amb.K G.stk G.frm G.gc.tk i1.mono (fun W' pn xe t1 t2 => S.Ss W' sc _ (G.tr t1 t2) body mb h1) hd
          · cases ht
        · cases h
      · exact step_Expr SE G _ _ m h
      · simp only [cS, Option.some.injEq] at h
        subst h
        unfold wS
        exact ds_pass
      · simp only [cS, Option.some.injEq] at h
        subst h
        unfold wS
        exact ds_break
      · simp only [cS, Option.some.injEq] at h
        subst h
        unfold wS
        exact ds_cont
    · match ss with
      | [] =>
        simp only [cSs, Option.some.injEq] at h
        subst h
        unfold wSs
        exact dss_nil
      | s :: r =>
        simp only [cSs] at h
        obtain ⟨m1, h1, h⟩ := Option.bind_eq_some_iff.mp h
        obtain ⟨m2, h2, h⟩ := Option.bind_eq_some_iff.mp h
        cases h
        unfold wSs
        exact dss_cons (S.S W sc X G s m1 h1) (S.Ss W sc X G r m2 h2)
end Ev
set_option Elab.async false
set_option linter.all false
set_option autoImplicit false
set_option maxRecDepth 100000
/-! Ex, part D: defs that are given the exception at hand: a smaller compiler for their rows, and what it tells. -/
namespace Ev
open PySem PySem.Spec PyProof.Rows L2
/-- isinstance(e, C), len(a), repr(a) -/
inductive HB where
  | isx (e : Str) (y : Str) | one (f : Bi) (a : Expr)
def hbOf (x : Str) (es : List Expr) : Option HB := match es with
  | [.Name e _, .Name y _] => if x = "isinstance" then some (.isx e y) else none
  | [a] => if isSt a then none else if x = "len" then some (.one .len a) else if x = "repr" then some (.one .repr a) else none
  | _ => none
mutual
def hE : Nat → CC → Scope → Expr → Option ME
  | 0, _, _, _ => none
  | n + 1, C, sc, e => match e with
    | .Constant (.int i) _ _ => some (.c (.int i))
    | .Constant (.str s) _ _ => some (.c (.str s))
    | .Constant (.bool b) _ _ => some (.c (.bl b))
    | .Constant .none _ _ => some (.c .non)
    | .Name x _ => (vSlot C sc x).map .var
    | .BinOp a op b _ => if okOp op then (hE n C sc a).bind fun ma => (hE n C sc b).bind fun mb => some (.bin op ma mb) else none
    | .Compare a [op] [b] _ => (hE n C sc a).bind fun ma => (hE n C sc b).bind fun mb => some (.cmp op ma mb)
    | .IfExp t a b _ => (hT n C sc t).bind fun mt => (hE n C sc a).bind fun ma => (hE n C sc b).bind fun mb => some (.ite mt ma mb)
    | .List es _ => (hA n C sc es).bind fun as => some (.lst as)
    | .Subscript a b _ => (hE n C sc a).bind fun ma => (hE n C sc b).bind fun mb => some (.ix ma mb)
    | .Attribute (.Name x _) f _ => (vSlot C sc x).map fun i => .atx i (idxs (fun c => c.fld == some f) C.xcs 0)
    | .Call (.Name x _) es [] _ => if gloB sc x then (match hbOf x es with
      | some (.isx e y) => if C.xns.contains y && (gloB sc y && okNm y) then (vSlot C sc e).map fun i => .isx i (idxs (fun c => c.ups.contains y) C.xcs 0) else none
      | some (.one f a) => (hE n C sc a).bind fun m => some (.bi f (.cons m .nil))
      | none => none) else none
    | .Call (.Attribute o m ap) [a] [] p => if ap.endLine == p.line && abOk o then (bmOf m).bind fun f => (hE n C sc o).bind fun mo => (hE n C sc a).bind fun ma => some (.bm f mo ma) else none
    | _ => none
def hT : Nat → CC → Scope → Expr → Option MT
  | 0, _, _, _ => none
  | n + 1, C, sc, e => match e with
    | .BoolOp op es _ => hTB n C sc op es
    | .Compare a [op] [b] _ => (hE n C sc a).bind fun ma => (hE n C sc b).bind fun mb => some (.val (.cmp op ma mb))
    | .Call f es ks p => (hE n C sc (.Call f es ks p)).bind fun m => some (.val m)
    | _ => none
def hTB : Nat → CC → Scope → BoolOp → List Expr → Option MT
  | 0, _, _, _, _ => none
  | n + 1, C, sc, op, es => match es with
    | [a] => hT n C sc a
    | a :: b :: r => (hT n C sc a).bind fun ma => (hTB n C sc op (b :: r)).bind fun mb => match op with
      | .And => some (.and ma mb)
      | .Or => some (.or ma mb)
    | [] => none
def hA : Nat → CC → Scope → List Expr → Option MA
  | 0, _, _, _ => none
  | n + 1, C, sc, es => match es with
    | [] => some .nil
    | e :: r => (hE n C sc e).bind fun m => (hA n C sc r).bind fun as => some (.cons m as)
end
mutual
def hS : Nat → CC → Scope → Stmt → Option MS
  | 0, _, _, _ => none
  | n + 1, C, sc, s => match s with
    | .Expr (.Call (.Attribute o mt ap) es ks cp) _ => (match appOf C sc o mt ap es ks cp with
      | some (true, j, a) => (hE n C sc a).bind fun m => some (.app j m)
      | _ => none)
    | .Return (some e) _ => (hE n C sc e).bind fun m => some (.ret m)
    | .If t a b _ => (hT n C sc t).bind fun mt => (hSs n C sc a).bind fun ma => (hSs n C sc b).bind fun mb => some (.ifs mt ma mb)
    | .Assign [.Name y _] e _ => (lSlot C sc y).bind fun i => (hE n C sc e).bind fun m => some (.set i m)
    | _ => none
def hSs : Nat → CC → Scope → List Stmt → Option MSs
  | 0, _, _, _ => none
  | n + 1, C, sc, ss => match ss with
    | [] => some .nil
    | s :: r => (hS n C sc s).bind fun m => (hSs n C sc r).bind fun mr => some (.cons m mr)
end
/-- the context of such a def -/
structure GH (mg : Str → Option Value) (B : Bg) (C : CC) (sc : Scope) (X : Cx) (a : Addr) (oe : Obj) (cls : Value) (d : Option Addr) : Prop where
  K : X.K = B.K
  hm : X.mg = mg
  gd : X.A.guards = some []
  un : X.A.units + 200 < cLine
  sco : X.env.scope = sc
  N : X.N = C.N
  nd : C.N.Nodup
  fn : ∀ x, X.fn x = true
  blt : ∀ x ∈ bltNames, mg x = none
  xf : XcF mg B C.xcs C.xns
  hx : Hx B X a oe cls d
abbrev W0' : WX := fun _ _ _ _ => False
section
variable {mg : Str → Option Value} {B : Bg} {Γ : Nat → Gam} {C : CC} {sc : Scope} {X : Cx} {a0 : Addr} {oe : Obj} {cls : Value} {dd : Option Addr}
theorem GH.gl (G : GH mg B C sc X a0 oe cls dd) {x : Str} (h : gloB sc x = true) : Gl X x := by
  show X.env.scope.names.lookup x = some .globalImplicit
  rw [G.sco]
  exact gloB_glo h
theorem GH.free (G : GH mg B C sc X a0 oe cls dd) {x : Str} (h : x ∈ bltNames) : X.mg x = none := by rw [G.hm]; exact G.blt x h
theorem GH.var (G : GH mg B C sc X a0 oe cls dd) {x : Str} {i : Nat} {p : Pos} (h : vSlot C sc x = some i) : PE X (.Name x p) (tVar i) := by
  unfold vSlot at h
  split at h
  · rename_i hc
    rw [Bool.and_eq_true] at hc
    obtain ⟨n1, n2⟩ := okNm_1 hc.2
    exact pe_var (by rw [G.N]; exact slotOf_get h) (by rw [G.sco]; exact visB_vis hc.1) n1 n2
  · cases h
theorem GH.bop (G : GH mg B C sc X a0 oe cls dd) {op : Operator} (h : okOp op = true) : OpR X (binaryOp op) (rG B (bopG op)) := by
  cases op <;> first | exact or_add G.K | exact or_sub | exact or_mul G.K | exact or_div | exact or_mod | exact or_pow | cases h
theorem GH.cop (G : GH mg B C sc X a0 oe cls dd) (op : CmpOp) : OpR X (compareOp op) (rG B (copG op)) := by
  have u := G.un
  have hu : X.A.units + 64 < cLine := by omega
  cases op
  · exact or_eq G.K hu
  · exact or_ne G.K hu
  · exact or_lt
  · exact or_le
  · exact or_gt
  · exact or_ge
  · exact or_is
  · exact or_isnot
  · exact or_in G.K (by omega)
  · exact or_notin G.K (by omega)
theorem hE_shape {n : Nat} {e : Expr} {m : ME} (h : hE n C sc e = some m) : (∀ x p, e ≠ .Starred x p) ∧ (∀ a b c p, e ≠ .Slice a b c p) ∧ isComp e = false ∧ ∀ x k p, e ≠ .Set x k p := by
  cases n with
  | zero => simp only [hE, reduceCtorEq] at h
  | succ n =>
    refine ⟨fun x p z => ?_, fun a b c p z => ?_, ?_, fun x k p z => ?_⟩
    · subst z; simp only [hE, reduceCtorEq] at h
    · subst z; simp only [hE, reduceCtorEq] at h
    · cases e <;> first | rfl | (simp only [hE, reduceCtorEq] at h)
    · subst z; simp only [hE, reduceCtorEq] at h
theorem hbOf_get {x : Str} {es : List Expr} {b : HB} (h : hbOf x es = some b) : (∃ e y p q, b = .isx e y ∧ x = "isinstance" ∧ es = [.Name e p, .Name y q]) ∨ ∃ f a, b = .one f a ∧ es = [a] ∧ isSt a = false ∧ ((f = .len ∧ x = "len") ∨ (f = .repr ∧ x = "repr")) := by
  unfold hbOf at h
  split at h
  · split at h
    · rename_i hx
      cases h
      exact .inl ⟨_, _, _, _, rfl, hx, rfl⟩
    · cases h
  · split at h
    · cases h
    · rename_i hs
      have hs' := Bool.eq_false_iff.mpr hs
      split at h
      · rename_i hx
        cases h
        exact .inr ⟨_, _, rfl, rfl, hs', .inl ⟨rfl, hx⟩⟩
      · split at h
        · rename_i hx
          cases h
          exact .inr ⟨_, _, rfl, rfl, hs', .inr ⟨rfl, hx⟩⟩
        · cases h
  · cases h
structure SndH (mg : Str → Option Value) (B : Bg) (Γ : Nat → Gam) (C : CC) (n : Nat) : Prop where
  E : ∀ sc X a oe cls d, GH mg B C sc X a oe cls d → ∀ e m, hE n C sc e = some m → DE B W0' X e (wE Γ m)
  T : ∀ sc X a oe cls d, GH mg B C sc X a oe cls d → ∀ e m, hT n C sc e = some m → DT B W0' X e (wT Γ m)
  TB : ∀ sc X a oe cls d, GH mg B C sc X a oe cls d → ∀ op es m pos, hTB n C sc op es = some m → DW B W0' X (.BoolOp op es pos) (wT Γ m)
  Ar : ∀ sc X a oe cls d, GH mg B C sc X a oe cls d → ∀ es m, hA n C sc es = some m → DA B W0' X es (wA Γ m)
theorem h_E {n : Nat} (S : SndH mg B Γ C n) (G : GH mg B C sc X a0 oe cls dd) (e : Expr) (m : ME) (h : hE (n + 1) C sc e = some m) : DE B W0' X e (wE Γ m) := by
  have u := G.un
  cases e with
  | Constant c j p =>
    cases c <;> simp only [hE, reduceCtorEq, Option.some.injEq] at h <;> subst h <;> unfold wE
    · exact de_const pe_non fun _ _ => rfl
    · exact de_const pe_bl fun _ _ => rfl
    · exact de_const pe_int fun _ _ => rfl
    · exact de_const pe_str fun _ _ => rfl
  | Name x p =>
    simp only [hE] at h
    obtain ⟨i, h1, rfl⟩ := Option.map_eq_some_iff.mp h
    unfold wE
    exact de_var (G.var h1)
  | BinOp a op b p =>
    simp only [hE] at h
    split at h
    · rename_i ho
      obtain ⟨ma, h1, h⟩ := Option.bind_eq_some_iff.mp h
      obtain ⟨mb, h2, h⟩ := Option.bind_eq_some_iff.mp h
      cases h
      unfold wE
      exact de_bin (G.bop ho) (mono_bop op) (S.E _ _ _ _ _ _ G a ma h1) (S.E _ _ _ _ _ _ G b mb h2)
    · cases h
  | Compare a ops bs p =>
    match ops, bs with
    | [op], [b] =>
      simp only [hE] at h
      obtain ⟨ma, h1, h⟩ := Option.bind_eq_some_iff.mp h
      obtain ⟨mb, h2, h⟩ := Option.bind_eq_some_iff.mp h
      cases h
      unfold wE
      exact de_cmp (G.cop op) (mono_cop op) (S.E _ _ _ _ _ _ G a ma h1) (S.E _ _ _ _ _ _ G b mb h2) (noSet_marks (hE_shape h2).2.2.2)
    | [], _ => simp only [hE, reduceCtorEq] at h
    | _ :: _ :: _, _ => simp only [hE, reduceCtorEq] at h
    | [_], [] => simp only [hE, reduceCtorEq] at h
    | [_], _ :: _ :: _ => simp only [hE, reduceCtorEq] at h
  | IfExp t a b p =>
    simp only [hE] at h
    obtain ⟨mt, h0, h⟩ := Option.bind_eq_some_iff.mp h
    obtain ⟨ma, h1, h⟩ := Option.bind_eq_some_iff.mp h
    obtain ⟨mb, h2, h⟩ := Option.bind_eq_some_iff.mp h
    cases h
    unfold wE
    exact de_if (S.T _ _ _ _ _ _ G t mt h0) (S.E _ _ _ _ _ _ G a ma h1) (S.E _ _ _ _ _ _ G b mb h2)
  | List es p =>
    simp only [hE] at h
    obtain ⟨as, h1, h⟩ := Option.bind_eq_some_iff.mp h
    cases h
    unfold wE
    exact de_lst (S.Ar _ _ _ _ _ _ G es as h1)
  | Subscript a b p =>
    simp only [hE] at h
    obtain ⟨ma, h1, h⟩ := Option.bind_eq_some_iff.mp h
    obtain ⟨mb, h2, h⟩ := Option.bind_eq_some_iff.mp h
    cases h
    unfold wE
    exact de_ix G.K (S.E _ _ _ _ _ _ G a ma h1) (S.E _ _ _ _ _ _ G b mb h2) (plainIx_of (hE_shape h2).2.1)
  | Attribute o f p =>
    cases o <;> try (simp only [hE, reduceCtorEq] at h; done)
    simp only [hE] at h
    obtain ⟨i, h1, rfl⟩ := Option.map_eq_some_iff.mp h
    unfold wE
    exact de_atx G.hx G.xf G.K (G.var h1)
  | Call f es ks p =>
    cases f <;> try (simp only [hE, reduceCtorEq] at h; done)
    · rename_i o mt ap
      match es, ks with
      | [a], [] =>
        simp only [hE] at h
        split at h
        · rename_i hc
          rw [Bool.and_eq_true] at hc
          obtain ⟨f, h0, h⟩ := Option.bind_eq_some_iff.mp h
          obtain ⟨mo, h1, h⟩ := Option.bind_eq_some_iff.mp h
          obtain ⟨ma, h2, h⟩ := Option.bind_eq_some_iff.mp h
          cases h
          unfold wE
          have en := bmOf_nm h0
          subst en
          exact de_bm G.K f (S.E _ _ _ _ _ _ G o mo h1) (S.E _ _ _ _ _ _ G a ma h2) (hE_shape h2).1 (abOk_base hc.2) hc.1
        · cases h
      | [], _ => simp only [hE, reduceCtorEq] at h
      | _ :: _ :: _, _ => simp only [hE, reduceCtorEq] at h
      | [_], _ :: _ => simp only [hE, reduceCtorEq] at h
    · rename_i x px
      match ks with
      | _ :: _ => simp only [hE, reduceCtorEq] at h
      | [] =>
        simp only [hE] at h
        split at h
        · rename_i hg
          split at h
          · rename_i e y hb
            rcases hbOf_get hb with ⟨e', y', p1, p2, z, rfl, rfl⟩ | ⟨_, _, z, _⟩
            case inr => cases z
            cases z
            split at h
            · rename_i hc
              rw [Bool.and_eq_true, Bool.and_eq_true] at hc
              obtain ⟨i, h1, rfl⟩ := Option.map_eq_some_iff.mp h
              unfold wE
              exact de_isx G.hx G.xf (List.contains_iff_mem.mp hc.1) G.K G.hm (G.gl hg) (G.free (by decide +kernel)) (G.var h1) (G.gl hc.2.1) (okNm_1 hc.2.2).1
            · cases h
          · rename_i f a hb
            rcases hbOf_get hb with ⟨_, _, _, _, z, _⟩ | ⟨f', a', z, rfl, hs, hf⟩
            case inl => cases z
            cases z
            obtain ⟨ma, h1, h⟩ := Option.bind_eq_some_iff.mp h
            cases h
            unfold wE wA wA
            have ha := da_cons (S.E _ _ _ _ _ _ G a ma h1) da_nil (hE_shape h1).1
            rcases hf with ⟨rfl, rfl⟩ | ⟨rfl, rfl⟩
            · exact de_callB (cr_len G.K) mono_oLen (G.gl hg) (G.free (by decide +kernel)) (by decide +kernel) ha (by decide) (by decide) (hE_shape h1).1 rfl
            · exact de_callB (cr_repr G.K G.gd (by omega)) mono_oRepr (G.gl hg) (G.free (by decide +kernel)) (by decide +kernel) ha (by decide) (by decide) (hE_shape h1).1 rfl
          · cases h
        · cases h
  | _ => simp only [hE, reduceCtorEq] at h
theorem h_T {n : Nat} (S : SndH mg B Γ C n) (G : GH mg B C sc X a0 oe cls dd) (e : Expr) (m : MT) (h : hT (n + 1) C sc e = some m) : DT B W0' X e (wT Γ m) := by
  cases e with
  | BoolOp op es p =>
    simp only [hT] at h
    exact (S.TB _ _ _ _ _ _ G op es m p h).dt
  | Compare a ops bs p =>
    match ops, bs with
    | [op], [b] =>
      simp only [hT] at h
      obtain ⟨ma, h1, h⟩ := Option.bind_eq_some_iff.mp h
      obtain ⟨mb, h2, h⟩ := Option.bind_eq_some_iff.mp h
      cases h
      unfold wT wE
      exact dt_cmp (G.cop op) (mono_cop op) (S.E _ _ _ _ _ _ G a ma h1) (S.E _ _ _ _ _ _ G b mb h2) (noSet_marks (hE_shape h2).2.2.2)
    | [], _ => simp only [hT, reduceCtorEq] at h
    | _ :: _ :: _, _ => simp only [hT, reduceCtorEq] at h
    | [_], [] => simp only [hT, reduceCtorEq] at h
    | [_], _ :: _ :: _ => simp only [hT, reduceCtorEq] at h
  | Call f es ks p =>
    simp only [hT] at h
    obtain ⟨ma, h1, h⟩ := Option.bind_eq_some_iff.mp h
    cases h
    unfold wT
    exact dt_val (S.E _ _ _ _ _ _ G _ ma h1) fun _ => rfl
  | _ => simp only [hT, reduceCtorEq] at h
theorem h_TB {n : Nat} (S : SndH mg B Γ C n) (G : GH mg B C sc X a0 oe cls dd) (op : BoolOp) (es : List Expr) (m : MT) (pos : Pos) (h : hTB (n + 1) C sc op es = some m) : DW B W0' X (.BoolOp op es pos) (wT Γ m) := by
  match es with
  | [] => simp only [hTB, reduceCtorEq] at h
  | [a] =>
    simp only [hTB] at h
    cases op
    · exact dw_and1 (S.T _ _ _ _ _ _ G a m h)
    · exact dw_or1 (S.T _ _ _ _ _ _ G a m h)
  | a :: b :: r =>
    simp only [hTB] at h
    obtain ⟨ma, h1, h⟩ := Option.bind_eq_some_iff.mp h
    obtain ⟨mb, h2, h⟩ := Option.bind_eq_some_iff.mp h
    cases op <;> cases h <;> unfold wT
    · exact dw_and (S.T _ _ _ _ _ _ G a ma h1) (S.TB _ _ _ _ _ _ G _ _ mb pos h2)
    · exact dw_or (S.T _ _ _ _ _ _ G a ma h1) (S.TB _ _ _ _ _ _ G _ _ mb pos h2)
theorem snd_H (mg : Str → Option Value) (B : Bg) (Γ : Nat → Gam) (C : CC) : ∀ n, SndH mg B Γ C n
  | 0 => by
    refine ⟨?_, ?_, ?_, ?_⟩
    · intro _ _ _ _ _ _ _ _ _ h; simp only [hE, reduceCtorEq] at h
    · intro _ _ _ _ _ _ _ _ _ h; simp only [hT, reduceCtorEq] at h
    · intro _ _ _ _ _ _ _ _ _ _ _ h; simp only [hTB, reduceCtorEq] at h
    · intro _ _ _ _ _ _ _ _ _ h; simp only [hA, reduceCtorEq] at h
  | n + 1 => by
    have S := snd_H mg B Γ C n
    refine ⟨fun sc X a oe cls d G => h_E S G, fun sc X a oe cls d G => h_T S G, fun sc X a oe cls d G => h_TB S G, fun sc X a oe cls d G es m h => ?_⟩
    match es with
    | [] =>
      simp only [hA, Option.some.injEq] at h
      subst h
      unfold wA
      exact da_nil
    | e :: r =>
      simp only [hA] at h
      obtain ⟨me, h1, h⟩ := Option.bind_eq_some_iff.mp h
      obtain ⟨as, h2, h⟩ := Option.bind_eq_some_iff.mp h
      cases h
      unfold wA
      exact da_cons (S.E _ _ _ _ _ _ G e me h1) (S.Ar _ _ _ _ _ _ G r as h2) (hE_shape h1).1
theorem snd_HS (mg : Str → Option Value) (B : Bg) (Γ : Nat → Gam) (C : CC) : ∀ n, (∀ sc X a oe cls d, GH mg B C sc X a oe cls d → ∀ s m, hS n C sc s = some m → DS B W0' X s (wS Γ m)) ∧ ∀ sc X a oe cls d, GH mg B C sc X a oe cls d → ∀ s m, hSs n C sc s = some m → DSs B W0' X s (wSs Γ m)
  | 0 => ⟨fun _ _ _ _ _ _ _ _ _ h => by simp only [hS, reduceCtorEq] at h, fun _ _ _ _ _ _ _ _ _ h => by simp only [hSs, reduceCtorEq] at h⟩
  | n + 1 => by
    obtain ⟨iS, iSs⟩ := snd_HS mg B Γ C n
    have S := snd_H mg B Γ C n
    refine ⟨fun sc X a oe cls d G s m h => ?_, fun sc X a oe cls d G ss m h => ?_⟩
    · cases s <;> try (simp only [hS, reduceCtorEq] at h; done)
      · rename_i e pos
        cases e with
        | none => simp only [hS, reduceCtorEq] at h
        | some e =>
          simp only [hS] at h
          obtain ⟨me, h1, h⟩ := Option.bind_eq_some_iff.mp h
          cases h
          unfold wS
          exact ds_ret (S.E _ _ _ _ _ _ G e me h1)
      · rename_i tgs e pos
        match tgs with
        | [] => simp only [hS, reduceCtorEq] at h
        | _ :: _ :: _ => simp only [hS, reduceCtorEq] at h
        | [tg] =>
          cases tg <;> try (simp only [hS, reduceCtorEq] at h; done)
          simp only [hS] at h
          obtain ⟨i, h0, h⟩ := Option.bind_eq_some_iff.mp h
          obtain ⟨me, h1, h⟩ := Option.bind_eq_some_iff.mp h
          cases h
          obtain ⟨g1, g2⟩ := lSlot_get h0
          unfold wS
          exact ds_set (by rw [G.N]; exact G.nd) (by rw [G.N]; exact g1) (by rw [G.sco]; exact g2) (S.E _ _ _ _ _ _ G e me h1) (noComp_sw (hE_shape h1).2.2.1) (.inl (G.fn _))
      · rename_i t aa bb pos
        simp only [hS] at h
        obtain ⟨mt, h0, h⟩ := Option.bind_eq_some_iff.mp h
        obtain ⟨ma, h1, h⟩ := Option.bind_eq_some_iff.mp h
        obtain ⟨mb, h2, h⟩ := Option.bind_eq_some_iff.mp h
        cases h
        unfold wS
        exact ds_if (S.T _ _ _ _ _ _ G t mt h0) (iSs _ _ _ _ _ _ G aa ma h1) (iSs _ _ _ _ _ _ G bb mb h2)
      · rename_i e pos
        cases e <;> try (simp only [hS, reduceCtorEq] at h; done)
        rename_i f es ks cp
        cases f <;> try (simp only [hS, reduceCtorEq] at h; done)
        simp only [hS] at h
        split at h
        · rename_i j aa hap
          obtain ⟨x, p, rfl, rfl, rfl, hl, hv, em⟩ := appOf_get hap
          rw [if_pos rfl] at em
          subst em
          obtain ⟨me, h2, h⟩ := Option.bind_eq_some_iff.mp h
          cases h
          unfold wS
          exact ds_append (G.var hv) (S.E _ _ _ _ _ _ G aa me h2) (hE_shape h2).1 hl
        · cases h
    · match ss with
      | [] =>
        simp only [hSs, Option.some.injEq] at h
        subst h
        unfold wSs
        exact dss_nil
      | s :: r =>
        simp only [hSs] at h
        obtain ⟨m1, h1, h⟩ := Option.bind_eq_some_iff.mp h
        obtain ⟨m2, h2, h⟩ := Option.bind_eq_some_iff.mp h
        cases h
        unfold wSs
        exact dss_cons (iS _ _ _ _ _ _ G s m1 h1) (iSs _ _ _ _ _ _ G r m2 h2)
end
end Ev
set_option Elab.async false
set_option linter.all false
set_option autoImplicit false
set_option maxRecDepth 100000
/-! Ev, part Q: defs, the table of a law's defs, calls by levels. -/
namespace Ev
open PySem PySem.Spec PyProof.Rows L2
/-- the entry of a body: the parameters, then names without a value -/
def enOf (n : Nat) (ds : List D) : En := ds.map (fun d => some (.v d)) ++ List.replicate (n - ds.length) none
def endOf (k : T → List D → Prop) (e : Xn → List D → Prop) : Post where
  nx := fun _ s => k (.v .non) s
  rt := k
  bk := fun _ _ => False
  ct := fun _ _ => False
  ex := fun x _ s => e x s
/-- a body as a call -/
def gBody (n : Nat) (t : DTS) : Gam := fun ds st k e => t (enOf n ds) st (endOf k e)
theorem gBody_mono {n : Nat} {t : DTS} (m : MonoS t) : MonoC (gBody n t) := fun ds st k k' e e' hk he h => m _ _ (endOf k e) (endOf k' e') ⟨fun _ _ z => hk _ _ z, fun _ _ z => hk _ _ z, fun _ _ z => z, fun _ _ z => z, fun _ _ _ z => he _ _ z⟩ h
theorem enOf_get {n : Nat} {ds : List D} {i : Nat} {x : T} (h : (enOf n ds)[i]? = some (some x)) : ∃ d, x = .v d ∧ ds[i]? = some d := by
  unfold enOf at h
  by_cases hi : i < ds.length
  · rw [List.getElem?_append_left (by rw [List.length_map]; exact hi), List.getElem?_map] at h
    cases q : ds[i]? with
    | none => rw [q] at h; cases h
    | some d => rw [q] at h; cases h; exact ⟨d, rfl, rfl⟩
  · rw [List.getElem?_append_right (by rw [List.length_map]; omega), List.getElem?_replicate] at h
    split at h <;> cases h
theorem enOf_no {n : Nat} {ds : List D} {σ : Sl} (a : Addr) : ¬ OwnAt σ (enOf n ds) a := fun ⟨i, d, h, _⟩ => by
  obtain ⟨d', e, _⟩ := enOf_get h
  cases e
theorem Reps.at {B : Bg} {F : Hp} {r : List Addr} : ∀ {ds : List D} {vs : List V} {i : Nat} {d : D}, Reps B F r ds vs → ds[i]? = some d → ∃ v, vs[i]? = some v ∧ Rep B F r d v
  | [], _, _, _, _, h => by simp at h
  | x :: ds, _, 0, d, ⟨v, t, e, h1, h2⟩, h => by
    simp at h
    subst h e
    exact ⟨v, rfl, h1⟩
  | x :: ds, _, i + 1, d, ⟨v, t, e, h1, h2⟩, h => by
    subst e
    simp only [List.getElem?_cons_succ] at h ⊢
    exact Reps.at h2 h
structure GOk (A : Amb) (B : Bg) (f : Addr) (fd : FuncData) (ps : List Str) (g : Gam) : Prop where
  run : ∀ (Z : Around) (outer : List Env) (s : Shared) (H : Hp) (args : Args) (us : List Value) (vs : List V) (Q : VK) (E : XK) (F : Hp) (r : List Addr) (st ds : List D), Room (3 * A.k + 4) Z → Z.guards = some [] →
    Env0 A.P A.w B.K A.mg A.base Z outer s H → BindsTo s fd args (ps.zip us) → Vals vs us → ds.length = ps.length → World B F r st H → Reps B F r ds vs → g ds st (caK B Q F r H) (caX B E F r H) →
    codeAny (model A.P A.w) Z (.call (.ref f) args) (CR (L2.CX A.P A.w) outer A.P A.w H s Q E) s
/-- what is known of the own classes -/
structure ClsF (mg : Str → Option Value) (B : Bg) (clss : List Cld) : Prop where
  kit : KitF B
  nc : B.nc = clss.length
  cls : ∀ c cl, clss[c]? = some cl → mg cl.x = some (.ref (B.cls c)) ∧ ∀ f, cl.flds.contains f = true → NoAttr B.K (B.cls c) f
/-- what is known of exceptions and tellers -/
structure ExF (mg : Str → Option Value) (B : Bg) (C : CC) : Prop where
  xf : XcF mg B C.xcs C.xns
  tel : ∀ tl ∈ C.tls, TelF mg B C.xcs C.xns tl
/-- the table of a def that makes lambdas -/
def LamT (A : Amb) (B : Bg) (fl : Flg) (qual : Str) (cdv : Value) : Prop := fl.lam = true → ∃ c P, cdv = .ref c ∧ LamX.TabB A.base A.mg c P ∧ (P, qual ++ ".<locals>." ++ "<lambda>") ∈ B.tabs ∧ ∀ p ∈ B.tabs, p.1 = P → p.2 = qual ++ ".<locals>." ++ "<lambda>"
/-- the context of a body -/
theorem gs_body {A : Amb} {B : Bg} {Γ : Nat → Gam} {C : CC} {ps : List Str} {scope : Scope} {qual : Str} {f : Addr} {cdv : Value} {Z : Around} {outer : List Env} {s : Shared} {H : Hp} {E : XK} (S : FnScope C.N ps scope)
    (hr : Room (3 * A.k + 6) (Z.deeper (envOfC qual scope s.heap.objs.size f cdv))) (hg : Z.guards = some []) (blt : ∀ x ∈ bltNames, A.mg x = none) (glo : ∀ x d, C.glob.lookup x = some d → ∃ v u, A.mg x = some u ∧ RelV v u ∧ ∀ F r, Rep B F r d v)
    (cal : ∀ p q, C.pats[p]? = some q → ∀ X' W', InAmb A B X' → Takes X' W' → PatSem B W' X' q (Γ p)) (cf : ClsF A.mg B C.clss) (xf : ExF A.mg B C) (hl : LamT A B C.fl qual cdv) :
    GS A B Γ C (fun cls d _ H => E cls d H) scope (cxOf (L2.CX A.P A.w) A.P A.w B.K A.mg A.base C.N qual scope f cdv Z outer s H E) := by
  refine ⟨⟨⟨rfl, rfl, rfl, rfl, rfl, hr.mono (by omega), hg⟩, rfl, rfl, S.nd, rfl, takes_of rfl rfl rfl rfl, blt, glo, cal, cf.kit, cf.nc, cf.cls, xf.xf, xf.tel, fun z => ⟨hr, hl z⟩⟩, passes_of rfl, fun _ => rfl, S.kind, rfl, rfl⟩
theorem rel_start {B : Bg} {F : Hp} {r : List Addr} {st ds : List D} {vs : List V} {H : Hp} {N : List Str} (W : World B F r st H) (R : Reps B F r ds vs) (hn : ds.length ≤ N.length) : Rel B F r (enOf N.length ds) st (L2.start N vs) H := by
  have hl : vs.length = ds.length := R.len
  refine ⟨W, fun i d h => ?_, fun i d h => ?_, fun i j a h _ => absurd ⟨i, h⟩ (enOf_no a), ?_, fun i x h => by obtain ⟨d, e, _⟩ := enOf_get h; cases e⟩
  · obtain ⟨d', e, q⟩ := enOf_get h
    cases e
    obtain ⟨v, e1, e2⟩ := R.at q
    refine ⟨v, ?_, e2⟩
    unfold L2.start
    rw [List.getElem?_append_left (by rw [List.length_map]; exact (List.getElem?_eq_some_iff.mp e1).1), List.getElem?_map, e1]
    rfl
  · obtain ⟨d', e, q⟩ := enOf_get h
    cases e
  · unfold enOf L2.start
    simp only [List.length_append, List.length_map, List.length_replicate]
    omega
/-- a def keeps its promise -/
theorem gfn {A : Amb} {B : Bg} {Γ : Nat → Gam} {C : CC} {k n : Nat} {ps : List Str} {x qual : Str} {params : Arguments} {body : List Stmt} {scope : Scope} {dvs : List V} {kws : List (Str × V)} {f : Addr} {fd : FuncData} {m : MSs}
    (FD : FunD B.K x qual params body scope dvs kws f fd) (S : FnScope C.N ps scope) (hk : A.k = k + 1) (blt : ∀ x ∈ bltNames, A.mg x = none) (glo : ∀ x d, C.glob.lookup x = some d → ∃ v u, A.mg x = some u ∧ RelV v u ∧ ∀ F r, Rep B F r d v)
    (cal : ∀ p q, C.pats[p]? = some q → ∀ X' W', InAmb { A with k := k } B X' → Takes X' W' → PatSem B W' X' q (Γ p)) (cf : ClsF A.mg B C.clss) (xf : ExF A.mg B C) (hlm : LamT A B C.fl qual fd.code) (hc : cSs n C scope body = some m) : GOk A B f fd ps (gBody C.N.length (wSs Γ m)) := by
  obtain ⟨oc, od, dV, kV, doc, pm, an, cdv, ct, osl, rfl, lk, hcd, _, _⟩ := FD.ex
  refine ⟨fun Z outer s H args us vs Q E F r st ds hr hg e0 hb rv hl W0 R0 hq => ?_⟩
  have hvl : vs.length = ds.length := R0.len
  have hpl : ps.length ≤ C.N.length := by
    have h0 := congrArg List.length S.pre
    rw [List.length_take] at h0
    omega
  have KX : B.K.In s.heap := e0.mod.kin.keeps fun b o e => (e0.bs b o e).1
  have lim : s.heap.NoLimit := e0.mod.nolimit.keeps fun b o e => (e0.bs b o e).1
  rw [hk] at hr
  have hr' : Room (3 * k + 6) (Z.deeper (envOfC qual scope s.heap.objs.size f cdv)) := (hr.mono (by omega : 3 * k + 6 + 1 ≤ 3 * (k + 1) + 4)).deeper _
  have G := gs_body (A := { A with k := k }) (B := B) (Γ := Γ) (C := C) (qual := qual) (f := f) (cdv := cdv) (outer := outer) (H := H) (E := E) S hr' hg blt glo cal cf xf hlm
  have DB := (snd_S { A with k := k } B Γ C n).Ss _ _ _ G body m hc
  refine codeAny_call_function hr.depth (KX _ _ lk) rfl S.co S.gen rfl (PySem.W.codeRec_of KX hcd) (hb _ _ _ _ ?_)
  refine wpAny_newFunctionEnv_cells S.kind (fun ⟨y, v⟩ hy => ?_) fun env he s1 inC => ?_
  · rcases S.par y (List.of_mem_zip hy).1 with q | q
    · exact .inl q
    · exact .inr ⟨q, PySem.W.cellsFrom_some _ _ _ (.inl q)⟩
  subst he
  refine ⟨lim.keeps inC.toInCall.keep, codeAny_func ?_⟩
  have I := inv_start (CX := L2.CX A.P A.w) (E := E) (N := C.N) S hr.hd e0 (hvl.trans hl) rv inC
  have no : ∀ a, ¬ OwnAt (L2.start C.N vs) (enOf C.N.length ds) a := fun a => enOf_no a
  have post : tS B (fun cls d _ H => E cls d H) (wSs Γ m) { nx := fun _ H' => Q .non H', rt := Q } (L2.start C.N vs) H := by
    refine ⟨F, r, enOf C.N.length ds, st, rel_start W0 R0 (by omega), DB.mono _ _ (endOf (caK B Q F r H) (caX B E F r H)) _ ⟨fun n' s' z => ?_, fun t s' z => ?_, fun _ _ z => z.elim, fun _ _ z => z.elim, fun x' n' s' z => ?_⟩ hq⟩
    · intro σ' F' r' H' S' R'
      exact z F' r' H' .non (S'.cstep no) R'.w rfl
    · intro F' r' H' v ⟨σ', en', S'⟩ W' q
      refine z F' r' H' v (S'.cstep no) W' ?_
      cases t with
      | v d => exact q
      | o d =>
        obtain ⟨a, e1, q1, q2⟩ := q
        exact ⟨a, e1, q1, q2.imp id fun z => (no a z).elim⟩
      | e x => exact q.elim
    · intro σ' F' r' H' cls d S' R' q
      exact z F' r' H' cls d (S'.cstep no) R'.w q
  refine wpAny_mono (DB.run.run [] s1 (L2.start C.N vs) H _ I post) (fun fl s' hs => ?_) fun e s' hs => hs
  cases fl with
  | ret u =>
    obtain ⟨v, σ', H', J, r1, q⟩ := hs
    exact ⟨v, H', J.os, J.bare, J.base, J.hok, r1, q⟩
  | next =>
    obtain ⟨σ', H', J, q⟩ := hs
    exact ⟨V.non, H', J.os, J.bare, J.base, J.hok, rfl, q⟩
  | brk => exact hs.elim fun _ z => z.elim fun _ z => z.2.elim
  | cont => exact hs.elim fun _ z => z.elim fun _ z => z.2.elim
/-! ### how arguments are laid out -/
inductive Src where
  | arg (i : Nat) | dfl (j : Nat)
def arr {α : Type} (ds xs : List α) : List Src → Option (List α)
  | [] => some []
  | .arg i :: l => match xs[i]?, arr ds xs l with
    | some x, some r => some (x :: r)
    | _, _ => none
  | .dfl j :: l => match ds[j]?, arr ds xs l with
    | some x, some r => some (x :: r)
    | _, _ => none
theorem arr_len {α : Type} {ds xs : List α} : ∀ {l : List Src} {ys : List α}, arr ds xs l = some ys → ys.length = l.length
  | [], ys, h => by cases h; rfl
  | s :: l, ys, h => by
    cases s <;>
    · simp only [arr] at h
      split at h
      · rename_i q
        cases h
        exact congrArg Nat.succ (arr_len q)
      · cases h
theorem arr_vals {dvs vs : List V} {its us : List Value} (h1 : Vals dvs its) (h2 : Vals vs us) : ∀ {l : List Src} {ys : List Value}, arr its us l = some ys → ∃ zs, arr dvs vs l = some zs ∧ Vals zs ys
  | [], ys, h => by cases h; exact ⟨[], rfl, .nil⟩
  | .arg i :: l, ys, h => by
    simp only [arr] at h
    split at h
    · rename_i x r q1 q2
      cases h
      obtain ⟨zs, e1, e2⟩ := arr_vals h1 h2 q2
      obtain ⟨v, e3, e4⟩ := Vals.gets h2 q1
      exact ⟨v :: zs, by simp only [arr, e3, e1], .cons e4 e2⟩
    · cases h
  | .dfl i :: l, ys, h => by
    simp only [arr] at h
    split at h
    · rename_i x r q1 q2
      cases h
      obtain ⟨zs, e1, e2⟩ := arr_vals h1 h2 q2
      obtain ⟨v, e3, e4⟩ := Vals.gets h1 q1
      exact ⟨v :: zs, by simp only [arr, e3, e1], .cons e4 e2⟩
    · cases h
where
  Vals.gets {vs : List V} {us : List Value} : ∀ {i : Nat} {u : Value}, Vals vs us → us[i]? = some u → ∃ v, vs[i]? = some v ∧ RelV v u := by
    intro i u h
    induction h generalizing i with
    | nil => intro z; simp at z
    | cons a b ih =>
      intro z
      cases i with
      | zero => simp at z; subst z; exact ⟨_, rfl, a⟩
      | succ i => simp only [List.getElem?_cons_succ] at z ⊢; exact ih z
theorem arr_reps {B : Bg} {F : Hp} {r : List Addr} {dd ds : List D} {dvs vs : List V} (h1 : Reps B F r dd dvs) (h2 : Reps B F r ds vs) : ∀ {l : List Src} {xs : List D}, arr dd ds l = some xs → ∃ zs, arr dvs vs l = some zs ∧ Reps B F r xs zs
  | [], ys, h => by cases h; exact ⟨[], rfl, rfl⟩
  | .arg i :: l, ys, h => by
    simp only [arr] at h
    split at h
    · rename_i x r q1 q2
      cases h
      obtain ⟨zs, e1, e2⟩ := arr_reps h1 h2 q2
      obtain ⟨v, e3, e4⟩ := h2.at q1
      exact ⟨v :: zs, by simp only [arr, e3, e1], v, zs, rfl, e4, e2⟩
    · cases h
  | .dfl i :: l, ys, h => by
    simp only [arr] at h
    split at h
    · rename_i x r q1 q2
      cases h
      obtain ⟨zs, e1, e2⟩ := arr_reps h1 h2 q2
      obtain ⟨v, e3, e4⟩ := h1.at q1
      exact ⟨v :: zs, by simp only [arr, e3, e1], v, zs, rfl, e4, e2⟩
    · cases h
/-- how a call's arguments reach the parameters -/
structure PatOk (K : PySem.W.Frag) (fd : FuncData) (ps : List Str) (n : Nat) (ks : List Str) (dvs : List V) (src : List Src) : Prop where
  len : src.length = ps.length
  to : ∃ its : List Value, Vals dvs its ∧ ∀ (s : Shared) (us ws : List Value), K.In s.heap → us.length = n → ws.length = ks.length → ∃ ys, arr its (us ++ ws) src = some ys ∧ BindsTo s fd ⟨us, ks.zip ws⟩ (ps.zip ys)
section
variable {K : PySem.W.Frag} {x qual : Str} {params : Arguments} {body : List Stmt} {scope : Scope} {dvs : List V} {kws : List (Str × V)} {f : Addr} {fd : FuncData} {ps ks : List Str} {n : Nat} {src : List Src}
theorem pat_of0 (F : FunD K x qual params body scope [] kws f fd) (hl : src.length = ps.length)
    (h : ∀ (kV doc pm : Value) (an : Option Addr) (cdv ct : Value) (us ws : List Value), us.length = n → ws.length = ks.length → ∃ ys, arr [] (us ++ ws) src = some ys ∧ bindArgs (PySem.W.fnOf x qual params body scope .none kV doc pm an cdv ct) ⟨us, ks.zip ws⟩ = pure (ps.zip ys)) : PatOk K fd ps n ks [] src := by
  obtain ⟨oc, od, dV, kV, doc, pm, an, cdv, ct, osl, rfl, lk, hcd, hD, hK⟩ := F.ex
  rcases hD with ⟨_, rfl⟩ | ⟨e, _⟩
  · refine ⟨hl, [], .nil, fun s us ws _ l1 l2 => ?_⟩
    obtain ⟨ys, e1, e2⟩ := h kV doc pm an cdv ct us ws l1 l2
    exact ⟨ys, e1, .of_eq e2⟩
  · exact absurd rfl e
theorem pat_of1 (F : FunD K x qual params body scope dvs kws f fd) (hd : dvs ≠ []) (hl : src.length = ps.length)
    (h : ∀ (T : Addr) (kV doc pm : Value) (an : Option Addr) (cdv ct : Value) (its us ws : List Value), its.length = dvs.length → us.length = n → ws.length = ks.length → ∃ ys k, arr its (us ++ ws) src = some ys ∧
      bindArgs (PySem.W.fnOf x qual params body scope (.ref T) kV doc pm an cdv ct) ⟨us, ks.zip ws⟩ = seqItems? (.ref T) >>= k ∧ k (some its.toArray) = pure (ps.zip ys)) : PatOk K fd ps n ks dvs src := by
  obtain ⟨oc, od, dV, kV, doc, pm, an, cdv, ct, osl, rfl, lk, hcd, hD, hK⟩ := F.ex
  rcases hD with ⟨e, _⟩ | ⟨_, T, o, its, m, rfl, lT, oT, rT⟩
  · exact absurd e hd
  · refine ⟨hl, its, rT, fun s us ws X l1 l2 => ?_⟩
    obtain ⟨ys, k, e0, e1, e2⟩ := h T kV doc pm an cdv ct its us ws rT.length.symm l1 l2
    refine ⟨ys, e0, BindsTo.of_looks fun M => ?_⟩
    rw [e1]
    exact looks_items X lT oT (.of_pure e2)
end
/-! ### the table -/
structure Fn where
  x : Str
  N : List Str
  ps : List Str
  m : MSs
  fl : Flg := {}
structure Pl where
  f : Nat
  pat : Pat
  dfs : List D
  src : List Src
/-- a getter, an __init__: one level more -/
def Pl.low (pl : Pl) : Bool := match pl.pat.kd with
  | .prop _ => true
  | .init _ => true
  | .cmp _ => true
  | .sto _ => true
  | .rpo _ => true
  | _ => false
/-- how many values come by position, self among them -/
def Pl.n (pl : Pl) : Nat := match pl.pat.kd with
  | .fn => pl.pat.n
  | .kx => pl.pat.n
  | _ => pl.pat.n + 1
def Pl.isX (pl : Pl) : Bool := match pl.pat.kd with
  | .kx => true
  | _ => false
structure Tb where
  fns : List Fn
  pls : List Pl
  glob : List (Str × D)
  clss : List Cld
  xcs : List Xc := []
  xns : List Str := []
  tls : List Tl := []
def Tb.pats (T : Tb) : List Pat := T.pls.map (·.pat)
def Tb.cc (T : Tb) (fn : Fn) : CC := ⟨fn.N, T.glob, T.pats, T.clss, T.xcs, T.xns, T.tls, fn.fl⟩
/-- the entry of a def that is given an exception -/
def enX (n : Nat) (x : Xn) : En := some (.e x) :: List.replicate (n - 1) none
def decX : List D → Option Xn
  | [.int i] => some (i.toNat, none)
  | [.int i, d] => some (i.toNat, some d)
  | _ => none
theorem dec_enc (x : Xn) : decX (encX x) = some x := by
  obtain ⟨c, o⟩ := x
  cases o <;> rfl
def gBodyX (n : Nat) (t : DTS) : Gam := fun ds st k e => match decX ds with
  | some x => t (enX n x) st (endOf k e)
  | none => False
theorem gBodyX_mono {n : Nat} {t : DTS} (m : MonoS t) : MonoC (gBodyX n t) := fun ds st k k' e e' hk he h => by
  unfold gBodyX at h ⊢
  split at h
  · exact m _ _ (endOf k e) (endOf k' e') ⟨fun _ _ z => hk _ _ z, fun _ _ z => hk _ _ z, fun _ _ z => z, fun _ _ z => z, fun _ _ _ z => he _ _ z⟩ h
  · exact h
theorem enX_get {n i : Nat} {x : Xn} {t : T} (h : (enX n x)[i]? = some (some t)) : i = 0 ∧ t = .e x := by
  unfold enX at h
  cases i with
  | zero => simp at h; exact ⟨rfl, h.symm⟩
  | succ i =>
    rw [List.getElem?_cons_succ, List.getElem?_replicate] at h
    split at h <;> cases h
theorem XcF.at_ex {mg : Str → Option Value} {B : Bg} {xcs : List Xc} {xns : List Str} (o : Option (Addr × Value × Option Addr)) (h : XcF mg B xcs xns) : XcF mg (B.at o) xcs xns :=
  ⟨h.nx, h.at_, fun j c f h1 h2 => let ⟨M, e, T⟩ := h.m1 j c f h1 h2; ⟨⟨M.oex, M.no, M.ini⟩, e, T⟩, fun j c h1 h2 => let M := h.m0 j c h1 h2; ⟨M.ex, M.kp, M.sub, M.ty⟩, h.ex, h.nm⟩
/-- a def that is given the exception at hand keeps its promise -/
theorem hot_of {P : Program} {w : PySem.World} {mg : Str → Option Value} {base : Heap} {B : Bg} {Γ : Nat → Gam} {C : CC} {n : Nat} {x y qual x0 : Str} {params : Arguments} {body : List Stmt} {scope : Scope} {kws : List (Str × V)} {f : Addr} {fd : FuncData} {m : MSs}
    (FD : FunD B.K y qual params body scope [] kws f fd) (S : FnScope C.N [x0] scope) (hb : L2.Binds B.K fd [x0] []) (hm : mg x = some (.ref f)) (blt : ∀ x ∈ bltNames, mg x = none) (xf : XcF mg B C.xcs C.xns) (hc : hSs n C scope body = some m) (mono : MonoS (wSs Γ m)) : HotAt P w mg base B x (gBodyX C.N.length (wSs Γ m)) := by
  obtain ⟨oc, od, dV, kV, doc, pm, an, cdv, ct, osl, rfl, lk, hcd, _, _⟩ := FD.ex
  refine ⟨gBodyX_mono mono, f, hm, FD.kp, fun Z outer s H Q p xn cls d F r st hr hg e0 hpin hz hf W0 xr hq => ?_⟩
  have KX : B.K.In s.heap := e0.mod.kin.keeps fun b o e => (e0.bs b o e).1
  have lim : s.heap.NoLimit := e0.mod.nolimit.keeps fun b o e => (e0.bs b o e).1
  have hb' := hb s [.ref p.1] KX rfl
  refine codeAny_call_function hr.depth (KX _ _ lk) rfl S.co S.gen rfl (PySem.W.codeRec_of KX hcd) (hb' _ _ _ _ ?_)
  refine wpAny_newFunctionEnv_cells S.kind (fun ⟨y, v⟩ hy => ?_) fun env he s1 inC => ?_
  · rcases S.par y (List.of_mem_zip hy).1 with q | q
    · exact .inl q
    · exact .inr ⟨q, PySem.W.cellsFrom_some _ _ _ (.inl q)⟩
  subst he
  refine ⟨lim.keeps inC.toInCall.keep, codeAny_func ?_⟩
  have I := L2H.inv_startH (CX := C8.CX0) (E := C8.E0) (N := C.N) S hpin e0 rfl (.cons rfl .nil : Vals [V.ref p.1] [Value.ref p.1]) inC
  have G : GH mg (B.at (some (p.1, cls, d))) C scope (L2H.cxH C8.CX0 P w B.K mg base C.N qual scope f cdv Z outer s H C8.E0 p) p.1 p.2 cls d :=
    ⟨rfl, rfl, hg, by have := (hr.deeper (envOfC qual scope s.heap.objs.size f cdv)).un; show (Z.deeper (envOfC qual scope s.heap.objs.size f cdv)).units + 200 < cLine; omega, rfl, rfl, S.nd, fun _ => rfl, blt, xf.at_ex _, ⟨rfl, List.mem_singleton.mpr rfl, hz, hf⟩⟩
  have DB := (snd_HS mg (B.at (some (p.1, cls, d))) Γ C n).2 _ _ _ _ _ _ G body m hc
  have hN : 0 < C.N.length := by
    have h0 := congrArg List.length S.pre
    rw [List.length_take] at h0
    simp at h0
    omega
  have no : ∀ (σ : Sl) (a : Addr), ¬ OwnAt σ (enX C.N.length xn) a := fun σ a ⟨i, d, h, _⟩ => by
    obtain ⟨_, e⟩ := enX_get h
    cases e
  have R : Rel (B.at (some (p.1, cls, d))) F r (enX C.N.length xn) st (L2.start C.N [.ref p.1]) H := by
    refine ⟨World.at.mpr W0, fun i d h => ?_, fun i d h => ?_, fun i j a h _ => absurd ⟨i, h⟩ (no _ a), ?_, fun i x h => ?_⟩
    · obtain ⟨_, e⟩ := enX_get h
      cases e
    · obtain ⟨_, e⟩ := enX_get h
      cases e
    · unfold enX L2.start
      simp only [List.length_append, List.length_map, List.length_replicate, List.length_cons, List.length_nil]
      omega
    · obtain ⟨rfl, e⟩ := enX_get h
      cases e
      exact ⟨p.1, cls, d, rfl, rfl, XRep.at.mpr xr⟩
  unfold gBodyX at hq
  rw [dec_enc] at hq
  have hq' : wSs Γ m (enX C.N.length xn) st (endOf (caK B Q F r H) fun _ _ => False) := hq
  have post : tS (B.at (some (p.1, cls, d))) W0' (wSs Γ m) { nx := fun _ H' => Q .non H', rt := Q } (L2.start C.N [.ref p.1]) H := by
    refine ⟨F, r, enX C.N.length xn, st, R, mono.app hq' ⟨fun n' s' z => ?_, fun t s' z => ?_, fun _ _ z => z.elim, fun _ _ z => z.elim, fun x' n' s' z => z.elim⟩⟩
    · intro σ' F' r' H' S' R'
      exact z F' r' H' .non (S'.cstep (no _)) (World.at.mp R'.w) rfl
    · intro F' r' H' v ⟨σ', en', S'⟩ W' q
      refine z F' r' H' v (S'.cstep (no _)) (World.at.mp W') ?_
      cases t with
      | v d => exact (Rep.at d v).mp q
      | o d =>
        obtain ⟨a, e1, ⟨q1, q2, o, q3, q4⟩, q5⟩ := q
        exact ⟨a, e1, ⟨q1, q2, o, q3, ORep.at.mp q4⟩, q5.imp id fun z => (no _ a z).elim⟩
      | e x => exact q.elim
  refine wpAny_mono (DB.run.run [] s1 (L2.start C.N [.ref p.1]) H _ I post) (fun fl s' hs => ?_) fun e s' hs => hs
  cases fl with
  | ret u =>
    obtain ⟨v, σ', H', J, r1, q⟩ := hs
    exact ⟨v, H', J.os, J.bare, J.base, J.hok, r1, q⟩
  | next =>
    obtain ⟨σ', H', J, q⟩ := hs
    exact ⟨V.non, H', J.os, J.bare, J.base, J.hok, rfl, q⟩
  | brk => exact hs.elim fun _ z => z.elim fun _ z => z.2.elim
  | cont => exact hs.elim fun _ z => z.elim fun _ z => z.2.elim
def gNo : Nat → Gam := fun _ _ _ _ _ => False
def ClStep (T : Tb) (hi : Nat → Gam) (lo : Option (Nat → Gam)) (p : Nat) : Gam := fun ds st kk e => match T.pls[p]? with
  | none => False
  | some pl => match T.fns[pl.f]? with
    | none => False
    | some fn => match pl.isX with
      | true => gBodyX fn.N.length (wSs hi fn.m) ds st kk e
      | false => match arr pl.dfs ds pl.src with
        | none => False
        | some xs => match pl.low with
          | false => gBody fn.N.length (wSs hi fn.m) xs st kk e
          | true => match lo with
            | none => False
            | some l => gBody fn.N.length (wSs l fn.m) xs st kk e
/-- the calls of a level, and those of the level below it -/
def ClP (T : Tb) : Nat → (Nat → Gam) × Option (Nat → Gam)
  | 0 => (gNo, none)
  | k + 1 => (ClStep T (ClP T k).1 (ClP T k).2, some (ClP T k).1)
def Cl (T : Tb) (k : Nat) : Nat → Gam := (ClP T k).1
/-- a def of the table, as it stands -/
def cBd : Bool → Nat → CC → Scope → List Stmt → Option MSs
  | false => cSs
  | true => hSs
structure FnAt (B : Bg) (T : Tb) (cs : List (Addr × Addr)) (fn : Fn) (f : Addr) (fd : FuncData) (dvs : List V) : Prop where
  fd : ∃ (qual : Str) (params : Arguments) (body : List Stmt) (scope : Scope) (kws : List (Str × V)) (n : Nat), FunD B.K fn.x qual params body scope dvs kws f fd ∧ FnScope fn.N fn.ps scope ∧ cBd fn.fl.xm n (T.cc fn) scope body = some fn.m ∧
    (fn.fl.lam = true → ∃ c P, fd.code = .ref c ∧ (c, P) ∈ cs ∧ (P, qual ++ ".<locals>." ++ "<lambda>") ∈ B.tabs ∧ ∀ p ∈ B.tabs, p.1 = P → p.2 = qual ++ ".<locals>." ++ "<lambda>")
/-- an own ==, the plain != -/
structure EqAt (K : PySem.W.Frag) (C f : Addr) : Prop where
  eq : PySem.W.findIn K (.ref C) "__eq__" = some (some (.ref f))
  fn : PySem.W.isFn K (.ref f) = true
  ne : PySem.W.findIn K (.ref C) "__ne__" = some (some (.builtin "object.__ne__"))
/-- an own __str__ -/
structure StAt (K : PySem.W.Frag) (C f : Addr) : Prop where
  st : PySem.W.findIn K (.ref C) "__str__" = some (some (.ref f))
  fn : PySem.W.isFn K (.ref f) = true
theorem repr_own {K : PySem.W.Frag} {prog : Program} {w : PySem.World} {A : Around} {E Q : Value → Shared → Prop} {s : Shared} {x C f : Addr} {ox : Obj} {od : Option Obj} (hu : A.in1.units < cLine) (kin : K.In s.heap) (J : PySem.W.InstAt s.heap x ox C od) (hs : PySem.W.findIn K (.ref C) "__repr__" = some (some (.ref f))) (hf : PySem.W.isFn K (.ref f) = true)
    (h : wpAny (model prog w) A.in1 (call (.ref f) [.ref x]) (PySem.W.StrBack Q) E s) : wpAny (model prog w) A (call (.builtin "repr") [.ref x]) Q E s := by
  refine Calls.call_function_entry PySem.F.kind_repr PySem.F.plain_repr PySem.F.entry_repr (PySem.F.args_repr1 (.ref x)) ?_
  unfold Builtin.«repr»
  refine wpAny_bind (m := oneArg "repr" ⟨[.ref x], []⟩) (wpAny_pure (wpAny_bind (wpAny_cRoomFor hu (wpAny_bind (wpAny_bind (J.type.here ((PySem.W.looks_findIn kin hs).here ?_)))))))
  show wpAny _ _ (if (some (Value.ref f)).isNone = true then _ else _) _ _ _
  rw [if_neg (show ¬ (some (Value.ref f)).isNone = true from fun z => nomatch z)]
  refine wpAny_bind (m := callSpecialIfBound? (.ref x) (Str.ofString "__repr__") []) (PySem.W.ifBound_K kin J hs hf (wpAny_mono h (fun v s' hv => ?_) fun _ _ z => z))
  cases v <;> first | exact hv.elim | skip
  exact wpAny_bind (wpAny_isInstance (T := "str") (b := true) (typeIs_str _ _ _) isSubtype_str_str (wpAny_pure ⟨_, rfl, hv⟩))
structure RpAt (K : PySem.W.Frag) (C f : Addr) : Prop where
  st : PySem.W.findIn K (.ref C) "__repr__" = some (some (.ref f))
  fn : PySem.W.isFn K (.ref f) = true
/-- where a pattern's def stands -/
def Loc_ (mg : Str → Option Value) (B : Bg) (q : Pat) (f : Addr) : Prop := match q.kd with
  | .fn => mg q.x = some (.ref f)
  | .kx => mg q.x = some (.ref f) ∧ q.n = 1 ∧ q.ks = []
  | .meth c => Meth B.K (B.cls c) q.x f ∧ c < B.nc
  | .prop c => (∃ pp, PropOf B.K (B.cls c) q.x pp f) ∧ q.n = 0 ∧ q.ks = [] ∧ c < B.nc
  | .init c => Mk B.K (B.cls c) f ∧ c < B.nc
  | .cmp c => EqAt B.K (B.cls c) f ∧ q.n = 1 ∧ q.ks = [] ∧ c < B.nc
  | .sto c => StAt B.K (B.cls c) f ∧ q.n = 0 ∧ q.ks = [] ∧ c < B.nc
  | .rpo c => RpAt B.K (B.cls c) f ∧ q.n = 0 ∧ q.ks = [] ∧ c < B.nc
/-- everything that is known of the table -/
structure TbOk (mg : Str → Option Value) (B : Bg) (T : Tb) (cs : List (Addr × Addr)) : Prop where
  blt : ∀ x ∈ bltNames, mg x = none
  glob : ∀ x d, T.glob.lookup x = some d → ∃ v u, mg x = some u ∧ RelV v u ∧ ∀ F r, Rep B F r d v
  cf : ClsF mg B T.clss
  xf : XcF mg B T.xcs T.xns
  tel : ∀ tl ∈ T.tls, TelF mg B T.xcs T.xns tl
  pl : ∀ (p : Nat) (pl : Pl), T.pls[p]? = some pl → ∃ fn f fd dvs, T.fns[pl.f]? = some fn ∧ Loc_ mg B pl.pat f ∧ FnAt B T cs fn f fd dvs ∧ PatOk B.K fd fn.ps pl.n pl.pat.ks dvs pl.src ∧ (∀ F r, Reps B F r pl.dfs dvs) ∧ pl.isX = fn.fl.xm ∧ (pl.isX = true → dvs = [] ∧ ∃ x0, fn.ps = [x0] ∧ L2.Binds B.K fd [x0] [])
theorem pats_get {T : Tb} {p : Nat} {q : Pat} (h : T.pats[p]? = some q) : ∃ pl, T.pls[p]? = some pl ∧ pl.pat = q := by
  unfold Tb.pats at h
  rw [List.getElem?_map] at h
  exact Option.map_eq_some_iff.mp h
/-- what is known at a level -/
def Cal (A : Amb) (B : Bg) (T : Tb) (k : Nat) : Prop := ∀ p pl, T.pls[p]? = some pl → ∀ X W, InAmb { A with k := k } B X → Takes X W → PatSem B W X pl.pat (Cl T k p)
theorem Cal.pat {A : Amb} {B : Bg} {T : Tb} {k : Nat} (cal : Cal A B T k) : ∀ p q, T.pats[p]? = some q → ∀ X' W', InAmb { A with k := k } B X' → Takes X' W' → PatSem B W' X' q (Cl T k p) := fun p q hq X' W' i t => by
  obtain ⟨pl, e1, rfl⟩ := pats_get hq
  exact cal p pl e1 X' W' i t
/-- the tables of code objects, at the ground -/
def LamB (A : Amb) (cs : List (Addr × Addr)) : Prop := ∀ p ∈ cs, LamX.TabB A.base A.mg p.1 p.2
theorem TbOk.ex {mg : Str → Option Value} {B : Bg} {T : Tb} {cs : List (Addr × Addr)} (O : TbOk mg B T cs) (fn : Fn) : ExF mg B (T.cc fn) := ⟨O.xf, O.tel⟩
theorem lamT_of {A : Amb} {B : Bg} {fl : Flg} {qual : Str} {cdv : Value} {cs : List (Addr × Addr)} (L : LamB A cs) (h : fl.lam = true → ∃ c P, cdv = .ref c ∧ (c, P) ∈ cs ∧ (P, qual ++ ".<locals>." ++ "<lambda>") ∈ B.tabs ∧ ∀ p ∈ B.tabs, p.1 = P → p.2 = qual ++ ".<locals>." ++ "<lambda>") : LamT A B fl qual cdv := fun z => by
  obtain ⟨c, P, e, m, r⟩ := h z
  exact ⟨c, P, e, L _ m, r⟩
theorem fn_go {A : Amb} {B : Bg} {T : Tb} {cs : List (Addr × Addr)} {fn : Fn} {f : Addr} {fd : FuncData} {dvs : List V} {k : Nat} (O : TbOk A.mg B T cs) (L : LamB A cs) (F : FnAt B T cs fn f fd dvs) (hx : fn.fl.xm = false) (hk : A.k = k + 1) (cal : Cal A B T k) : GOk A B f fd fn.ps (gBody fn.N.length (wSs (Cl T k) fn.m)) := by
  obtain ⟨qual, params, body, scope, kws, n, F1, F2, F3, F4⟩ := F.fd
  rw [hx] at F3
  exact gfn (C := T.cc fn) F1 F2 hk O.blt O.glob cal.pat O.cf (O.ex fn) (lamT_of (A := { A with k := k }) (fl := fn.fl) L F4) F3
theorem fn_mono {A : Amb} {B : Bg} {T : Tb} {cs : List (Addr × Addr)} {fn : Fn} {f : Addr} {fd : FuncData} {dvs : List V} {k : Nat} {Z : Around} {outer : List Env} {s : Shared} {H : Hp} (O : TbOk A.mg B T cs) (L : LamB A cs) (F : FnAt B T cs fn f fd dvs) (hx : fn.fl.xm = false) (hr : Room (3 * (k + 1) + 4) Z) (hg : Z.guards = some []) (cal : Cal A B T k) : MonoS (wSs (Cl T k) fn.m) := by
  obtain ⟨qual, params, body, scope, kws, n, F1, F2, F3, F4⟩ := F.fd
  rw [hx] at F3
  have G := gs_body (A := { A with k := k }) (B := B) (Γ := Cl T k) (C := T.cc fn) (qual := qual) (f := f) (cdv := fd.code) (outer := outer) (s := s) (H := H) (E := fun _ _ _ => False) (Z := Z) F2 ((hr.mono (by omega : 3 * k + 6 + 1 ≤ 3 * (k + 1) + 4)).deeper _) hg O.blt O.glob cal.pat O.cf (O.ex fn) (lamT_of (A := { A with k := k }) (fl := fn.fl) L F4)
  exact ((snd_S { A with k := k } B (Cl T k) (T.cc fn) n).Ss _ _ _ G body fn.m F3).mono
/-- the arguments, laid out -/
def arrG (dd : List D) (src : List Src) (g : Gam) : Gam := fun ds st k e => match arr dd ds src with
  | none => False
  | some xs => g xs st k e
theorem arrG_mono {dd : List D} {src : List Src} {g : Gam} (mg : MonoC g) : MonoC (arrG dd src g) := fun ds st k k' e e' hk he h => by
  unfold arrG at h ⊢
  split at h
  · exact h.elim
  · exact mg _ _ _ _ _ _ hk he h
theorem env0_of {A : Amb} {B : Bg} {X : Cx} {pins : List (Addr × Obj)} {σ : Sl} {H : Hp} {s : Shared} (hi : InAmb A B X) (I : Inv X pins σ H s) : Env0 A.P A.w B.K A.mg A.base X.A X.stack s H := by
  have q := I.env0
  rw [hi.prog, hi.w, hi.K, hi.mg, hi.base] at q
  exact q
/-- a def's promise, as a caller uses it -/
theorem run_of {A : Amb} {B : Bg} {X : Cx} {W : WX} {f : Addr} {fd : FuncData} {ps ks : List Str} {n : Nat} {dvs : List V} {dd : List D} {src : List Src} {g : Gam} (G : GOk A B f fd ps g) (mg : MonoC g)
    (hi : InAmb A B X) (tk : Takes X W) (P : PatOk B.K fd ps n ks dvs src) (hd : ∀ F r, Reps B F r dd dvs) : RunAt B W X f n ks (arrG dd src g) := by
  intro pins σ H s Q us ws vs zs F r en st ds I r1 r2 l1 l2 R rep h
  obtain ⟨its, hv, hto⟩ := P.to
  have kin : B.K.In s.heap := hi.K ▸ I.kIn
  obtain ⟨ys, e1, hb⟩ := hto s us ws kin (r1.length.symm.trans l1) (r2.length.symm.trans l2)
  obtain ⟨xs', e2, hvv⟩ := arr_vals hv (r1.append r2) e1
  unfold arrG at h
  split at h
  · exact h.elim
  rename_i xs ex
  obtain ⟨xs2, e3, hrep⟩ := arr_reps (hd F r) rep ex
  rw [e2] at e3
  cases e3
  have run := G.run X.A X.stack s H ⟨us, ks.zip ws⟩ ys xs' Q (fun cls d H' => W cls d σ H') F r st xs hi.room hi.gd (env0_of hi I) hb hvv ((arr_len ex).trans P.len) R.w hrep (mg _ _ _ _ _ _ (fun t st' z => ca_k R z) (fun x' st' z => fun F' r' H' cls d S' W' q => z F' r' H' cls d S'.step (R.call S' W') q) h)
  rw [hi.prog, hi.w]
  refine wpAny_call (codeAny_mono run fun r s' hq => ?_)
  cases r with
  | error e =>
    refine tk e s' (XE.of_call (E := fun cls d H' => W cls d σ H') I (fun _ _ _ z => z) ?_)
    rw [hi.prog, hi.w]
    exact hq
  | ok fl =>
    cases fl with
    | ret u =>
      refine I.after ?_
      rw [hi.prog, hi.w]
      exact hq
    | next => exact False.elim hq
    | brk => exact False.elim hq
    | cont => exact False.elim hq
theorem make_guards {A : Around} {C : Addr} {us : List Value} {kw : List (Str × Value)} : (A.under (.builtin "type.__call__" ⟨.ref C :: us, kw⟩)).guards = A.guards := by
  first | rfl | (cases h : A.guards <;> simp [Around.under, Code.guards, Code.isGuard, guardIds, pushGuards, h])
/-- a class is made: its __init__ runs at the new instance -/
theorem make_of {A : Amb} {B : Bg} {X : Cx} {W : WX} {f : Addr} {fd : FuncData} {ps ks : List Str} {n c k : Nat} {dvs : List V} {dd : List D} {src : List Src} {g : Gam} (G : GOk { A with k := k } B f fd ps g) (mg : MonoC g)
    (hi : InAmb A B X) (hk : A.k = k + 1) (tk : Takes X W) (P : PatOk B.K fd ps (n + 1) ks dvs src) (hd : ∀ F r, Reps B F r dd dvs) (M : Mk B.K (B.cls c) f) (hc : c < B.nc) : MakeOk B W X c n ks (arrG dd src g) := by
  refine ⟨arrG_mono mg, by rw [hi.K]; exact M.kp, fun pins σ H s Q us ws vs zs F r en st ds I r1 r2 l1 l2 R rep h => ?_⟩
  have hr : Room (3 * k + 4 + 1) X.A := hi.room.mono (by rw [hk]; omega)
  have I2 := Inv.made (C := B.cls c) I
  have nx : H (s.heap.objs.size + 1) = none := I.hok.fresh (Nat.le_succ _)
  have nd : H s.heap.objs.size = none := I.hok.fresh (Nat.le_refl _)
  obtain ⟨its, hv, hto⟩ := P.to
  have kin2 : B.K.In ((s.heap.push PySem.W.emptyDict).push (PySem.W.instObj (B.cls c) s.heap.objs.size)) := hi.K ▸ I2.kIn
  obtain ⟨ys, e1, hb⟩ := hto { s with heap := (s.heap.push PySem.W.emptyDict).push (PySem.W.instObj (B.cls c) s.heap.objs.size) } (.ref (s.heap.objs.size + 1) :: us) ws kin2 (by rw [List.length_cons, r1.length.symm.trans l1]) (r2.length.symm.trans l2)
  have rvs : Vals (V.ref (s.heap.objs.size + 1) :: vs) (Value.ref (s.heap.objs.size + 1) :: us) := .cons rfl r1
  obtain ⟨xs', e2, hvv⟩ := arr_vals hv (rvs.append r2) e1
  -- the new instance is a box
  have nx2 : upd H s.heap.objs.size (.own (s.heap.objs.size + 1)) (s.heap.objs.size + 1) = none := by rw [upd_ne (Nat.ne_of_gt (Nat.lt_succ_self _))]; exact nx
  have R1 := (R.alloc (o := .own (s.heap.objs.size + 1)) nd).alloc (o := .ins (B.cls c) s.heap.objs.size []) nx2
  have S1 : Step σ en F r H σ en F r (upd (upd H s.heap.objs.size (.own (s.heap.objs.size + 1))) (s.heap.objs.size + 1) (.ins (B.cls c) s.heap.objs.size [])) := (Step.alloc nd).trans (Step.alloc nx2)
  have fr := R.w.fresh nx
  obtain ⟨r', S2, R2, p2⟩ := Rel.box (d := .obj c []) (v := .ref (s.heap.objs.size + 1)) S1 R1 ⟨_, rfl, ⟨fr.1, fr.2, _, upd_same, hc, s.heap.objs.size, [], rfl, rfl⟩, R.noOwn nx, .inl nx⟩
  have er : r' = r ++ [s.heap.objs.size + 1] := by
    obtain ⟨t, et, _⟩ := S2.pre
    obtain ⟨a, g1, g2⟩ := p2
    cases g2
    have hl := R2.w.len
    rw [List.length_append, R.w.len, et, List.length_append] at hl
    have e1 : [D.obj c []].length = 1 := rfl
    rw [et, R.w.len, List.getElem?_append_right (Nat.le_refl _), Nat.sub_self] at g1
    cases t with
    | nil => cases g1
    | cons b t =>
      have e2 : (b :: t).length = t.length + 1 := rfl
      have e3 : t = [] := List.eq_nil_of_length_eq_zero (by omega)
      subst e3
      simp at g1
      rw [et, g1]
  subst er
  have C1 : CStep F r H F (r ++ [s.heap.objs.size + 1]) (upd (upd H s.heap.objs.size (.own (s.heap.objs.size + 1))) (s.heap.objs.size + 1) (.ins (B.cls c) s.heap.objs.size [])) :=
    ⟨fun a o e _ _ => sub_upd nx2 a o (sub_upd nd a o e), S1.there, Sub.refl _, ⟨[s.heap.objs.size + 1], rfl, fun a ha => by rw [List.mem_singleton] at ha; rw [ha]; exact nx⟩, fun a o e => .inl e⟩
  have rep2 : Reps B F (r ++ [s.heap.objs.size + 1]) (.box st.length :: ds) (V.ref (s.heap.objs.size + 1) :: (vs ++ zs)) := ⟨_, _, rfl, p2, rep.step S2⟩
  unfold arrG at h
  split at h
  · exact h.elim
  rename_i xs ex
  obtain ⟨xs2, e3, hrep⟩ := arr_reps (hd F (r ++ [s.heap.objs.size + 1])) rep2 ex
  have e3' : arr dvs (V.ref (s.heap.objs.size + 1) :: vs ++ zs) src = some xs2 := e3
  rw [e2] at e3'
  cases e3'
  have cat : ∀ {F' r'' H'}, CStep F (r ++ [s.heap.objs.size + 1]) (upd (upd H s.heap.objs.size (.own (s.heap.objs.size + 1))) (s.heap.objs.size + 1) (.ins (B.cls c) s.heap.objs.size [])) F' r'' H' → ∃ t, r'' = r ++ (s.heap.objs.size + 1) :: t ∧ CStep F r H F' r'' H' := fun {F' r'' H'} C => by
    obtain ⟨t, e, ht⟩ := C.pre
    refine ⟨t, by rw [e, List.append_assoc]; rfl, fun a o z hr nt => ?_, fun a z => C1.there a (C.there a z), C1.grow.trans C.grow, ⟨(s.heap.objs.size + 1) :: t, by rw [e, List.append_assoc]; rfl, fun a ha => ?_⟩, fun a o z => ?_⟩
    · refine C.keep a o (C1.keep a o z hr nt) (fun y => ?_) nt
      rcases List.mem_append.mp y with y | y
      · exact hr y
      · rw [List.mem_singleton] at y
        rw [y, nx] at z
        cases z
    · rcases List.mem_cons.mp ha with y | y
      · rw [y]; exact nx
      · exact C1.there a (ht a y)
    · rcases C.new a o z with y | y
      · exact .inl y
      · exact .inr (C1.there a y)
  have E2 := (env0_of hi I2).make (B.cls c) us (ks.zip ws)
  have run := G.run _ X.stack _ _ ⟨.ref (s.heap.objs.size + 1) :: us, ks.zip ws⟩ ys xs' (fun v H' => v = .non ∧ Q (.ref (s.heap.objs.size + 1)) H') (fun cls d H' => W cls d σ H') F (r ++ [s.heap.objs.size + 1]) (st ++ [.obj c []]) xs (hr.make (B.cls c) us (ks.zip ws)) (by rw [make_guards]; exact hi.gd) E2 hb hvv ((arr_len ex).trans P.len) R2.w hrep
    (mg _ _ _ _ _ _ (fun t st' z => by
      obtain ⟨rfl, z⟩ := z
      intro F' r'' H' v C W' q
      obtain ⟨t, rfl, C'⟩ := cat C
      exact ⟨q, z F' _ t H' C' W'⟩) (fun xx st' z => fun F' r'' H' cls d C W' q => by
      obtain ⟨t, rfl, C'⟩ := cat C
      exact z F' _ t H' cls d C' W' q) h)
  rw [hi.prog, hi.w]
  have kin0 : B.K.In s.heap := hi.K ▸ I.kIn
  refine wpAny_call (make_map (f := f) kin0 M.makes M.init (beq_iff_eq.mp M.fn) (codeAny_mono run fun r s' hq => ?_))
  cases r with
  | error e =>
    refine tk e s' (XE.of_call (E := fun cls d H' => W cls d σ H') I2 (fun _ _ _ z => z) ?_)
    rw [hi.prog, hi.w]
    exact hq
  | ok fl =>
    cases fl with
    | ret u =>
      obtain ⟨v, H', I3, rv, ev, q3⟩ := I2.after (by rw [hi.prog, hi.w]; exact hq)
      subst ev
      exact ⟨rv, ⟨V.ref (s.heap.objs.size + 1), H', I3, rfl, q3⟩⟩
    | next => exact False.elim hq
    | brk => exact False.elim hq
    | cont => exact False.elim hq
/-- a property is read: its getter runs -/
theorem prop_of {A : Amb} {B : Bg} {X : Cx} {f pp : Addr} {fd : FuncData} {ps : List Str} {c k : Nat} {nm : Str} {dvs : List V} {dd : List D} {src : List Src} {g : Gam} (G : GOk { A with k := k } B f fd ps g) (mg : MonoC g)
    (hi : InAmb A B X) (hk : A.k = k + 1) (P : PatOk B.K fd ps 1 [] dvs src) (hd : ∀ F r, Reps B F r dd dvs) (hp : PropOf B.K (B.cls c) nm pp f) (hcl : Cls B.K (B.cls c)) : PropOk B X c nm (arrG dd src g) := by
  refine ⟨arrG_mono mg, fun pins σ H s Q a dx ws F r en st d b E' I ea R rep h => ?_⟩
  have hr : Room (3 * k + 4 + 1) X.A := hi.room.mono (by rw [hk]; omega)
  obtain ⟨mA, O, _, _, _, _⟩ := ins_get I.hok ea
  obtain ⟨od, J, _⟩ := O.look
  obtain ⟨rest, hrec⟩ := hp.rec_
  have I1 := I.tok (s.toks + 1)
  have kin0 : B.K.In s.heap := hi.K ▸ I.kIn
  obtain ⟨its, hv, hto⟩ := P.to
  obtain ⟨ys, e1, hb⟩ := hto { s with toks := s.toks + 1 } [.ref a] [] (hi.K ▸ I1.kIn) rfl rfl
  have rvs : Vals [V.ref a] [Value.ref a] := .cons rfl .nil
  obtain ⟨xs', e2, hvv⟩ := arr_vals hv (rvs.append .nil) e1
  unfold arrG at h
  split at h
  · exact h.elim
  rename_i xs ex
  obtain ⟨xs2, e3, hrep⟩ := arr_reps (hd F r) (show Reps B F r [d] [V.ref a] from ⟨_, _, rfl, rep, rfl⟩) ex
  have e3' : arr dvs ([V.ref a] ++ []) src = some xs2 := e3
  rw [e2] at e3'
  cases e3'
  have hcs : (PySem.W.clsIn B.K (B.cls c)).isSome = true := by
    obtain ⟨cd, hc, _⟩ := PySem.W.any_some hcl.hd
    rw [hc]
    rfl
  have E1 := (env0_of hi I1).in1
  have run := G.run X.A.in1 X.stack { s with toks := s.toks + 1 } H ⟨[.ref a], []⟩ ys xs' Q (fun _ _ _ => False) F r st xs hr.in1 hi.gd E1 hb hvv ((arr_len ex).trans P.len) R.w hrep (mg _ _ _ _ _ _ (fun t st' z => ca_k R z) (fun _ _ z => z.elim) h)
  rw [hi.prog, hi.w]
  refine PySem.W.get_bind kin0 J (PySem.W.plainGet_of (hcl.get nm)).1 (PySem.W.findObj_data hcs hp.at_ hp.get hp.tak) (PySem.W.plainGet_of (hcl.get nm)).2 (wpAny_call (PySem.W.prop_get (s := { s with toks := s.toks + 1 }) kin0 hrec ?_))
  refine codeAny_mono run fun r s' hq => ?_
  cases r with
  | error er =>
    obtain ⟨_, _, _, _, _, _, _, _, _, _, _, _, z⟩ := hq
    exact z.elim
  | ok fl =>
    cases fl with
    | ret u =>
      obtain ⟨v, H', I3, rv, q3⟩ := I1.after (by rw [hi.prog, hi.w]; exact hq)
      show wpAny _ _ (handedOut u) _ _ _
      rw [PySem.W.handedOut_of (handed_of rv)]
      exact wpAny_pure ⟨v, H', I3, rv, q3⟩
    | next => exact False.elim hq
    | brk => exact False.elim hq
    | cont => exact False.elim hq
theorem InAmb.down {A : Amb} {B : Bg} {X : Cx} {k : Nat} (hi : InAmb A B X) (h : k ≤ A.k) : InAmb { A with k := k } B X := ⟨hi.prog, hi.w, hi.K, hi.mg, hi.base, hi.room.mono (by show 3 * k + 4 ≤ _; omega), hi.gd⟩
theorem cl_eq {T : Tb} {p k : Nat} {pl : Pl} {fn : Fn} (hp : T.pls[p]? = some pl) (e1 : T.fns[pl.f]? = some fn) (hx : pl.isX = false) : Cl T (k + 1) p = arrG pl.dfs pl.src (match pl.low with
    | false => gBody fn.N.length (wSs (Cl T k) fn.m)
    | true => match (ClP T k).2 with
      | none => gNo 0
      | some l => gBody fn.N.length (wSs l fn.m)) := by
  funext ds st kk e
  show ClStep T (ClP T k).1 (ClP T k).2 p ds st kk e = _
  unfold ClStep arrG
  rw [hp]
  dsimp only
  rw [e1]
  dsimp only
  rw [hx]
  dsimp only
  cases arr pl.dfs ds pl.src with
  | none => rfl
  | some xs =>
    cases pl.low with
    | false => rfl
    | true =>
      cases (ClP T k).2 <;> rfl
theorem cl_eqX {T : Tb} {p k : Nat} {pl : Pl} {fn : Fn} (hp : T.pls[p]? = some pl) (e1 : T.fns[pl.f]? = some fn) (hx : pl.isX = true) : Cl T (k + 1) p = gBodyX fn.N.length (wSs (Cl T k) fn.m) := by
  funext ds st kk e
  show ClStep T (ClP T k).1 (ClP T k).2 p ds st kk e = _
  unfold ClStep
  rw [hp]
  dsimp only
  rw [e1]
  dsimp only
  rw [hx]
  rfl
theorem no_sem {B : Bg} {W : WX} {X : Cx} {q : Pat} {mg : Str → Option Value} {f : Addr} {g : Gam} (hK : X.K = B.K) (hm : X.mg = mg) (L : Loc_ mg B q f) (kp : PySem.W.keepIn B.K (.ref f) = true) (cf : ∀ c, c < B.nc → Cls B.K (B.cls c)) (hg : ∀ ds st k e, g ds st k e → False) : PatSem B W X q g := by
  have mono : MonoC g := fun _ _ _ _ _ _ _ _ h => (hg _ _ _ _ h).elim
  unfold PatSem
  unfold Loc_ at L
  split
  · rename_i hk
    rw [hk] at L
    exact ⟨mono, f, by rw [hm]; exact L, by rw [hK]; exact kp, fun _ _ _ _ _ _ _ _ _ _ _ _ _ _ _ _ _ _ _ _ _ h => (hg _ _ _ _ h).elim⟩
  · rename_i c hk
    rw [hk] at L
    exact ⟨mono, by rw [hK]; exact cf c L.2, f, by rw [hK]; exact L.1, fun _ _ _ _ _ _ _ _ _ _ _ _ _ _ _ _ _ _ _ _ _ h => (hg _ _ _ _ h).elim⟩
  · exact ⟨mono, fun _ _ _ _ _ _ _ _ _ _ _ _ _ _ _ _ _ _ _ h => (hg _ _ _ _ h).elim⟩
  · rename_i c hk
    rw [hk] at L
    exact ⟨mono, by rw [hK]; exact L.1.kp, fun _ _ _ _ _ _ _ _ _ _ _ _ _ _ _ _ _ _ _ _ _ h => (hg _ _ _ _ h).elim⟩
  · exact ⟨mono, fun _ _ _ _ _ _ _ _ _ _ _ _ _ _ _ _ _ _ _ _ _ _ _ _ _ _ h => (hg _ _ _ _ h).elim⟩
  · rename_i hk
    rw [hk] at L
    exact ⟨mono, f, by rw [hm]; exact L.1, kp, fun _ _ _ _ _ _ _ _ _ _ _ _ _ _ _ _ _ _ _ _ h => (hg _ _ _ _ h).elim⟩
  · exact ⟨mono, fun _ _ _ _ _ _ _ _ _ _ _ _ _ _ _ _ _ _ _ h => (hg _ _ _ _ h).elim⟩
  · exact ⟨mono, fun _ _ _ _ _ _ _ _ _ _ _ _ _ _ _ _ _ _ _ h => (hg _ _ _ _ h).elim⟩
/-- a class's == -/
theorem cmp_of {A : Amb} {B : Bg} {X : Cx} {f : Addr} {fd : FuncData} {ps : List Str} {c k : Nat} {dvs : List V} {dd : List D} {src : List Src} {g : Gam} (G : GOk { A with k := k } B f fd ps g) (mg : MonoC g)
    (hi : InAmb A B X) (hk : A.k = k + 1) (P : PatOk B.K fd ps 2 [] dvs src) (hd : ∀ F r, Reps B F r dd dvs) (hq : EqAt B.K (B.cls c) f) (hm : PySem.W.mroIn B.K (B.cls c) (.type "object") = some true) : CmpOk B X c (arrG dd src g) := by
  refine ⟨arrG_mono mg, fun neg pins σ' σ H s Q a b dx dy vs ws F r en st d d' E' I ea eb R ra rb h => ?_⟩
  have hr : Room (3 * k + 4 + 1) X.A := hi.room.mono (by rw [hk]; omega)
  obtain ⟨mA, OA, _⟩ := ins_get I.hok ea
  obtain ⟨mB, OB, _⟩ := ins_get I.hok eb
  obtain ⟨od, JA, _⟩ := OA.look
  obtain ⟨od', JB, _⟩ := OB.look
  have kin0 : B.K.In s.heap := hi.K ▸ I.kIn
  obtain ⟨its, hv, hto⟩ := P.to
  obtain ⟨ys, e1, hb⟩ := hto s [.ref a, .ref b] [] kin0 rfl rfl
  have rvs : Vals [V.ref a, V.ref b] [Value.ref a, Value.ref b] := .cons rfl (.cons rfl .nil)
  obtain ⟨xs', e2, hvv⟩ := arr_vals hv (rvs.append .nil) e1
  unfold arrG at h
  split at h
  · exact h.elim
  rename_i xs ex
  obtain ⟨xs2, e3, hrep⟩ := arr_reps (hd F r) (show Reps B F r [d, d'] [V.ref a, V.ref b] from ⟨_, _, rfl, ra, _, _, rfl, rb, rfl⟩) ex
  have e3' : arr dvs ([V.ref a, V.ref b] ++ []) src = some xs2 := e3
  rw [e2] at e3'
  cases e3'
  have main : ∀ (Z : Around), Room (3 * k + 4) Z → Z.guards = some [] → Env0 A.P A.w B.K A.mg A.base Z X.stack s H → wpAny (model A.P A.w) Z (call (.ref f) [.ref a, .ref b]) (fun v s' => ∃ t, v = .bool t ∧ EP X pins σ' Q (.bool (neg != t)) s') E' s := by
    intro Z hz hg e0
    have run := G.run Z X.stack s H ⟨[.ref a, .ref b], []⟩ ys xs' (fun v H' => ∃ t0 : Bool, v = .bl t0 ∧ Q (.bl (neg != t0)) H') (fun _ _ _ => False) F r st xs hz hg e0 hb hvv ((arr_len ex).trans P.len) R.w hrep (mg _ _ _ _ _ _ (fun t st' z => ?_) (fun _ _ z => z.elim) h)
    · refine wpAny_call (codeAny_mono run fun rr s' hq => ?_)
      cases rr with
      | error er =>
        obtain ⟨_, _, _, _, _, _, _, _, _, _, _, _, z⟩ := hq
        exact z.elim
      | ok fl =>
        cases fl with
        | ret u =>
          obtain ⟨v, H', I3, rv, t0, e4, q3⟩ := I.after (by rw [hi.prog, hi.w]; exact hq)
          subst e4
          cases rv
          exact ⟨t0, rfl, .bl (neg != t0), H', I3, rfl, q3⟩
        | next => exact False.elim hq
        | brk => exact False.elim hq
        | cont => exact False.elim hq
    · obtain ⟨t0, rfl, z⟩ := z
      exact ca_k (Q := fun v H' => ∃ t0 : Bool, v = .bl t0 ∧ Q (.bl (neg != t0)) H') R (fun F' r' H' v S' R' q => by
        cases q
        exact ⟨t0, rfl, z F' r' H' _ S' R' rfl⟩)
  rw [hi.prog, hi.w]
  have u0 := hr.units0
  cases neg with
  | false =>
    obtain ⟨m0, hF⟩ := I.fr
    have mod : B.K.In X.base := hi.K ▸ I.ok.mod.kin
    refine PySem.W.cmp_K (op := .Eq) (tb := .ref (B.cls c)) u0 hF mod JA JB.type (by simp [PySem.W.notFirst]) hq.eq hq.fn (wpAny_mono (main X.A (hr.mono (Nat.le_succ _)) hi.gd (env0_of hi I)) (fun v s' ⟨t, e, z⟩ => ?_) fun _ _ z => z)
    subst e
    cases t <;> exact z
  | true =>
    refine rc_ne u0 hr.in1.units0 kin0 JA JB.type hm hq.ne hq.eq hq.fn (wpAny_mono (main X.A.in1 hr.in1 hi.gd (env0_of hi I).in1) (fun v s' ⟨t, e, z⟩ => ⟨t, e, ?_⟩) fun _ _ z => z)
    cases t <;> exact z
/-- a class's __str__ -/
theorem sto_of {A : Amb} {B : Bg} {X : Cx} {f : Addr} {fd : FuncData} {ps : List Str} {c k : Nat} {dvs : List V} {dd : List D} {src : List Src} {g : Gam} (G : GOk { A with k := k } B f fd ps g) (mg : MonoC g)
    (hi : InAmb A B X) (hk : A.k = k + 1) (P : PatOk B.K fd ps 1 [] dvs src) (hd : ∀ F r, Reps B F r dd dvs) (hq : StAt B.K (B.cls c) f) : StoOk B X c (arrG dd src g) := by
  refine ⟨arrG_mono mg, fun pins σ' σ H s Q a dx vs F r en st d E' I ea R ra h => ?_⟩
  have hr : Room (3 * k + 4 + 1 + 1) X.A := hi.room.mono (by rw [hk]; omega)
  obtain ⟨mA, OA, _⟩ := ins_get I.hok ea
  obtain ⟨od, JA, _⟩ := OA.look
  have kin0 : B.K.In s.heap := hi.K ▸ I.kIn
  obtain ⟨its, hv, hto⟩ := P.to
  obtain ⟨ys, e1, hb⟩ := hto s [.ref a] [] kin0 rfl rfl
  have rvs : Vals [V.ref a] [Value.ref a] := .cons rfl .nil
  obtain ⟨xs', e2, hvv⟩ := arr_vals hv (rvs.append .nil) e1
  unfold arrG at h
  split at h
  · exact h.elim
  rename_i xs ex
  obtain ⟨xs2, e3, hrep⟩ := arr_reps (hd F r) (show Reps B F r [d] [V.ref a] from ⟨_, _, rfl, ra, rfl⟩) ex
  have e3' : arr dvs ([V.ref a] ++ []) src = some xs2 := e3
  rw [e2] at e3'
  cases e3'
  have hz := hr.in1.in1
  have run := G.run X.A.in1.in1 X.stack s H ⟨[.ref a], []⟩ ys xs' (fun v H' => ∃ z : Str, v = .str z ∧ Q (.str z) H') (fun _ _ _ => False) F r st xs hz hi.gd (env0_of hi I).in1.in1 hb hvv ((arr_len ex).trans P.len) R.w hrep (mg _ _ _ _ _ _ (fun t st' ⟨z, et, hz⟩ => by
    subst et
    exact ca_k (Q := fun v H' => ∃ z : Str, v = .str z ∧ Q (.str z) H') R (fun F' r' H' v S' R' q => by
      cases q
      exact ⟨z, rfl, hz F' r' H' _ S' R' rfl⟩)) (fun _ _ z => z.elim) h)
  rw [hi.prog, hi.w]
  refine PySem.W.kso_call hz.units0 kin0 JA hq.st hq.fn (wpAny_call (codeAny_mono run fun rr s' hq' => ?_))
  cases rr with
  | error er =>
    obtain ⟨_, _, _, _, _, _, _, _, _, _, _, _, z⟩ := hq'
    exact z.elim
  | ok fl =>
    match fl, hq' with
    | .ret u, hq' =>
      obtain ⟨v, H', I3, rv, z, e4, q3⟩ := I.after (by rw [hi.prog, hi.w]; exact hq')
      subst e4
      obtain ⟨t, rfl⟩ := rv
      exact ⟨.str z, H', I3, ⟨t, rfl⟩, q3⟩
/-- a class's __repr__ -/
theorem rpo_of {A : Amb} {B : Bg} {X : Cx} {f : Addr} {fd : FuncData} {ps : List Str} {c k : Nat} {dvs : List V} {dd : List D} {src : List Src} {g : Gam} (G : GOk { A with k := k } B f fd ps g) (mg : MonoC g)
    (hi : InAmb A B X) (hk : A.k = k + 1) (P : PatOk B.K fd ps 1 [] dvs src) (hd : ∀ F r, Reps B F r dd dvs) (hq : RpAt B.K (B.cls c) f) : RpoOk B X c (arrG dd src g) := by
  refine ⟨arrG_mono mg, fun pins σ' σ H s Q a dx vs F r en st d E' I ea R ra h => ?_⟩
  have hr : Room (3 * k + 4 + 1) X.A := hi.room.mono (by rw [hk]; omega)
  obtain ⟨mA, OA, _⟩ := ins_get I.hok ea
  obtain ⟨od, JA, _⟩ := OA.look
  have kin0 : B.K.In s.heap := hi.K ▸ I.kIn
  obtain ⟨its, hv, hto⟩ := P.to
  obtain ⟨ys, e1, hb⟩ := hto s [.ref a] [] kin0 rfl rfl
  have rvs : Vals [V.ref a] [Value.ref a] := .cons rfl .nil
  obtain ⟨xs', e2, hvv⟩ := arr_vals hv (rvs.append .nil) e1
  unfold arrG at h
  split at h
  · exact h.elim
  rename_i xs ex
  obtain ⟨xs2, e3, hrep⟩ := arr_reps (hd F r) (show Reps B F r [d] [V.ref a] from ⟨_, _, rfl, ra, rfl⟩) ex
  have e3' : arr dvs ([V.ref a] ++ []) src = some xs2 := e3
  rw [e2] at e3'
  cases e3'
  have hz := hr.in1
  have run := G.run X.A.in1 X.stack s H ⟨[.ref a], []⟩ ys xs' (fun v H' => ∃ z : Str, v = .str z ∧ Q (.str z) H') (fun _ _ _ => False) F r st xs hz hi.gd (env0_of hi I).in1 hb hvv ((arr_len ex).trans P.len) R.w hrep (mg _ _ _ _ _ _ (fun t st' ⟨z, et, hz⟩ => by
    subst et
    exact ca_k (Q := fun v H' => ∃ z : Str, v = .str z ∧ Q (.str z) H') R (fun F' r' H' v S' R' q => by
      cases q
      exact ⟨z, rfl, hz F' r' H' _ S' R' rfl⟩)) (fun _ _ z => z.elim) h)
  rw [hi.prog, hi.w]
  refine repr_own hz.units0 kin0 JA hq.st hq.fn (wpAny_call (codeAny_mono run fun rr s' hq' => ?_))
  cases rr with
  | error er =>
    obtain ⟨_, _, _, _, _, _, _, _, _, _, _, _, z⟩ := hq'
    exact z.elim
  | ok fl =>
    match fl, hq' with
    | .ret u, hq' =>
      obtain ⟨v, H', I3, rv, z, e4, q3⟩ := I.after (by rw [hi.prog, hi.w]; exact hq')
      subst e4
      obtain ⟨t, rfl⟩ := rv
      exact ⟨.str z, H', I3, ⟨t, rfl⟩, q3⟩
theorem isX_kd {pl : Pl} (h : pl.isX = true) : pl.pat.kd = .kx := by
  unfold Pl.isX at h
  split at h
  · assumption
  · cases h
/-- a def that is given an exception: its reading grows with what is wished -/
theorem hot_mono {X0 : Cx} {mg : Str → Option Value} {B : Bg} {Γ : Nat → Gam} {C : CC} {n : Nat} {scope : Scope} {ps : List Str} {body : List Stmt} {m : MSs} (hg : X0.A.guards = some []) (hr : Room 1 X0.A) (S : FnScope C.N ps scope) (blt : ∀ x ∈ bltNames, mg x = none) (xf : XcF mg B C.xcs C.xns) (hc : hSs n C scope body = some m) : MonoS (wSs Γ m) := by
  have hu := (hr.deeper (envOfC "" scope X0.s_0.heap.objs.size 0 .none)).un
  have G : GH mg (B.at (some (0, .none, none))) C scope (L2H.cxH C8.CX0 X0.prog X0.w B.K mg X0.base C.N "" scope 0 .none X0.A X0.stack X0.s_0 X0.H_0 C8.E0 (0, { cls := .none, data := .fields #[] })) 0 { cls := .none, data := .fields #[] } .none none :=
    ⟨rfl, rfl, hg, by show (X0.A.deeper (envOfC "" scope X0.s_0.heap.objs.size 0 .none)).units + 200 < cLine; omega, rfl, rfl, S.nd, fun _ => rfl, blt, xf.at_ex _, ⟨rfl, List.mem_singleton.mpr rfl, ⟨rfl, rfl⟩, ⟨_, rfl⟩⟩⟩
  exact ((snd_HS mg (B.at (some (0, .none, none))) Γ C n).2 _ _ _ _ _ _ G body m hc).mono
theorem cl_ok {B : Bg} {T : Tb} {cs : List (Addr × Addr)} {mg : Str → Option Value} (O : TbOk mg B T cs) : ∀ (k : Nat) (A : Amb), A.mg = mg → LamB A cs → Cal A B T k ∧ (∀ j, k = j + 1 → Cal A B T j)
  | 0, A, hm, L => by
    refine ⟨fun p pl hp X W hi tk => ?_, fun j z => by cases z⟩
    obtain ⟨fn, f, fd, dvs, e1, e2, FA, PO, hd, hx, hx2⟩ := O.pl p pl hp
    obtain ⟨qual, params, body, scope, kws, n, F1, F2, F3, F4⟩ := FA.fd
    exact no_sem hi.K (hi.mg.trans hm) e2 F1.kp (fun c hc => (O.cf.kit.ins c hc).cl) fun _ _ _ _ h => h
  | k + 1, A, hm, L => by
    subst hm
    obtain ⟨cal, below⟩ := cl_ok O k A rfl L
    refine ⟨fun p pl hp X W hi tk => ?_, fun j z => by cases z; exact cal⟩
    obtain ⟨fn, f, fd, dvs, e1, e2, FA, PO, hd, hx, hx2⟩ := O.pl p pl hp
    have hr : Room (3 * (k + 1) + 4) X.A := hi.room
    obtain ⟨qual, params, body, scope, kws, n, F1, F2, F3, F4⟩ := id FA.fd
    cases hX : pl.isX with
    | true =>
      have hkd := isX_kd hX
      obtain ⟨rfl, x0, ep, hb⟩ := hx2 hX
      rw [hX] at hx
      rw [cl_eqX hp e1 hX]
      unfold Loc_ at e2
      rw [hkd] at e2
      rw [← hx] at F3
      unfold PatSem
      rw [hkd]
      dsimp only
      rw [hi.mg]
      rw [ep] at F2
      exact hot_of (C := T.cc fn) (y := fn.x) F1 F2 hb e2.1 O.blt O.xf F3 (hot_mono (X0 := X) (C := T.cc fn) hi.gd (hr.mono (by omega)) F2 O.blt O.xf F3)
    | false =>
    rw [hX] at hx
    rw [cl_eq hp e1 hX]
    cases hlow : pl.low with
    | false =>
      have G := fn_go (A := { A with k := k + 1 }) O L FA hx.symm rfl cal
      have M := gBody_mono (n := fn.N.length) (fn_mono (A := A) (Z := X.A) (outer := X.stack) (s := X.s_0) (H := X.H_0) O L FA hx.symm hr hi.gd cal)
      have run := run_of (dd := pl.dfs) G M hi tk PO hd
      have mono := arrG_mono (dd := pl.dfs) (src := pl.src) M
      unfold PatSem
      unfold Loc_ at e2
      unfold Pl.low at hlow
      unfold Pl.n at run
      unfold Pl.isX at hX
      split
      · rename_i hk
        rw [hk] at e2 run
        exact ⟨mono, f, by rw [hi.mg]; exact e2, by rw [hi.K]; exact F1.kp, run⟩
      · rename_i c hk
        rw [hk] at e2 run
        exact ⟨mono, by rw [hi.K]; exact (O.cf.kit.ins c e2.2).cl, f, by rw [hi.K]; exact e2.1, run⟩
      · rename_i c hk
        rw [hk] at hlow
        cases hlow
      · rename_i c hk
        rw [hk] at hlow
        cases hlow
      · rename_i c hk
        rw [hk] at hlow
        cases hlow
      · rename_i hk
        rw [hk] at hX
        cases hX
      · rename_i c hk
        rw [hk] at hlow
        cases hlow
      · rename_i c hk
        rw [hk] at hlow
        cases hlow
    | true =>
      cases k with
      | zero =>
        refine no_sem hi.K hi.mg e2 F1.kp (fun c hc => (O.cf.kit.ins c hc).cl) fun ds st kk e h => ?_
        unfold arrG at h
        split at h
        · exact h
        · exact h
      | succ j =>
        have cal' := below j rfl
        have hr' : Room (3 * (j + 1) + 4) X.A := hr.mono (by omega)
        have G := fn_go (A := { A with k := j + 1 }) O L FA hx.symm rfl cal'
        have M := gBody_mono (n := fn.N.length) (fn_mono (A := A) (Z := X.A) (outer := X.stack) (s := X.s_0) (H := X.H_0) O L FA hx.symm hr' hi.gd cal')
        unfold PatSem
        unfold Loc_ at e2
        unfold Pl.low at hlow
        split
        · rename_i hk
          rw [hk] at hlow
          cases hlow
        · rename_i c hk
          rw [hk] at hlow
          cases hlow
        · rename_i c hk
          rw [hk] at e2
          obtain ⟨⟨pp, hpp⟩, z1, z2, z3⟩ := e2
          have en : pl.n = 1 := by unfold Pl.n; rw [hk, z1]
          rw [en, z2] at PO
          exact prop_of (A := { A with k := j + 1 + 1 }) G M hi rfl PO hd hpp (O.cf.kit.ins c z3).cl
        · rename_i c hk
          rw [hk] at e2
          have en : pl.n = pl.pat.n + 1 := by unfold Pl.n; rw [hk]
          rw [en] at PO
          exact make_of (A := { A with k := j + 1 + 1 }) G M hi rfl tk PO hd e2.1 e2.2
        · rename_i c hk
          rw [hk] at e2
          obtain ⟨z0, z1, z2, z3⟩ := e2
          have en : pl.n = 2 := by unfold Pl.n; rw [hk, z1]
          rw [en, z2] at PO
          exact cmp_of (A := { A with k := j + 1 + 1 }) G M hi rfl PO hd z0 (O.cf.kit.ins c z3).hm
        · rename_i hk
          rw [hk] at hlow
          cases hlow
        · rename_i c hk
          rw [hk] at e2
          obtain ⟨z0, z1, z2, z3⟩ := e2
          have en : pl.n = 1 := by unfold Pl.n; rw [hk, z1]
          rw [en, z2] at PO
          exact sto_of (A := { A with k := j + 1 + 1 }) G M hi rfl PO hd z0
        · rename_i c hk
          rw [hk] at e2
          obtain ⟨z0, z1, z2, z3⟩ := e2
          have en : pl.n = 1 := by unfold Pl.n; rw [hk, z1]
          rw [en, z2] at PO
          exact rpo_of (A := { A with k := j + 1 + 1 }) G M hi rfl PO hd z0
end Ev
set_option Elab.async false
set_option linter.all false
set_option autoImplicit false
set_option maxRecDepth 100000
/-! Ev, part R: the end of a law, its table by the head's facts. -/
namespace Ev
open PySem PySem.Spec PyProof.Rows L2
/-- an empty table of code objects -/
abbrev tabO : Obj := { cls := .none, data := .fields #[] }
/-- what is known of the tables at the law's start -/
structure TabsAt (h : Heap) (K : PySem.W.Frag) (cs : List (Addr × Addr)) : Prop where
  tab : ∀ p ∈ cs, h.get? p.2 = some tabO
  no : ∀ p ∈ cs, K.lookup p.2 = none
  code : ∀ p ∈ cs, PySem.W.CodeHd h p.1 p.2
/-- what is tracked at the start: the script, the tables -/
structure St0 (h : Heap) (K : PySem.W.Frag) (cs : List (Addr × Addr)) (a : Addr) (H : Hp) : Prop where
  tb : ∀ b ∈ cs.map (·.2), H b = some (.tbl #[])
  el : ∀ b, b ∉ cs.map (·.2) → H b = none ∨ (b = a ∧ ∃ o xs, H b = some (.frz o (.lst xs)))
  ka : H a ≠ none → K.lookup a = none
section
variable {h : Heap} {K : PySem.W.Frag} {cs : List (Addr × Addr)} {a : Addr} {H : Hp} {vs : List Value} {mg mb : Str → Option Value}
theorem TabsAt.get (T : TabsAt h K cs) {b : Addr} (hb : b ∈ cs.map (·.2)) : h.get? b = some tabO ∧ K.lookup b = none := by
  obtain ⟨p, hp, rfl⟩ := List.mem_map.mp hb
  exact ⟨T.tab p hp, T.no p hp⟩
/-- other things are not tracked -/
theorem St0.other (S : St0 h K cs a H) (T : TabsAt h K cs) (ha : h.get? a = some { cls := .type "list", data := .seq vs.toArray }) {b : Addr} {o : Obj} (e : h.get? b = some o) (n1 : ∀ us n, o.data ≠ .seq us n) (n2 : o.data ≠ .fields #[]) : H b = none := by
  by_cases hb : b ∈ cs.map (·.2)
  · rw [(T.get hb).1] at e
    cases e
    exact absurd rfl n2
  · rcases S.el b hb with z | ⟨rfl, _⟩
    · exact z
    · rw [ha] at e
      cases e
      exact absurd rfl (n1 _ _)
theorem St0.kin (S : St0 h K cs a H) (T : TabsAt h K cs) (X : K.In h) : K.In (hidT h H) := fun b o e => by
  refine hidT_get (X b o e) ?_
  by_cases hb : b ∈ cs.map (·.2)
  · rw [(T.get hb).2] at e
    cases e
  · rcases S.el b hb with z | ⟨rfl, o', xs, z⟩
    · exact z
    · rw [S.ka (by rw [z]; exact Option.some_ne_none _)] at e
      cases e
theorem St0.ns (S : St0 h K cs a H) (T : TabsAt h K cs) (ha : h.get? a = some { cls := .type "list", data := .seq vs.toArray }) {b : Addr} {m : Str → Option Value} : h.Ns b m → (hidT h H).Ns b m := fun ⟨o, es, ep, e, dd, rr⟩ =>
  ⟨o, es, ep, hidT_get e (S.other T ha e (fun _ _ z => by rw [dd] at z; cases z) fun z => by rw [dd] at z; cases z), dd, rr⟩
theorem St0.lamB (S : St0 h K cs a H) (T : TabsAt h K cs) (ha : h.get? a = some { cls := .type "list", data := .seq vs.toArray }) (hns : h.Ns mainGlobals mg)
    (hbm : ∃ (bm : Addr) (ob : Obj), mg "__builtins__" = some (.ref bm) ∧ bm ≠ builtinsNs ∧ h.get? bm = some ob ∧ ob.cls = .type "module" ∧ ob.dict = some builtinsNs ∧ ob.data = .plain) {P : Program} {w : PySem.World} {k : Nat} : LamB ⟨P, w, mg, hidT h H, k⟩ cs := fun p hp => by
  obtain ⟨og, es, ep, eg, dg, _⟩ := hns
  obtain ⟨bm, ob, b1, b2, b3, b4, b5, b6⟩ := hbm
  have tp := T.tab p hp
  refine ⟨?_, ⟨bm, ob, b1, b2, fun z => ?_, fun z => ?_, hidT_get b3 (S.other T ha b3 (fun _ _ z => by rw [b6] at z; cases z) fun z => by rw [b6] at z; cases z), b4, b5, b6⟩, fun z => ?_⟩
  · obtain ⟨o, us, file, tf, flags, tg, inF, text, tt, e1, r1, r2, r3, rest⟩ := T.code p hp
    exact ⟨o, us, file, tf, flags, tg, inF, text, tt, hidT_get e1 (S.other T ha e1 (fun _ _ z => by rw [r2] at z; cases z) fun z => by rw [r2] at z; cases z; simp at r3), r1, r2, r3, rest⟩
  · rw [z, eg] at b3
    cases b3
    rw [dg] at b6
    cases b6
  · rw [z, tp] at b3
    cases b3
    cases b6
  · rw [z, tp] at eg
    cases eg
    cases dg
end
/-- the law's def runs at a script -/
theorem law_go {P : Program} {w : PySem.World} {B : Bg} {T : Tb} {cs : List (Addr × Addr)} {mg mb : Str → Option Value} {k p : Nat} {pl : Pl} {fa a : Addr} {sh : Shared} {vs : List Value} {ns : List Int} (O : TbOk mg B T cs) (hp : T.pls[p]? = some pl) (hkd : pl.pat.kd = .fn) (hn : pl.pat.n = 1) (hks : pl.pat.ks = []) (hfa : mg pl.pat.x = some (.ref fa))
    (TA : TabsAt sh.heap B.K cs) (hT : ∀ t ∈ B.tabs, t.1 ∈ cs.map (·.2)) (hbm : ∃ (bm : Addr) (ob : Obj), mg "__builtins__" = some (.ref bm) ∧ bm ≠ builtinsNs ∧ sh.heap.get? bm = some ob ∧ ob.cls = .type "module" ∧ ob.dict = some builtinsNs ∧ ob.data = .plain)
    (KX : B.K.In sh.heap) (hG : sh.heap.Ns mainGlobals mg) (hB : sh.heap.Ns builtinsNs mb) (hbb : ∀ x : Str, x ≠ "__name__" → mb x = bootBuiltins x) (hlim : sh.heap.NoLimit) (hgen : sh.gens = #[])
    (ha : sh.heap.get? a = some { cls := .type "list", data := .seq vs.toArray }) (hi : IntsAre vs ns) (hl : ns.length ≤ sizeLine) (hr : Room (3 * (k + 1) + 4) callerA)
    (hw : Cl T (k + 1) p [.scr ns] [] (fun t _ => t = .v (.bl true)) (fun _ _ => False)) :
    codeAny (model P w) callerA (.call (.ref fa) ⟨[.ref a], []⟩) (fun r s' => r = .ok (.ret (.bool true)) ∧ OldK sh.heap s'.heap ∧ s'.os = sh.os ∧ AllBare s'.gens) sh := by
  have rv := vals_ints hi
  have ln := hi.length
  obtain ⟨fn, f, fd, dvs, e1, e2, FA, PO, hd, hx, _⟩ := O.pl p pl hp
  have hX : pl.isX = false := by unfold Pl.isX; rw [hkd]
  rw [hX] at hx
  have ef : f = fa := by
    unfold Loc_ at e2
    rw [hkd] at e2
    dsimp only at e2
    rw [hfa] at e2
    cases e2
    rfl
  subst ef
  have aT : a ∉ cs.map (·.2) := fun z => by
    have q := (TA.get z).1
    rw [ha] at q
    cases q
  have main : ∀ H : Hp, St0 sh.heap B.K cs a H → SqL B.K (fun b => if b ∈ cs.map (·.2) then none else H b) a (ns.map V.int) → HOk P w H sh.heap →
      codeAny (model P w) callerA (.call (.ref f) ⟨[.ref a], []⟩) (fun r s' => r = .ok (.ret (.bool true)) ∧ OldK sh.heap s'.heap ∧ s'.os = sh.os ∧ AllBare s'.gens) sh := by
    intro H S0 hS hok
    have md : Mod B.K mg (hidT sh.heap H) := ⟨S0.kin TA KX, S0.ns TA ha hG, ⟨mb, S0.ns TA ha hB, hbb⟩, let ⟨mc, z1, z2⟩ := hlim; ⟨mc, S0.ns TA ha z1, z2⟩⟩
    have e0 : Env0 P w B.K mg (hidT sh.heap H) callerA [] sh H := ⟨rfl, md, fun b o e => of_hidT e, Nat.le_of_eq (hidT_size _ _), trivial, fun b hb => (nomatch (show b ∈ ([] : List Addr) from hb)), hok, .of_eq hgen⟩
    have LB : ∀ k, LamB ⟨P, w, mg, hidT sh.heap H, k⟩ cs := fun k => S0.lamB TA ha hG hbm
    have cal := (cl_ok O k ⟨P, w, mg, hidT sh.heap H, k⟩ rfl (LB k)).1
    have G := fn_go (A := ⟨P, w, mg, hidT sh.heap H, k + 1⟩) (k := k) O (LB _) FA hx.symm rfl cal
    have en : pl.n = 1 := by unfold Pl.n; rw [hkd]; exact hn
    have elow : pl.low = false := by unfold Pl.low; rw [hkd]
    obtain ⟨its, hv, hto⟩ := PO.to
    have hb := hto sh [.ref a] [] KX (by rw [en]; rfl) (by rw [hks]; rfl)
    obtain ⟨ys, ey, hb⟩ := hb
    rw [hks] at hb
    obtain ⟨zs, ez, rz⟩ := arr_vals (vs := [V.ref a]) hv (.cons rfl .nil) ey
    have hw' := hw
    rw [cl_eq hp e1 hX, elow] at hw'
    unfold arrG at hw'
    split at hw'
    · exact hw'.elim
    rename_i xs ex
    have rep0 : Reps B (fun b => if b ∈ cs.map (·.2) then none else H b) [] [D.scr ns] [V.ref a] := ⟨_, _, rfl, ⟨a, rfl, hS⟩, rfl⟩
    obtain ⟨zs2, ez2, rep⟩ := arr_reps (hd _ []) rep0 ex
    rw [ez] at ez2
    cases ez2
    have W0 : World B (fun b => if b ∈ cs.map (·.2) then none else H b) [] [] H := by
      refine ⟨fun b o e => ?_, ⟨fun t ht => .nil (S0.tb _ (hT t ht)), fun b ps e => ?_⟩, List.nodup_nil, rfl, fun n a d z => by simp at z⟩
      · split at e
        · cases e
        · exact e
      · split at e
        · cases e
        · rename_i hb
          rcases S0.el b hb with z | ⟨_, o, xs, z⟩
          · rw [z] at e; cases e
          · rw [z] at e; cases e
    have i0 : MonoS (wSs (Cl T k) fn.m) := fn_mono (A := ⟨P, w, mg, hidT sh.heap H, k⟩) (Z := callerA) (outer := []) (s := sh) (H := H) O (LB k) FA hx.symm hr rfl cal
    have run := G.run callerA [] sh H ⟨[.ref a], []⟩ ys zs (fun v _ => v = .bl true) (fun _ _ _ => False) _ [] [] xs hr rfl e0 hb rz ((arr_len ex).trans PO.len) W0 rep (gBody_mono i0 _ _ _ _ _ _ (fun t st' z => by
      subst z
      intro F' r' H' v _ _ q
      exact q) (fun _ _ z => z.elim) hw')
    refine codeAny_mono run fun r s' hq => ?_
    cases r with
    | error e =>
      obtain ⟨_, _, _, _, _, _, _, _, _, _, _, _, z⟩ := hq
      exact z.elim
    | ok fw =>
      cases fw with
      | next => exact False.elim hq
      | brk => exact False.elim hq
      | cont => exact False.elim hq
      | ret u =>
        obtain ⟨v, H', os, bare, un, hok', r', q⟩ := hq
        obtain rfl : v = .bl true := q
        obtain rfl : u = Value.bool true := r'
        have keep : ∀ b o, b ∉ cs.map (·.2) → sh.heap.get? b = some o → s'.heap.get? b = some o := fun b o nb e => by
          rcases S0.el b nb with q | ⟨_, ob, xs, z⟩
          · exact un.keep b o e q (fun z => (nomatch (show b ∈ ([] : List Addr) from z))) (by simp)
          · obtain ⟨g1, _⟩ := hok b _ z
            obtain ⟨g2, _⟩ := hok' b _ (un.frzs b ob _ z)
            rw [e] at g1
            cases g1
            exact g2
        have grown : ∀ b ∈ cs.map (·.2), ∃ more : Array Value, s'.heap.get? b = some { cls := .none, data := .fields more } := fun b hb => by
          obtain ⟨more, z⟩ := un.tbls b #[] (S0.tb b hb)
          exact ⟨_, hok' b _ z⟩
        refine ⟨rfl, ⟨fun b o e => ?_, fun b o e => ?_⟩, os, bare⟩
        · by_cases hb : b ∈ cs.map (·.2)
          · obtain ⟨more, hm⟩ := grown b hb
            obtain ⟨p, hp, rfl⟩ := List.mem_map.mp hb
            rw [TA.tab p hp] at e
            cases e
            exact .inr (.inl ⟨((TA.code p hp).tab (TA.tab p hp)).isCodeTable, rfl, #[], more, rfl, by rw [Array.empty_append]; exact hm⟩)
          · exact .inl (keep b o hb e)
        · by_cases hb : b ∈ cs.map (·.2)
          · obtain ⟨more, hm⟩ := grown b hb
            exact ⟨_, hm⟩
          · exact ⟨o, keep b o hb e⟩
  have noT : ∀ {H : Hp}, (fun b => if b ∈ cs.map (·.2) then none else H b) a = H a := fun {H} => if_neg aT
  cases hk : B.K.lookup a with
  | some o =>
    have e := KX a o hk
    rw [ha] at e
    cases e
    refine main (fun b => if b ∈ cs.map (·.2) then some (.tbl #[]) else none) ⟨fun b hb => if_pos hb, fun b hb => .inl (if_neg hb), fun z => absurd (if_neg aT) z⟩ (.inr ⟨_, vs.toArray, _, hk, rfl, rfl, rfl, by rw [List.size_toArray, ln]; exact hl, by simpa using rv⟩) (fun b u z => ?_)
    by_cases hb : b ∈ cs.map (·.2)
    · cases (if_pos hb).symm.trans z
      exact (TA.get hb).1
    · cases (if_neg hb).symm.trans z
  | none =>
    refine main (fun b => if b = a then some (.frz { cls := .type "list", data := .seq vs.toArray } (.lst (ns.map V.int))) else if b ∈ cs.map (·.2) then some (.tbl #[]) else none)
      ⟨fun b hb => (if_neg (fun z => aT (by rw [← z]; exact hb))).trans (if_pos hb), fun b hb => ?_, fun _ => hk⟩ (.inl (.inr ⟨{ cls := .type "list", data := .seq vs.toArray }, (if_neg aT).trans (if_pos rfl)⟩)) (fun b u z => ?_)
    · by_cases hba : b = a
      · exact .inr ⟨hba, _, _, if_pos hba⟩
      · exact .inl ((if_neg hba).trans (if_neg hb))
    · by_cases hba : b = a
      · cases (if_pos hba).symm.trans z
        subst hba
        exact ⟨ha, by rw [List.length_map]; exact hl, vs, _, rv, ha⟩
      · have z1 := (if_neg hba).symm.trans z
        by_cases hb : b ∈ cs.map (·.2)
        · cases (if_pos hb).symm.trans z1
          exact (TA.get hb).1
        · cases (if_neg hb).symm.trans z1
/-- the walk that the head asks for -/
theorem walk_ev {l : PySem.W.OpenLaw} {n k : Nat} {q : Program} {loose : List Str} {XP : (Str → Option Value) → Heap → Prop} {YP : PySem.World → Heap → Prop} {d : DefRec} (hn : l.most = some n) (hn2 : n ≤ sizeLine) (hdf : d.params.defaults = []) (hr : Room (3 * (k + 1) + 4) callerA)
    (F : ∀ (w : PySem.World) (mg : Str → Option Value) (h : Heap), YP w h → h.Ns mainGlobals mg → ∃ (B : Bg) (T : Tb) (cs : List (Addr × Addr)) (p : Nat) (pl : Pl), B.K.In h ∧ TbOk mg B T cs ∧ TabsAt h B.K cs ∧ (∀ t ∈ B.tabs, t.1 ∈ cs.map (·.2)) ∧ T.pls[p]? = some pl ∧ pl.pat.kd = .fn ∧ pl.pat.n = 1 ∧ pl.pat.ks = [] ∧ pl.pat.x = d.name ∧
      ∀ ns : List Int, ns.length ≤ n → (∀ z ∈ ns, Builtin.Int.intBits z ≤ 1048576) → Cl T (k + 1) p [.scr ns] [] (fun t _ => t = .v (.bl true)) (fun _ _ => False)) :
    PySem.W.WalkO q loose XP YP l.row.toRowW d [] (fun f vs => PySem.call f vs) := by
  refine Att.attach_callB hn hdf fun w s0 s1 mg mb fa o pm cd doc a vs ns G Y ho hd hcd hmg hobj hints hlen hbits hg => ?_
  obtain ⟨B, T, cs, p, pl, h1, h2, hTA, hT, h3, hkd, h4, h5, h6, h7⟩ := F w mg _ Y G.T.g
  exact law_go h2 h3 hkd h4 h5 (by rw [h6]; exact hmg) hTA hT G.T.bmain h1 G.T.g G.T.b G.T.builtins G.T.nolimit hg hobj hints (Nat.le_trans hlen hn2) hr (h7 ns hlen hbits)
/-! ### the table from the head's facts -/
def dvD : He.Dv → Option D
  | .non => some .non
  | .bl b => some (.bl b)
  | .int i => some (.int i)
  | .str s => some (.str s)
  | _ => none
def dvsD : List He.Dv → Option (List D)
  | [] => some []
  | v :: vs => match dvD v, dvsD vs with
    | some d, some ds => some (d :: ds)
    | _, _ => none
theorem dvsD_ok {B : Bg} {K : PySem.W.Frag} : ∀ {vs : List He.Dv} {ds : List D}, dvsD vs = some ds → ∀ F r, Reps B F r ds (vs.map (He.Dv.v K))
  | [], ds, h, F, r => by cases h; rfl
  | v :: vs, ds, h, F, r => by
    simp only [dvsD] at h
    split at h
    · rename_i d ds' h1 h2
      cases h
      refine ⟨_, _, rfl, ?_, dvsD_ok h2 F r⟩
      cases v <;> simp only [dvD, Option.some.injEq, reduceCtorEq] at h1 <;> subst h1 <;> rfl
    · cases h
/-- the rows of a class -/
def clBody : Stmt → List Stmt
  | .ClassDef _ _ _ body _ _ _ _ _ _ _ => body
  | _ => []
/-- where a def stands -/
inductive At where
  | fn (x : Str) | meth (C x : Str) | prop (C x : Str) | init (C : Str)
def At.a (K : PySem.W.Frag) : At → Addr
  | .fn x => He.ga K x
  | .meth C x => He.ma K (He.ga K C) x
  | .prop C x => He5.wf K (He.ga K C) "property" x
  | .init C => He.ma K (He.ga K C) "__init__"
/-- a def of the text, as data -/
structure Df where
  at_ : At
  name : Str
  qual : Str
  params : Arguments
  body : List Stmt
  scope : Scope
  dfl : List He.Dv
  fn : Fn
def Df.d (f : Df) : He5.DefA := ⟨fun K => f.at_.a K, f.name, f.qual, f.params, f.body, f.scope, f.dfl, []⟩
def scB (N ps : List Str) (sc : Scope) : Bool := decide (sc.kind = .function) && (!sc.isCoroutine && (!sc.isGenerator && (decide N.Nodup && (decide (N.take ps.length = ps) && (ps.all (fun x => decide (sc.names.lookup x = some .local) || decide (sc.names.lookup x = some .cell)) && sc.names.all (fun y => decide (y.2 ≠ .free)))))))
theorem scB_ok {N ps : List Str} {sc : Scope} (h : scB N ps sc = true) : FnScope N ps sc := by
  simp only [scB, Bool.and_eq_true, decide_eq_true_eq, Bool.not_eq_true', List.all_eq_true, Bool.or_eq_true] at h
  obtain ⟨h1, h2, h3, h4, h5, h6, h7⟩ := h
  exact ⟨h1, h2, h3, h4, h5, h6, h7⟩
structure DfOk (T : Tb) (f : Df) : Prop where
  sc : scB f.fn.N f.fn.ps f.scope = true
  x : f.fn.x = f.name
  cc : ∃ n, cBd f.fn.fl.xm n (T.cc f.fn) f.scope f.body = some f.fn.m
/-- how a plan's arguments are bound: for every way the function object may look -/
def Bnd (d : Df) (ps : List Str) (n : Nat) (ks : List Str) (src : List Src) : Prop := match d.dfl with
  | [] => ∀ (kV doc pm : Value) (an : Option Addr) (cdv ct : Value) (us ws : List Value), us.length = n → ws.length = ks.length → ∃ ys, arr [] (us ++ ws) src = some ys ∧ bindArgs (PySem.W.fnOf d.name d.qual d.params d.body d.scope .none kV doc pm an cdv ct) ⟨us, ks.zip ws⟩ = pure (ps.zip ys)
  | _ => ∀ (T : Addr) (kV doc pm : Value) (an : Option Addr) (cdv ct : Value) (its us ws : List Value), its.length = d.dfl.length → us.length = n → ws.length = ks.length → ∃ ys k, arr its (us ++ ws) src = some ys ∧
      bindArgs (PySem.W.fnOf d.name d.qual d.params d.body d.scope (.ref T) kV doc pm an cdv ct) ⟨us, ks.zip ws⟩ = seqItems? (.ref T) >>= k ∧ k (some its.toArray) = pure (ps.zip ys)
/-- all parameters by position -/
def BndA (d : Df) (ps : List Str) : Prop := ∀ (kV doc pm : Value) (an : Option Addr) (cdv ct : Value) (us : List Value), us.length = ps.length → bindArgs (PySem.W.fnOf d.name d.qual d.params d.body d.scope .none kV doc pm an cdv ct) ⟨us, []⟩ = pure (ps.zip us)
theorem binds_of {K : PySem.W.Frag} {d : Df} {kws : List (Str × V)} {f : Addr} {fd : FuncData} {ps : List Str} (F : FunD K d.name d.qual d.params d.body d.scope [] kws f fd) (h : BndA d ps) : L2.Binds K fd ps [] := by
  obtain ⟨oc, od, dV, kV, doc, pm, an, cdv, ct, osl, rfl, lk, hcd, hD, hK⟩ := F.ex
  rcases hD with ⟨_, rfl⟩ | ⟨e, _⟩
  · exact .all fun us hu => h kV doc pm an cdv ct us hu
  · exact absurd rfl e
def clX (T : Tb) (c : Nat) : Str := match T.clss[c]? with
  | some cl => cl.x
  | none => ""
def atOf (T : Tb) (q : Pat) : At := match q.kd with
  | .fn => .fn q.x
  | .meth c => .meth (clX T c) q.x
  | .prop c => .prop (clX T c) q.x
  | .init c => .init (clX T c)
  | .cmp c => .meth (clX T c) "__eq__"
  | .kx => .fn q.x
  | .sto c => .meth (clX T c) "__str__"
  | .rpo c => .meth (clX T c) "__repr__"
structure PlOk (T : Tb) (dfs : List Df) (pl : Pl) : Prop where
  ok : ∃ f, dfs[pl.f]? = some f ∧ T.fns[pl.f]? = some f.fn ∧ f.at_ = atOf T pl.pat ∧ dvsD f.dfl = some pl.dfs ∧ pl.src.length = f.fn.ps.length ∧ Bnd f f.fn.ps pl.n pl.pat.ks pl.src ∧ pl.isX = f.fn.fl.xm ∧ (pl.isX = true → f.dfl = [] ∧ ∃ x0, f.fn.ps = [x0] ∧ BndA f [x0])
def AllP {α : Type} (P : α → Prop) : List α → Prop
  | [] => True
  | x :: xs => P x ∧ AllP P xs
theorem AllP.get {α : Type} {P : α → Prop} : ∀ {l : List α} {i : Nat} {x : α}, AllP P l → l[i]? = some x → P x
  | [], _, _, _, h => by simp at h
  | y :: ys, 0, x, h, e => by
    simp at e
    exact e ▸ h.1
  | y :: ys, i + 1, x, h, e => AllP.get h.2 (by simpa using e)
/-! ### exceptions and tables of code, as Bools -/
def xcX (T : Tb) (j : Nat) : Str := match T.xcs[j]? with
  | some c => c.x
  | none => ""
def xcF (T : Tb) (j : Nat) : Str := match T.xcs[j]? with
  | some c => c.fld.getD ""
  | none => ""
/-- the code object of a def and its table -/
def codAt (K : PySem.W.Frag) (f : Addr) : Addr × Addr := match K.lookup f with
  | some ⟨_, _, .func fd, _⟩ => (match fd.code with
    | .ref c => (match K.lookup c with
      | some ⟨_, _, .fields vs, _⟩ => (match (vs[11]? : Option Value) with
        | some (.ref P) => (c, P)
        | _ => (c, 0))
      | _ => (c, 0))
    | _ => (0, 0))
  | _ => (0, 0)
def codeB (K : PySem.W.Frag) (c P : Addr) : Bool := match K.lookup c with
  | some ⟨.type t, _, .fields vs, _⟩ => decide (t = "code") && (match (vs[11]? : Option Value), vs.getD 18 .none, vs.getD 7 .none, vs.getD 9 .none, vs.getD 10 .none with
    | some (.ref q), .str _ _, .int _ _, .bool _, .int _ _ => decide (q = P) && decide (c ≠ P)
    | _, _, _, _, _ => false)
  | _ => false
theorem codeB_ok {K : PySem.W.Frag} {c P : Addr} {h : Heap} (X : K.In h) (q : codeB K c P = true) : PySem.W.CodeHd h c P := by
  unfold codeB at q
  split at q
  · rename_i t od vs sl e
    rw [Bool.and_eq_true, decide_eq_true_eq] at q
    obtain ⟨rfl, q⟩ := q
    split at q
    · rename_i q' s1 t1 i1 t2 b1 i2 t3 e1 e2 e3 e4 e5
      rw [Bool.and_eq_true, decide_eq_true_eq, decide_eq_true_eq] at q
      obtain ⟨rfl, q2⟩ := q
      refine ⟨_, vs, _, _, _, _, _, _, _, X _ _ e, rfl, rfl, e1, ?_, e2, e3, e4, e5, q2⟩
      rw [Array.getD_eq_getD_getElem?, e1]
      rfl
    · cases q
  · cases q
def lamsOf (dfs : List Df) : List Df := dfs.filter fun d => d.fn.fl.lam
def csOf (dfs : List Df) (K : PySem.W.Frag) : List (Addr × Addr) := (lamsOf dfs).map fun d => codAt K (d.at_.a K)
def tabsOf (dfs : List Df) (K : PySem.W.Frag) : List (Addr × Str) := (lamsOf dfs).map fun d => ((codAt K (d.at_.a K)).2, d.qual ++ ".<locals>." ++ "<lambda>")
def lamB1 (K : PySem.W.Frag) (d : Df) : Bool := match K.lookup (d.at_.a K) with
  | some ⟨_, _, .func fd, _⟩ => decide (fd.code = .ref (codAt K (d.at_.a K)).1)
  | _ => false
def lamsB (dfs : List Df) (K : PySem.W.Frag) : Bool := (lamsOf dfs).all (lamB1 K) && (decide (((tabsOf dfs K).map (·.1)).Nodup) && (csOf dfs K).all fun p => (K.lookup p.2).isNone && codeB K p.1 p.2)
def oexBB (b : Bas) (K : PySem.W.Frag) (C : Addr) : Bool := match K.lookup C with
  | some ⟨.type t, _, .cls cd, sl⟩ => decide (t = "type") && (match cd.mro, sl.toList with
    | .ref C' :: bm, [_, _, _, _, some (.builtin n), _] => decide (C' = C) && (decide (n = b.new) && (!cd.hasDel && (cd.hasDict && refsT b.tl bm)))
    | _, _ => false)
  | _ => false
theorem oexBB_ok {b : Bas} {K : PySem.W.Frag} {C : Addr} (q : oexBB b K C = true) : ∃ nm q N bs bm sn sub ab col dd k0 k1 k2 k3 k5, K.lookup C = some (excClassObj nm q C N bs bm true sn sub ab col dd k0 k1 k2 k3 k5 b.new) ∧ refsT b.tl bm = true := by
  unfold oexBB at q
  split at q
  · rename_i ty dd cd sl ho
    rw [Bool.and_eq_true, decide_eq_true_eq] at q
    obtain ⟨rfl, q⟩ := q
    split at q
    · rename_i C' bm k0 k1 k2 k3 n k5 hm hs
      simp only [Bool.and_eq_true, decide_eq_true_eq, Bool.not_eq_true'] at q
      obtain ⟨rfl, rfl, h1, h2, h3⟩ := q
      obtain ⟨nm, bs, mro, ns, qn, hd, sn, sub, ab, col, del⟩ := cd
      obtain ⟨l⟩ := sl
      dsimp only at hm h1 h2 hs
      subst hm h1 h2 hs
      exact ⟨nm, qn, ns, bs, bm, sn, sub, ab, col, dd, k0, k1, k2, k3, k5, ho, h3⟩
    · cases q
  · cases q
def excB (K : PySem.W.Frag) (C : Addr) : Bool := He.eqO (PySem.W.findIn K (.ref C) "__getattribute__") (some (some (.builtin "BaseException.__getattribute__"))) && (He.eqO (PySem.W.findIn K (.ref C) "__getattr__") (some none) && (decide (PySem.W.subIn K (.ref C) (.type "BaseException") = some true) && (PySem.W.hasDictIn K C &&
  (He.eqO (PySem.W.findIn K (.ref C) "__class__") (some (some (.builtin "object.__class__"))) && (decide (PySem.W.mroIn K C (.type "object") = some true) && (PySem.W.keepIn K (.ref C) && decide (PySem.W.typeIn K (.ref C) = some (.type "type"))))))))
def xmkB1 (K : PySem.W.Frag) (c : Xc) : Bool := match c.fld with
  | some f => oexBB c.bas K (He.ga K c.x) && (He.eqO (PySem.W.findIn K (.ref (He.ga K c.x)) "__setattr__") (some (some (.builtin "object.__setattr__"))) && (He.eqO (PySem.W.findIn K (.ref (He.ga K c.x)) f) (some none) &&
    (He.eqO (PySem.W.findIn K (.ref (He.ga K c.x)) "__init__") (some (some (.ref (He.ma K (He.ga K c.x) "__init__")))) && decide (PySem.W.typeIn K (.ref (He.ma K (He.ga K c.x) "__init__")) = some (.type "function")))))
  | none => PySem.W.excIn K (He.ga K c.x) c.bas.tl c.bas.new
def xcB (K : PySem.W.Frag) (c : Xc) : Bool := (He.Fa.glo c.x).ok K && (excB K (He.ga K c.x) && xmkB1 K c)
def isB (T : Tb) (K : PySem.W.Frag) (y : Str) (v : Value) : Bool := T.xcs.all fun c => decide (PySem.W.kitOne K (.ref (He.ga K c.x)) v = some (c.ups.contains y)) && decide (PySem.W.exmOne K (.ref (He.ga K c.x)) v = some (c.ups.contains y))
def nmB (T : Tb) (K : PySem.W.Frag) (y : Str) : Bool := match PySem.W.nsIn K mainGlobals y with
  | some (some (.ref a)) => isB T K y (.ref a)
  | some none => (match bootBuiltins y with
    | some (.type s) => decide (y ≠ "__name__") && isB T K y (.type s)
    | _ => false)
  | _ => false
/-- the table of the interpreter's own statics, as it stands -/
def digB (K : PySem.W.Frag) : Bool := match K.lookup cStatics with
  | some o => (match o.data with
    | .dict es _ => es.all (fun e => match e.key with | .str _ _ => true | _ => false) && (nsFind es "sys.int_max_str_digits").isNone
    | _ => false)
  | none => false
theorem digB_ok {K : PySem.W.Frag} (h : digB K = true) : Digs K := fun hp hk => by
  unfold digB at h
  split at h
  · rename_i o lk
    split at h
    · rename_i es ep hd
      rw [Bool.and_eq_true] at h
      refine ⟨fun x => nsFind es x, ⟨o, es, ep, hk _ _ lk, hd, fun e he => ?_, fun _ => rfl⟩, Option.isNone_iff_eq_none.mp h.2⟩
      have := Array.all_eq_true'.mp h.1 e he
      split at this
      · rename_i n t q
        exact ⟨n, t, q⟩
      · cases this
    · cases h
  · cases h
/-- the background of a table -/
def bgOf (T : Tb) (dfs : List Df) (K : PySem.W.Frag) (dg : Digs K) : Bg := ⟨K, fun c => He.ga K (clX T c), T.clss.length, xcF T, tabsOf dfs K, none, fun j => He.ga K (xcX T j), T.xcs.length, dg⟩
mutual
/-- a written value -/
def litB (T : Tb) (K : PySem.W.Frag) : D → Value → Bool
  | .non, .none => true
  | .bl b, .bool c => decide (b = c)
  | .int i, .int j _ => decide (i = j)
  | .str s, .str t _ => decide (s = t)
  | .ty t, .type n => decide (n = t.nm)
  | .cl c, .ref a => decide (a = He.ga K (clX T c)) && decide (c < T.clss.length)
  | .tup ds, .ref a => (match K.lookup a with
    | some ⟨.type t, _, .seq its _, _⟩ => decide (t = "tuple") && (decide (its.size ≤ sizeLine) && litsB T K ds its.toList)
    | _ => false)
  | _, _ => false
def litsB (T : Tb) (K : PySem.W.Frag) : List D → List Value → Bool
  | [], [] => true
  | d :: ds, u :: us => litB T K d u && litsB T K ds us
  | _, _ => false
end
mutual
theorem litB_ok {T : Tb} {dfs : List Df} {K : PySem.W.Frag} {dg : Digs K} : ∀ {d : D} {u : Value}, litB T K d u = true → ∃ v, RelV v u ∧ ∀ F r, Rep (bgOf T dfs K dg) F r d v
  | .non, u, h => by
    cases u <;> simp only [litB, reduceCtorEq, Bool.false_eq_true] at h
    exact ⟨.non, rfl, fun _ _ => rfl⟩
  | .bl b, u, h => by
    cases u <;> simp only [litB, reduceCtorEq, Bool.false_eq_true, decide_eq_true_eq] at h
    subst h
    exact ⟨.bl b, rfl, fun _ _ => rfl⟩
  | .int i, u, h => by
    cases u <;> simp only [litB, reduceCtorEq, Bool.false_eq_true, decide_eq_true_eq] at h
    subst h
    exact ⟨.int i, ⟨_, rfl⟩, fun _ _ => rfl⟩
  | .str i, u, h => by
    cases u <;> simp only [litB, reduceCtorEq, Bool.false_eq_true, decide_eq_true_eq] at h
    subst h
    exact ⟨.str i, ⟨_, rfl⟩, fun _ _ => rfl⟩
  | .ty i, u, h => by
    cases u <;> simp only [litB, reduceCtorEq, Bool.false_eq_true, decide_eq_true_eq] at h
    subst h
    exact ⟨.ty i.nm, rfl, fun _ _ => rfl⟩
  | .cl c, u, h => by
    cases u <;> simp only [litB, reduceCtorEq, Bool.false_eq_true, decide_eq_true_eq, Bool.and_eq_true] at h
    obtain ⟨h1, h2⟩ := h
    subst h1
    exact ⟨.ref _, rfl, fun _ _ => ⟨rfl, h2⟩⟩
  | .tup ds, u, h => by
    cases u <;> simp only [litB, reduceCtorEq, Bool.false_eq_true] at h
    rename_i a
    split at h
    · rename_i t od its n sl e
      simp only [Bool.and_eq_true, decide_eq_true_eq] at h
      obtain ⟨rfl, h2, h3⟩ := h
      obtain ⟨vs, r1, r2⟩ := litsB_ok h3
      exact ⟨.ref a, rfl, fun F r => ⟨a, vs, rfl, .inr ⟨_, its, n, e, rfl, rfl, h2, r1⟩, r2 F r⟩⟩
    · cases h
  | .lst _, u, h => by cases u <;> cases h
  | .dct _, u, h => by cases u <;> cases h
  | .box _, u, h => by cases u <;> cases h
  | .obj _ _, u, h => by cases u <;> cases h
  | .scr _, u, h => by cases u <;> cases h
theorem litsB_ok {T : Tb} {dfs : List Df} {K : PySem.W.Frag} {dg : Digs K} : ∀ {ds : List D} {us : List Value}, litsB T K ds us = true → ∃ vs, Vals vs us ∧ ∀ F r, Reps (bgOf T dfs K dg) F r ds vs
  | [], [], h => ⟨[], .nil, fun _ _ => rfl⟩
  | [], _ :: _, h => by cases h
  | _ :: _, [], h => by cases h
  | d :: ds, u :: us, h => by
    simp only [litsB, Bool.and_eq_true] at h
    obtain ⟨v, r1, r2⟩ := litB_ok h.1
    obtain ⟨vs, r3, r4⟩ := litsB_ok h.2
    exact ⟨v :: vs, .cons r1 r3, fun F r => ⟨v, vs, rfl, r2 F r, r4 F r⟩⟩
end
def glB (T : Tb) (K : PySem.W.Frag) (q : Str × D) : Bool := match PySem.W.nsIn K mainGlobals q.1 with
  | some (some u) => litB T K q.2 u
  | _ => false
def clB (K : PySem.W.Frag) (cl : Cld) : Bool := (He.Fa.cls cl.x).ok K && ((He.Fa.glo cl.x).ok K && (He.eqO (PySem.W.findIn K (.ref (He.ga K cl.x)) "__class__") (some (some (.builtin "object.__class__"))) && (decide (PySem.W.mroIn K (He.ga K cl.x) (.type "object") = some true) && cl.flds.all fun f => (He.Fa.noat cl.x f).ok K)))
def tys : List Ty := [.int, .bool, .str, .tuple, .list, .dict]
def kitB (T : Tb) (K : PySem.W.Frag) : Bool := (List.range T.clss.length).all fun c => (kitTys.all fun t => decide (PySem.W.kitOne K (.type t) (.ref (He.ga K (clX T c))) = some false)) && (((List.range T.clss.length).all fun c' => decide (PySem.W.kitOne K (.ref (He.ga K (clX T c))) (.ref (He.ga K (clX T c'))) = some (decide (c = c')))) && tys.all fun t => decide (PySem.W.kitOne K (.ref (He.ga K (clX T c))) (.type t.nm) = some false))
def propB (K : PySem.W.Frag) (C : Addr) (f : Str) : Bool := He.eqO (PySem.W.findIn K (.ref C) f) (some (some (.ref (He.ma K C f)))) && (He.eqO (PySem.W.specialIn K (.ref (He.ma K C f)) "__get__") (some (some (.builtin "property.__get__"))) && (decide (PySem.W.takesIn K (.ref (He.ma K C f)) = some true) && (match PySem.W.recIn K (He.ma K C f) "property" with
    | some (.ref _ :: _) => true
    | _ => false)))
theorem propB_ok {K : PySem.W.Frag} {C : Addr} {f : Str} (h : propB K C f = true) : PropOf K C f (He.ma K C f) (He5.wf K C "property" f) := by
  unfold propB at h
  simp only [Bool.and_eq_true, decide_eq_true_eq] at h
  obtain ⟨h1, h2, h3, h4⟩ := h
  refine ⟨He.eqO_ok h1, He.eqO_ok h2, h3, ?_⟩
  unfold He5.wf
  split at h4
  · rename_i g r e
    exact ⟨r, by rw [e]⟩
  · cases h4
def locAt (T : Tb) (K : PySem.W.Frag) (q : Pat) : Bool := match q.kd with
  | .fn => (He.Fa.glo q.x).ok K
  | .kx => (He.Fa.glo q.x).ok K && (decide (q.n = 1) && q.ks.isEmpty)
  | .meth c => (He.Fa.meth (clX T c) q.x).ok K && decide (c < T.clss.length)
  | .prop c => propB K (He.ga K (clX T c)) q.x && (decide (q.n = 0) && (q.ks.isEmpty && decide (c < T.clss.length)))
  | .init c => (He.Fa.mkr (clX T c)).ok K && decide (c < T.clss.length)
  | .cmp c => He.eqO (PySem.W.findIn K (.ref (He.ga K (clX T c))) "__eq__") (some (some (.ref (He.ma K (He.ga K (clX T c)) "__eq__")))) && (PySem.W.isFn K (.ref (He.ma K (He.ga K (clX T c)) "__eq__")) && (He.eqO (PySem.W.findIn K (.ref (He.ga K (clX T c))) "__ne__") (some (some (.builtin "object.__ne__"))) && (decide (q.n = 1) && (q.ks.isEmpty && decide (c < T.clss.length)))))
  | .sto c => He.eqO (PySem.W.findIn K (.ref (He.ga K (clX T c))) "__str__") (some (some (.ref (He.ma K (He.ga K (clX T c)) "__str__")))) && (PySem.W.isFn K (.ref (He.ma K (He.ga K (clX T c)) "__str__")) && (decide (q.n = 0) && (q.ks.isEmpty && decide (c < T.clss.length))))
  | .rpo c => He.eqO (PySem.W.findIn K (.ref (He.ga K (clX T c))) "__repr__") (some (some (.ref (He.ma K (He.ga K (clX T c)) "__repr__")))) && (PySem.W.isFn K (.ref (He.ma K (He.ga K (clX T c)) "__repr__")) && (decide (q.n = 0) && (q.ks.isEmpty && decide (c < T.clss.length))))
def twoB (K : PySem.W.Frag) : Bool := He.eqO (PySem.W.specialIn K (.builtin "object.__class__") "__get__") (some (some (.builtin "getset_descriptor.__get__"))) && decide (PySem.W.takesIn K (.builtin "object.__class__") = some true)
/-- all that is asked of the written part, as one Bool -/
def exB (T : Tb) (K : PySem.W.Frag) : Bool := bltNames.all (fun x => (He.Fa.free x).ok K) && (T.glob.all (glB T K) && (T.clss.all (clB K) && (kitB T K && (T.pls.all (fun pl => locAt T K pl.pat) && ((T.clss.isEmpty && T.xcs.isEmpty || twoB K) && (T.xcs.all (xcB K) && (T.xns.all (nmB T K) && T.tls.all fun tl => (He.Fa.glo tl.x).ok K)))))))
def isTab : Option Obj → Bool
  | some ⟨.none, none, .fields vs, sl⟩ => vs.isEmpty && sl.isEmpty
  | _ => false
theorem isTab_ok {o : Option Obj} (h : isTab o = true) : o = some tabO := by
  unfold isTab at h
  split at h
  · rename_i vs sl
    rw [Bool.and_eq_true] at h
    have e1 : vs = #[] := Array.isEmpty_iff.mp h.1
    have e2 : sl = #[] := Array.isEmpty_iff.mp h.2
    subst e1 e2
    rfl
  · cases h
def obsQ (T : Tb) (dfs xs : List Df) (K : PySem.W.Frag) : He.AlD := (exB T K && (lamsB dfs K && (digB K && (dfs ++ xs).all fun d => d.d.ok K)), (dfs ++ xs).map fun d => He5.fnA K (d.at_.a K))
def valQ (dfs xs : List Df) : He.AlD := (true, (dfs ++ xs).map fun d => d.d.val)
def SaysQ (T : Tb) (dfs xs : List Df) (K : PySem.W.Frag) : Prop := obsQ T dfs xs K = valQ dfs xs
/-- addresses that were not met yet, marked as bits -/
def markR (m : Nat) (new all : List Addr) : List Addr → Nat × List Addr × List Addr
  | [] => (m, new, all)
  | a :: as => match Nat.testBit m a with
    | true => markR m new all as
    | false => markR (m ||| (1 <<< a)) (a :: new) (a :: all) as
def turnR (g : Addr → Option Obj) (m : Nat) (new all : List Addr) : List Addr → Nat × List Addr × List Addr
  | [] => (m, new, all)
  | a :: as => match g a with
    | some o => (match markR m new all (He.refsD o) with
      | (m', new', all') => turnR g m' new' all' as)
    | none => turnR g m new all as
/-- what the names reach in n steps -/
def reachR (g : Addr → Option Obj) (m : Nat) (now all : List Addr) : Nat → List Addr
  | 0 => all
  | n + 1 => match turnR g m [] all now with
    | (m', new, all') => reachR g m' new all' n
/-- the written part, without tables -/
def frQ (n : Nat) (g : Addr → Option Obj) : PySem.W.Frag := He.frG g ((cStatics :: reachR g (1 <<< mainGlobals) [mainGlobals] [mainGlobals] n).filter fun a => !isTab (g a))
def obsQG (n : Nat) (T : Tb) (dfs xs : List Df) (g : Addr → Option Obj) : He.AlD := ((obsQ T dfs xs (frQ n g)).1 && (csOf dfs (frQ n g)).all fun p => isTab (g p.2), (obsQ T dfs xs (frQ n g)).2)
def hookQ (n : Nat) (T : Tb) (dfs xs : List Df) : PySem.W.Hook where
  α := He.AlD
  obs := fun s => obsQG n T dfs xs s.heap.get?
  val := fun _ => valQ dfs xs
  says := fun _ h => ∃ K : PySem.W.Frag, K.In h ∧ SaysQ T dfs xs K ∧ ∀ p ∈ csOf dfs K, h.get? p.2 = some tabO
  of := fun _ s e => by
    have e1 : ((obsQ T dfs xs (frQ n s.heap.get?)).1 && (csOf dfs (frQ n s.heap.get?)).all fun p => isTab (s.heap.get? p.2)) = true := congrArg (fun z : He.AlD => z.1) e
    have e2 : (obsQ T dfs xs (frQ n s.heap.get?)).2 = (dfs ++ xs).map fun d => d.d.val := congrArg (fun z : He.AlD => z.2) e
    rw [Bool.and_eq_true] at e1
    exact ⟨_, He.frG_in, Prod.ext e1.1 e2, fun p hp => isTab_ok (List.all_eq_true.mp e1.2 p hp)⟩
  keeps := fun _ _ _ ⟨K, hK, c, ht⟩ k => ⟨K, PySem.W.Frag.In.keeps hK k, c, fun p hp => k _ _ (ht p hp)⟩
theorem obsQG_eq {n : Nat} {T : Tb} {dfs xs : List Df} {g : Addr → Option Obj} {s : Shared} (h : ∀ a, g a = s.heap.get? a) : obsQG n T dfs xs g = (hookQ n T dfs xs).obs s := by
  have e : g = s.heap.get? := funext h
  rw [e] <;> rfl
theorem SaysQ.def_ {T : Tb} {dfs xs : List Df} {K : PySem.W.Frag} (c : SaysQ T dfs xs K) {i : Nat} {d : Df} (h : (dfs ++ xs)[i]? = some d) : ∃ fd, FunD K d.name d.qual d.params d.body d.scope (d.dfl.map (He.Dv.v K)) [] (d.at_.a K) fd := by
  have c1 : (exB T K && (lamsB dfs K && (digB K && (dfs ++ xs).all fun d => d.d.ok K))) = true := congrArg (fun z : He.AlD => z.1) c
  have e : (dfs ++ xs).map (fun d => He5.fnA K (d.at_.a K)) = (dfs ++ xs).map fun d => d.d.val := congrArg (fun z : He.AlD => z.2) c
  have e2 : ((dfs ++ xs).map fun d => He5.fnA K (d.at_.a K))[i]? = ((dfs ++ xs).map fun d => d.d.val)[i]? := by rw [e]
  rw [List.getElem?_map, List.getElem?_map, h] at e2
  rw [Bool.and_eq_true, Bool.and_eq_true, Bool.and_eq_true] at c1
  exact He5.DefA.funD (d := d.d) (Option.some.inj e2) (List.all_eq_true.mp c1.2.2.2 d (List.mem_of_getElem? h))
theorem SaysQ.dig {T : Tb} {dfs xs : List Df} {K : PySem.W.Frag} (c : SaysQ T dfs xs K) : Digs K := by
  have c1 : (exB T K && (lamsB dfs K && (digB K && (dfs ++ xs).all fun d => d.d.ok K))) = true := congrArg (fun z : He.AlD => z.1) c
  rw [Bool.and_eq_true, Bool.and_eq_true, Bool.and_eq_true] at c1
  exact digB_ok c1.2.2.1
/-- the __init__ of a class of exceptions, as it stands -/
def XcOk (all : List Df) (c : Xc) : Prop := ∀ f, c.fld = some f → ∃ (i : Nat) (d : Df) (ps0 ps1 : Str) (p1 p2 p3 p4 : Pos), all[i]? = some d ∧ d.at_ = .init c.x ∧ d.dfl = [] ∧ d.body = [.Assign [.Attribute (.Name ps0 p1) f p2] (.Name ps1 p3) p4] ∧ scB [ps0, ps1] [ps0, ps1] d.scope = true ∧ (okNm ps0 && okNm ps1) = true ∧ BndA d [ps0, ps1]
/-- a teller, as it stands -/
def TlOk (T : Tb) (all : List Df) (tl : Tl) : Prop := ∃ (i : Nat) (d : Df) (te : Expr) (j j2 : Nat) (pv p1 p2 p3 pk pe pc pr ph pt q1 q2 q3 q4 q5 q6 u1 u2 u3 : Pos), all[i]? = some d ∧ d.at_ = .fn tl.x ∧ d.name = tl.x ∧ d.qual = tl.x ∧ d.dfl = [] ∧
  d.body = [.Try [.Assign [.Name tl.v pv] (.Call (.Name tl.a p1) [] [] p2) p3] [.ExceptHandler (some te) (some tl.en) [tellSu tl.kf tl.en j2 pk pe pc pr u1 u2 u3 tl.sw] ph] [] [] pt, tellEnd tl.told tl.v j q1 q2 q3 q4 q5 q6 tl.md] ∧ exNames te = some tl.ys ∧ BndA d [tl.a] ∧
  (scB [tl.a, tl.v, tl.en] [tl.a] d.scope && ((T.xcs.all fun c => tl.ys.any fun y => c.ups.contains y) && ((tl.ys.all fun y => T.xns.contains y && gloB d.scope y) && ((d.scope.names.lookup tl.v == some .local) && ((d.scope.names.lookup tl.en == some .local) && (gloB d.scope tl.kf && ((!(tl.md || tl.sw.isSome) || gloB d.scope "repr") && (tl.a :: tl.v :: tl.en :: tl.kf :: tl.ys).all okNm))))))) = true
theorem clX_get {T : Tb} {c : Nat} {cl : Cld} (h : T.clss[c]? = some cl) : clX T c = cl.x := by
  unfold clX
  rw [h]
theorem lookup_mem {α : Type} : ∀ {l : List (Str × α)} {x : Str} {d : α}, l.lookup x = some d → (x, d) ∈ l
  | [], x, d, h => by cases h
  | (y, e) :: l, x, d, h => by
    rw [List.lookup_cons] at h
    split at h
    · rename_i q
      cases h
      rw [eq_of_beq q]
      exact List.mem_cons_self
    · exact List.mem_cons_of_mem _ (lookup_mem h)
theorem tys_all (t : Ty) : t ∈ tys := by cases t <;> decide
/-- the tables of code stand -/
theorem tabs_at {h : Heap} {K : PySem.W.Frag} {T : Tb} {dfs xs : List Df} (X : K.In h) (c : SaysQ T dfs xs K) (ht : ∀ p ∈ csOf dfs K, h.get? p.2 = some tabO) : TabsAt h K (csOf dfs K) := by
  have c1 : (exB T K && (lamsB dfs K && (digB K && (dfs ++ xs).all fun d => d.d.ok K))) = true := congrArg (fun z : He.AlD => z.1) c
  rw [Bool.and_eq_true, Bool.and_eq_true] at c1
  have c2 := c1.2.1
  unfold lamsB at c2
  simp only [Bool.and_eq_true, List.all_eq_true, Option.isNone_iff_eq_none] at c2
  exact ⟨ht, fun p hp => (c2.2.2 p hp).1, fun p hp => codeB_ok X (c2.2.2 p hp).2⟩
theorem tabs_in {dfs : List Df} {K : PySem.W.Frag} : ∀ t ∈ tabsOf dfs K, t.1 ∈ (csOf dfs K).map (·.2) := fun t ht => by
  unfold tabsOf at ht
  obtain ⟨d, hd, rfl⟩ := List.mem_map.mp ht
  unfold csOf
  rw [List.map_map]
  exact List.mem_map.mpr ⟨d, hd, rfl⟩
theorem nodup_one {α β : Type} {l : List (α × β)} (h : (l.map (·.1)).Nodup) : ∀ p ∈ l, ∀ q ∈ l, p.1 = q.1 → p = q := by
  induction l with
  | nil => intro p hp; cases hp
  | cons x l ih =>
    rw [List.map_cons, List.nodup_cons] at h
    intro p hp q hq e
    rcases List.mem_cons.mp hp with z1 | hp1 <;> rcases List.mem_cons.mp hq with z2 | hq1
    · rw [z1, z2]
    · exact absurd (List.mem_map.mpr ⟨q, hq1, by rw [← e, z1]⟩) h.1
    · exact absurd (List.mem_map.mpr ⟨p, hp1, by rw [e, z2]⟩) h.1
    · exact ih h.2 p hp1 q hq1 e
theorem xcX_get {T : Tb} {j : Nat} {c : Xc} (h : T.xcs[j]? = some c) : xcX T j = c.x ∧ xcF T j = c.fld.getD "" := by
  unfold xcX xcF
  rw [h]
  exact ⟨rfl, rfl⟩
theorem isB_ok {T : Tb} {K : PySem.W.Frag} {y : Str} {v : Value} {dfs : List Df} (h : isB T K y v = true) : ∀ j c, T.xcs[j]? = some c → PySem.W.kitOne K (.ref (He.ga K (xcX T j))) v = some (c.ups.contains y) ∧ PySem.W.exmOne K (.ref (He.ga K (xcX T j))) v = some (c.ups.contains y) := fun j c hj => by
  have q := List.all_eq_true.mp h c (List.mem_of_getElem? hj)
  rw [Bool.and_eq_true, decide_eq_true_eq, decide_eq_true_eq] at q
  rw [(xcX_get hj).1]
  exact q
theorem xf_of {h : Heap} {mg : Str → Option Value} {K : PySem.W.Frag} {T : Tb} {dfs xs : List Df} {dg : Digs K} (X : K.In h) (G : h.Ns mainGlobals mg) (cS : SaysQ T dfs xs K) (hx : AllP (XcOk (dfs ++ xs)) T.xcs)
    (two : T.xcs ≠ [] → PySem.W.specialIn K (.builtin "object.__class__") "__get__" = some (some (.builtin "getset_descriptor.__get__")) ∧ PySem.W.takesIn K (.builtin "object.__class__") = some true) (f7 : ∀ c ∈ T.xcs, xcB K c = true) (f8 : ∀ y ∈ T.xns, nmB T K y = true) : XcF mg (bgOf T dfs K dg) T.xcs T.xns := by
  have at_ : ∀ {j : Nat} {c : Xc}, T.xcs[j]? = some c → (bgOf T dfs K dg).xcl j = He.ga K c.x := fun {j c} hj => by
    show He.ga K (xcX T j) = _
    rw [(xcX_get hj).1]
  have fx : ∀ {j : Nat} {c : Xc}, T.xcs[j]? = some c → _ := fun {j c} hj => f7 c (List.mem_of_getElem? hj)
  have exs : ∀ {j : Nat} {c : Xc}, T.xcs[j]? = some c → excB K (He.ga K c.x) = true ∧ xmkB1 K c = true ∧ (He.Fa.glo c.x).ok K = true := fun {j c} hj => by
    have q := fx hj
    unfold xcB at q
    rw [Bool.and_eq_true, Bool.and_eq_true] at q
    exact ⟨q.2.1, q.2.2, q.1⟩
  refine ⟨rfl, fun j c hj => ?_, fun j c f hj hf => ?_, fun j c hj hf => ?_, fun j c hj => ?_, fun y hy => ?_⟩
  · rw [at_ hj]
    exact He.glo_ok X G (exs hj).2.2
  · obtain ⟨e1, e2, _⟩ := exs hj
    rw [at_ hj]
    unfold xmkB1 at e2
    rw [hf] at e2
    unfold excB at e1
    simp only [Bool.and_eq_true, decide_eq_true_eq] at e1 e2
    obtain ⟨g1, g2, g3, g4, g5, g6, g7, g8⟩ := e1
    obtain ⟨m1, m2, m3, m4, m5⟩ := e2
    obtain ⟨i, d, ps0, ps1, p1, p2, p3, p4, h1, h2, h3, h4, h5, h6, h7⟩ := hx.get hj f hf
    obtain ⟨fd, FD⟩ := cS.def_ h1
    have ea : d.at_.a K = He.ma K (He.ga K c.x) "__init__" := by rw [h2]; rfl
    rw [ea, h3] at FD
    rw [Bool.and_eq_true] at h6
    have hb := binds_of (d := d) FD h7
    rw [h4] at FD
    refine ⟨⟨⟨oexBB_ok m1, He.eqO_ok m2, g3, g8, g7⟩, He.eqO_ok m3, _, fd, _, _, ps0, ps1, _, _, p1, p2, p3, p4, He.eqO_ok m4, m5, FD, scB_ok h5, hb, (okNm_1 h6.1).1, (okNm_1 h6.1).2, (okNm_1 h6.2).1, (okNm_1 h6.2).2⟩, ?_, ⟨He.eqO_ok g1, He.eqO_ok g2, g3, g4⟩⟩
    show xcF T j = f
    rw [(xcX_get hj).2, hf]
    rfl
  · obtain ⟨e1, e2, _⟩ := exs hj
    rw [at_ hj]
    unfold xmkB1 at e2
    rw [hf] at e2
    unfold excB at e1
    simp only [Bool.and_eq_true, decide_eq_true_eq] at e1
    obtain ⟨g1, g2, g3, g4, g5, g6, g7, g8⟩ := e1
    exact ⟨e2, g7, g3, g8⟩
  · obtain ⟨e1, _, _⟩ := exs hj
    rw [at_ hj]
    unfold excB at e1
    simp only [Bool.and_eq_true, decide_eq_true_eq] at e1
    obtain ⟨g1, g2, g3, g4, g5, g6, g7, g8⟩ := e1
    obtain ⟨t1, t2⟩ := two fun z => by rw [z] at hj; cases hj
    exact ⟨He.eqO_ok g1, He.eqO_ok g2, g3, g4, He.eqO_ok g5, t1, t2, g6⟩
  · have q := f8 y hy
    unfold nmB at q
    split at q
    · rename_i a e
      exact ⟨.ref a, .ref a, rfl, fun u hu => hu, .inl (PySem.W.mg_of X G e), isB_ok (dfs := dfs) q⟩
    · rename_i e
      split at q
      · rename_i s hs
        rw [Bool.and_eq_true, decide_eq_true_eq] at q
        exact ⟨.type s, .ty s, rfl, fun u hu => hu, .inr ⟨PySem.W.mg_none_of X G e, hs, q.1⟩, isB_ok (dfs := dfs) q.2⟩
      · cases q
    · cases q
theorem tel_of {h : Heap} {mg : Str → Option Value} {K : PySem.W.Frag} {T : Tb} {dfs xs : List Df} {dg : Digs K} (X : K.In h) (G : h.Ns mainGlobals mg) (c : SaysQ T dfs xs K) (gl : ∀ tl ∈ T.tls, mg tl.x = some (.ref (He.ga K tl.x))) (ht : ∀ tl ∈ T.tls, TlOk T (dfs ++ xs) tl) : ∀ tl ∈ T.tls, TelF mg (bgOf T dfs K dg) T.xcs T.xns tl := fun tl htl => by
  obtain ⟨i, d, te, j, j2, pv, p1, p2, p3, pk, pe, pc, pr, ph, pt, q1, q2, q3, q4, q5, q6, u1, u2, u3, h1, h2, h3, h4, h5, h6, h7, h8, h9⟩ := ht tl htl
  simp only [Bool.and_eq_true, List.all_eq_true, beq_iff_eq, Bool.or_eq_true, Bool.not_eq_true'] at h9
  obtain ⟨s1, s2, s3, s4, s5, s6, s7, s8⟩ := h9
  obtain ⟨fd, FD⟩ := c.def_ h1
  have ea : d.at_.a K = He.ga K tl.x := by rw [h2]; rfl
  rw [ea, h5] at FD
  have hb := binds_of (d := d) FD h8
  rw [h3, h4, h6] at FD
  refine ⟨s2, fun y hy => List.contains_iff_mem.mp (s3 y hy).1, _, fd, _, d.scope, te, j, j2, pv, p1, p2, p3, pk, pe, pc, pr, ph, pt, q1, q2, q3, q4, q5, q6, u1, u2, u3, gl tl htl, FD, hb, scB_ok s1, h7, s4, s5, gloB_glo s6, fun z => ?_, fun y hy => gloB_glo (s3 y hy).2, s8⟩
  rcases s7 with y | y
  · rcases z with z | z
    · rw [z] at y
      cases y
    · cases hs : tl.sw with
      | none => exact absurd hs z
      | some _ =>
        rw [hs, Option.isSome_some, Bool.or_true] at y
        cases y
  · exact gloB_glo y
theorem tb_of {h : Heap} {mg : Str → Option Value} {K : PySem.W.Frag} {T : Tb} {dfs xs : List Df} {dg : Digs K} (X : K.In h) (G : h.Ns mainGlobals mg) (c : SaysQ T dfs xs K)
    (hd : AllP (DfOk T) dfs) (hp : AllP (PlOk T dfs) T.pls) (hx : AllP (XcOk (dfs ++ xs)) T.xcs) (ht : AllP (TlOk T (dfs ++ xs)) T.tls) : TbOk mg (bgOf T dfs K dg) T (csOf dfs K) := by
  have c1 : (exB T K && (lamsB dfs K && (digB K && (dfs ++ xs).all fun d => d.d.ok K))) = true := congrArg (fun z : He.AlD => z.1) c
  rw [Bool.and_eq_true, Bool.and_eq_true] at c1
  have c2 := c1.1
  have c3 := c1.2.1
  unfold lamsB at c3
  simp only [Bool.and_eq_true, List.all_eq_true, decide_eq_true_eq] at c3
  obtain ⟨l1, l2, l3⟩ := c3
  unfold exB at c2
  simp only [Bool.and_eq_true, List.all_eq_true] at c2
  obtain ⟨f1, f2, f3, f4, f5, f6, f7, f8, f9⟩ := c2
  have two0 : T.clss ≠ [] ∨ T.xcs ≠ [] → PySem.W.specialIn K (.builtin "object.__class__") "__get__" = some (some (.builtin "getset_descriptor.__get__")) ∧ PySem.W.takesIn K (.builtin "object.__class__") = some true := fun hne => by
    rw [Bool.or_eq_true] at f6
    rcases f6 with z | z
    · rw [Bool.and_eq_true, List.isEmpty_iff, List.isEmpty_iff] at z
      rcases hne with y | y
      · exact absurd z.1 y
      · exact absurd z.2 y
    · unfold twoB at z
      rw [Bool.and_eq_true, decide_eq_true_eq] at z
      exact ⟨He.eqO_ok z.1, z.2⟩
  have two : ∀ cc, cc < T.clss.length → _ := fun cc hc => two0 (.inl fun z => by rw [z] at hc; exact absurd hc (Nat.not_lt_zero _))
  have kc : ∀ cc cl, T.clss[cc]? = some cl → clB K cl = true := fun cc cl e => f3 cl (List.mem_of_getElem? e)
  have insF : ∀ cc, cc < T.clss.length → InsF K (He.ga K (clX T cc)) := fun cc hc => by
    have e := List.getElem?_eq_getElem hc
    have q := kc cc _ e
    unfold clB at q
    simp only [Bool.and_eq_true, decide_eq_true_eq] at q
    obtain ⟨q1, q2, q3, q4, q5⟩ := q
    rw [clX_get e]
    exact ⟨He.cls_ok q1, He.eqO_ok q3, (two cc hc).1, (two cc hc).2, q4⟩
  have kk : ∀ cc, cc < T.clss.length → _ := fun cc hc => List.all_eq_true.mp f4 cc (List.mem_range.mpr hc)
  have allD : ∀ {i : Nat} {d : Df}, dfs[i]? = some d → (dfs ++ xs)[i]? = some d := fun {i d} e => by rw [List.getElem?_append_left (List.getElem?_eq_some_iff.mp e).1]; exact e
  refine ⟨fun x hx => ?_, fun x d hx => ?_, ⟨⟨fun cc hc => insF cc hc, fun cc hc t ht => ?_, fun cc cc' hc hc' => ?_, fun cc hc t => ?_⟩, rfl, fun cc cl e => ?_⟩, xf_of X G c hx (fun z => two0 (.inr z)) f7 f8, ?_, fun p pl hpl => ?_⟩
  · exact He.free_ok X G (f1 x hx)
  · have q := f2 _ (lookup_mem hx)
    unfold glB at q
    split at q
    · rename_i u e
      obtain ⟨v, r1, r2⟩ := litB_ok (dfs := dfs) q
      exact ⟨v, u, PySem.W.mg_of X G e, r1, r2⟩
    · cases q
  · have q := kk cc hc
    simp only [Bool.and_eq_true, List.all_eq_true, decide_eq_true_eq] at q
    exact q.1 t ht
  · have q := kk cc hc
    simp only [Bool.and_eq_true, List.all_eq_true, decide_eq_true_eq] at q
    exact q.2.1 cc' (List.mem_range.mpr hc')
  · have q := kk cc hc
    simp only [Bool.and_eq_true, List.all_eq_true, decide_eq_true_eq] at q
    exact q.2.2 t (tys_all t)
  · have q := kc cc cl e
    unfold clB at q
    simp only [Bool.and_eq_true, List.all_eq_true] at q
    obtain ⟨q1, q2, q3, q4, q5⟩ := q
    have ex := clX_get e
    refine ⟨?_, fun f hf => ?_⟩
    · show mg cl.x = some (.ref (He.ga K (clX T cc)))
      rw [ex]
      exact He.glo_ok X G q2
    · show NoAttr K (He.ga K (clX T cc)) f
      rw [ex]
      exact He.noat_ok (q5 f (List.contains_iff_mem.mp hf))
  · have htl : ∀ tl ∈ T.tls, TlOk T (dfs ++ xs) tl := fun tl htl => by
      obtain ⟨i, hi⟩ := List.getElem?_of_mem htl
      exact ht.get hi
    exact tel_of X G c (fun tl h0 => He.glo_ok X G (f9 tl h0)) htl
  · obtain ⟨f, g1, g2, g3, g4, g5, g6, g7, g8⟩ := (hp.get hpl).ok
    have D0 := hd.get g1
    obtain ⟨fd, FD⟩ := c.def_ (allD g1)
    obtain ⟨n, hc⟩ := D0.cc
    have loc : Loc_ mg (bgOf T dfs K dg) pl.pat (f.at_.a K) := by
      have q := f5 pl (List.mem_of_getElem? hpl)
      rw [g3]
      unfold locAt at q
      unfold Loc_ atOf
      cases hk0 : pl.pat.kd <;> rw [hk0] at q <;> dsimp only
      · exact He.glo_ok X G q
      · simp only [Bool.and_eq_true, decide_eq_true_eq] at q
        exact ⟨He.meth_ok q.1, q.2⟩
      · simp only [Bool.and_eq_true, decide_eq_true_eq] at q
        exact ⟨⟨_, propB_ok q.1⟩, q.2.1, List.isEmpty_iff.mp q.2.2.1, q.2.2.2⟩
      · simp only [Bool.and_eq_true, decide_eq_true_eq] at q
        exact ⟨He.mkr_ok q.1, q.2⟩
      · simp only [Bool.and_eq_true, decide_eq_true_eq] at q
        exact ⟨⟨He.eqO_ok q.1, q.2.1, He.eqO_ok q.2.2.1⟩, q.2.2.2.1, List.isEmpty_iff.mp q.2.2.2.2.1, q.2.2.2.2.2⟩
      · simp only [Bool.and_eq_true, decide_eq_true_eq] at q
        exact ⟨He.glo_ok X G q.1, q.2.1, List.isEmpty_iff.mp q.2.2⟩
      · simp only [Bool.and_eq_true, decide_eq_true_eq] at q
        exact ⟨⟨He.eqO_ok q.1, q.2.1⟩, q.2.2.1, List.isEmpty_iff.mp q.2.2.2.1, q.2.2.2.2⟩
      · simp only [Bool.and_eq_true, decide_eq_true_eq] at q
        exact ⟨⟨He.eqO_ok q.1, q.2.1⟩, q.2.2.1, List.isEmpty_iff.mp q.2.2.2.1, q.2.2.2.2⟩
    refine ⟨f.fn, _, fd, f.dfl.map (He.Dv.v K), g2, loc, ⟨f.qual, f.params, f.body, f.scope, _, n, by rw [D0.x]; exact FD, scB_ok D0.sc, hc, fun hl => ?_⟩, ?_, dvsD_ok g4, g7, fun z => ?_⟩
    · have hm : f ∈ lamsOf dfs := List.mem_filter.mpr ⟨List.mem_of_getElem? g1, hl⟩
      have q := l1 f hm
      unfold lamB1 at q
      obtain ⟨oc, od, dV, kV, doc, pm, an, cdv, ct, osl, ef, lk, _⟩ := FD.ex
      rw [lk] at q
      dsimp only at q
      rw [decide_eq_true_eq] at q
      refine ⟨_, _, q, List.mem_map.mpr ⟨f, hm, rfl⟩, List.mem_map.mpr ⟨f, hm, rfl⟩, fun p hp e => ?_⟩
      have e2 := nodup_one l2 p hp _ (List.mem_map.mpr ⟨f, hm, rfl⟩) e
      rw [e2]
    · unfold Bnd at g6
      split at g6
      · rename_i z
        rw [z] at FD ⊢
        exact pat_of0 FD g5 g6
      · rename_i z
        refine pat_of1 FD (fun y => z (List.map_eq_nil_iff.mp y)) g5 fun T kV doc pm an cdv ct its us ws h1 h2 h3 => g6 T kV doc pm an cdv ct its us ws (by rw [h1, List.length_map]) h2 h3
    · obtain ⟨z1, x0, z2, z3⟩ := g8 z
      rw [z1] at FD ⊢
      exact ⟨rfl, x0, z2, binds_of FD z3⟩
end Ev
set_option Elab.async false
set_option linter.all false
set_option autoImplicit false
set_option maxRecDepth 100000
set_option maxHeartbeats 0
/-! the table of k05 -/
namespace Pk05
open PySem PySem.Spec PyProof.Rows L2 Ev
def top (i : Nat) : Stmt := PySem.Challenge.pw_purepowers_k05_whole_products_with_integ.main.body.getD i (.Pass ⟨0, 0, 0, 0⟩)
def sub (i j : Nat) : Stmt := (clBody (top i)).getD j (.Pass ⟨0, 0, 0, 0⟩)
def gl : List (Str × D) := [("MOST_SIZE", (.int 1000000000000000000000000000000))]
def cls : List Cld := []
/-- _law_gcd -/
def m0 : MSs := (.cons (.par [0, 1] (.cons (.bi .abs (.cons (.var 0) .nil)) (.cons (.bi .abs (.cons (.var 1) .nil)) .nil))) (.cons (.whil (.val (.cmp .Gt (.var 1) (.c (.int 0)))) (.cons (.par [0, 1] (.cons (.var 1) (.cons (.bin .Mod (.bi .int (.cons (.var 0) .nil)) (.var 1)) .nil))) .nil)) (.cons (.retv 0) .nil)))
def f0 : Fn := ⟨"_law_gcd", ["_law_one", "_law_two"], ["_law_one", "_law_two"], m0, ⟨false, false, false, false, false⟩⟩
def d0 : Df := ⟨.fn "_law_gcd", "_law_gcd", "_law_gcd", defArgs (top 30), defBody (top 30), defScope (top 30), [], f0⟩
/-- _law_pair -/
def m1 : MSs := (.cons (.set 2 (.call 0 2 0 (.cons (.var 0) (.cons (.var 1) .nil)) .nil)) (.cons (.ret (.tup (.cons (.bin .FloorDiv (.var 0) (.var 2)) (.cons (.bin .FloorDiv (.var 1) (.var 2)) .nil)))) .nil))
def f1 : Fn := ⟨"_law_pair", ["_law_top", "_law_bottom", "_law_common"], ["_law_top", "_law_bottom"], m1, ⟨false, false, false, false, false⟩⟩
def d1 : Df := ⟨.fn "_law_pair", "_law_pair", "_law_pair", defArgs (top 31), defBody (top 31), defScope (top 31), [], f1⟩
/-- _law_dip -/
def m2 : MSs := (.cons (.asg (.bin .Add (.ix (.var 0) (.c (.int 2))) (.c (.int 1))) (.sub 0 (.c (.int 2)))) (.cons (.ifs (.val (.cmp .Gt (.ix (.var 0) (.c (.int 0))) (.c (.int 0)))) (.cons (.asg (.bi .divmod (.cons (.ix (.var 0) (.c (.int 0))) (.cons (.var 1) .nil))) (.tup 2 (.cons (.sub 0 (.c (.int 0))) (.cons (.name 2) .nil)))) (.cons (.retv 2) .nil)) .nil) (.cons (.asg (.bin .Mod (.bi .int (.cons (.bin .Add (.bin .Mult (.ix (.var 0) (.c (.int 1))) (.c (.int 48271))) (.bin .Mult (.c (.int 70019)) (.ix (.var 0) (.c (.int 2))))) .nil)) (.c (.int 2147483399))) (.sub 0 (.c (.int 1)))) (.cons (.ret (.bin .Mod (.bi .int (.cons (.bin .FloorDiv (.ix (.var 0) (.c (.int 1))) (.c (.int 512))) .nil)) (.var 1))) .nil))))
def f2 : Fn := ⟨"_law_dip", ["_law_jar_here", "_law_top", "_law_digit"], ["_law_jar_here", "_law_top"], m2, ⟨false, false, false, false, false⟩⟩
def d2 : Df := ⟨.fn "_law_dip", "_law_dip", "_law_dip", defArgs (top 26), defBody (top 26), defScope (top 26), [], f2⟩
/-- _law_one_of -/
def m3 : MSs := (.cons (.ret (.ix (.var 1) (.call 1 2 0 (.cons (.var 0) (.cons (.bi .len (.cons (.var 1) .nil)) .nil)) .nil))) .nil)
def f3 : Fn := ⟨"_law_one_of", ["_law_jar_here", "_law_some"], ["_law_jar_here", "_law_some"], m3, ⟨false, false, false, false, false⟩⟩
def d3 : Df := ⟨.fn "_law_one_of", "_law_one_of", "_law_one_of", defArgs (top 27), defBody (top 27), defScope (top 27), [], f3⟩
/-- _law_power -/
def m4 : MSs := (.cons (.set 2 (.c (.int 1))) (.cons (.forr (.range1 (.cons (.var 1) .nil)) (.name 3) (.cons (.set 2 (.bin .Mult (.var 2) (.var 0))) .nil)) (.cons (.retv 2) .nil)))
def f4 : Fn := ⟨"_law_power", ["_law_value", "_law_many", "_law_found", "_law_turn"], ["_law_value", "_law_many"], m4, ⟨false, false, false, false, false⟩⟩
def d4 : Df := ⟨.fn "_law_power", "_law_power", "_law_power", defArgs (top 28), defBody (top 28), defScope (top 28), [], f4⟩
/-- _law_raised -/
def m5 : MSs := (.cons (.ret (.tup (.cons (.call 2 2 0 (.cons (.ix (.var 0) (.c (.int 0))) (.cons (.var 1) .nil)) .nil) (.cons (.call 2 2 0 (.cons (.ix (.var 0) (.c (.int 1))) (.cons (.var 1) .nil)) .nil) .nil)))) .nil)
def f5 : Fn := ⟨"_law_raised", ["_law_pair_here", "_law_many"], ["_law_pair_here", "_law_many"], m5, ⟨false, false, false, false, false⟩⟩
def d5 : Df := ⟨.fn "_law_raised", "_law_raised", "_law_raised", defArgs (top 29), defBody (top 29), defScope (top 29), [], f5⟩
/-- _law_great -/
def m6 : MSs := (.cons (.set 1 (.bin .Add (.bin .Add (.bin .Add (.c (.int 1)) (.bin .Mult (.call 1 2 0 (.cons (.var 0) (.cons (.bin .Pow (.c (.int 10)) (.c (.int 9))) .nil)) .nil) (.bin .Pow (.c (.int 10)) (.c (.int 20))))) (.bin .Mult (.call 1 2 0 (.cons (.var 0) (.cons (.bin .Pow (.c (.int 10)) (.c (.int 9))) .nil)) .nil) (.bin .Pow (.c (.int 10)) (.c (.int 10))))) (.call 1 2 0 (.cons (.var 0) (.cons (.bin .Pow (.c (.int 10)) (.c (.int 9))) .nil)) .nil))) (.cons (.ret (.call 3 2 0 (.cons (.var 0) (.cons (.lst (.cons (.var 1) (.cons (.bin .Add (.c (.int 1)) (.call 1 2 0 (.cons (.var 0) (.cons (.c (.int 12)) .nil)) .nil)) (.cons (.bin .Add (.c (.int 1)) (.call 1 2 0 (.cons (.var 0) (.cons (.c (.int 2000)) .nil)) .nil)) (.cons (.bin .Pow (.c (.int 10)) (.c (.int 30))) (.cons (.bin .Add (.c (.int 1)) (.call 1 2 0 (.cons (.var 0) (.cons (.c (.int 9)) .nil)) .nil)) .nil)))))) .nil)) .nil)) .nil))
def f6 : Fn := ⟨"_law_great", ["_law_jar_here", "_law_found"], ["_law_jar_here"], m6, ⟨false, false, false, false, false⟩⟩
def d6 : Df := ⟨.fn "_law_great", "_law_great", "_law_great", defArgs (top 33), defBody (top 33), defScope (top 33), [], f6⟩
/-- _law_plain -/
def m7 : MSs := (.cons (.ret (.call 4 2 0 (.cons (.bin .Add (.c (.int 1)) (.call 1 2 0 (.cons (.var 0) (.cons (.c (.int 9)) .nil)) .nil)) (.cons (.call 3 2 0 (.cons (.var 0) (.cons (.lst (.cons (.c (.int 1)) (.cons (.c (.int 1)) (.cons (.c (.int 1)) (.cons (.c (.int 2)) (.cons (.c (.int 3)) (.cons (.c (.int 4)) (.cons (.bin .Add (.c (.int 1)) (.call 1 2 0 (.cons (.var 0) (.cons (.c (.int 9)) .nil)) .nil)) .nil)))))))) .nil)) .nil) .nil)) .nil)) .nil)
def f7 : Fn := ⟨"_law_plain", ["_law_jar_here"], ["_law_jar_here"], m7, ⟨false, false, false, false, false⟩⟩
def d7 : Df := ⟨.fn "_law_plain", "_law_plain", "_law_plain", defArgs (top 32), defBody (top 32), defScope (top 32), [], f7⟩
/-- _law_number -/
def m8 : MSs := (.cons (.par [1, 2] (.cons (.call 1 2 0 (.cons (.var 0) (.cons (.c (.int 7)) .nil)) .nil) (.cons (.call 3 2 0 (.cons (.var 0) (.cons (.lst (.cons (.c (.int 1)) (.cons (.c (.int 1)) (.cons (.neg (.c (.int 1))) .nil)))) .nil)) .nil) .nil))) (.cons (.ifs (.val (.cmp .Lt (.var 1) (.c (.int 4)))) (.cons (.set 3 (.call 5 2 0 (.cons (.call 7 1 0 (.cons (.var 0) .nil) .nil) (.cons (.call 3 2 0 (.cons (.var 0) (.cons (.lst (.cons (.c (.int 1)) (.cons (.c (.int 2)) (.cons (.c (.int 3)) (.cons (.c (.int 4)) (.cons (.c (.int 5)) (.cons (.c (.int 6)) (.cons (.c (.int 6)) (.cons (.c (.int 7)) (.cons (.c (.int 8)) (.cons (.c (.int 9)) (.cons (.c (.int 10)) (.cons (.c (.int 12)) (.cons (.c (.int 15)) (.cons (.c (.int 30)) .nil))))))))))))))) .nil)) .nil) .nil)) .nil)) (.cons (.ret (.tup (.cons (.bin .Mult (.var 2) (.ix (.var 3) (.c (.int 0)))) (.cons (.ix (.var 3) (.c (.int 1))) .nil)))) .nil)) .nil) (.cons (.ifs (.val (.cmp .Eq (.var 1) (.c (.int 4)))) (.cons (.set 3 (.call 5 2 0 (.cons (.call 7 1 0 (.cons (.var 0) .nil) .nil) (.cons (.call 3 2 0 (.cons (.var 0) (.cons (.lst (.cons (.c (.int 1)) (.cons (.c (.int 1)) (.cons (.c (.int 3)) (.cons (.c (.int 5)) .nil))))) .nil)) .nil) .nil)) .nil)) (.cons (.ret (.call 4 2 0 (.cons (.bin .Mult (.neg (.c (.int 4))) (.call 2 2 0 (.cons (.ix (.var 3) (.c (.int 0))) (.cons (.c (.int 4)) .nil)) .nil)) (.cons (.call 2 2 0 (.cons (.ix (.var 3) (.c (.int 1))) (.cons (.c (.int 4)) .nil)) .nil) .nil)) .nil)) .nil)) .nil) (.cons (.ifs (.val (.cmp .Eq (.var 1) (.c (.int 5)))) (.cons (.ret (.call 3 2 0 (.cons (.var 0) (.cons (.lst (.cons (.tup (.cons (.c (.int 1)) (.cons (.c (.int 1)) .nil))) (.cons (.tup (.cons (.neg (.c (.int 1))) (.cons (.c (.int 1)) .nil))) (.cons (.tup (.cons (.c (.int 2)) (.cons (.c (.int 1)) .nil))) (.cons (.tup (.cons (.neg (.c (.int 4))) (.cons (.c (.int 1)) .nil))) (.cons (.tup (.cons (.neg (.c (.int 1))) (.cons (.c (.int 4)) .nil))) (.cons (.tup (.cons (.neg (.c (.int 64))) (.cons (.c (.int 1)) .nil))) (.cons (.tup (.cons (.c (.int 64)) (.cons (.c (.int 729)) .nil))) (.cons (.tup (.cons (.c (.int 1)) (.cons (.c (.int 2)) .nil))) (.cons (.tup (.cons (.neg (.c (.int 27))) (.cons (.c (.int 8)) .nil))) .nil)))))))))) .nil)) .nil)) .nil) .nil) (.cons (.ret (.call 4 2 0 (.cons (.bin .Mult (.var 2) (.call 6 1 0 (.cons (.var 0) .nil) .nil)) (.cons (.call 6 1 0 (.cons (.var 0) .nil) .nil) .nil)) .nil)) .nil)))))
def f8 : Fn := ⟨"_law_number", ["_law_jar_here", "_law_way", "_law_sign", "_law_found"], ["_law_jar_here"], m8, ⟨false, false, false, false, false⟩⟩
def d8 : Df := ⟨.fn "_law_number", "_law_number", "_law_number", defArgs (top 34), defBody (top 34), defScope (top 34), [], f8⟩
/-- _law_kept -/
def m9 : MSs := (.cons (.set 1 (.call 8 1 0 (.cons (.var 0) .nil) .nil)) (.cons (.ifs (.and (.val (.cmp .LtE (.bi .abs (.cons (.ix (.var 1) (.c (.int 0))) .nil)) (.bin .Pow (.c (.int 10)) (.c (.int 30))))) (.val (.cmp .LtE (.ix (.var 1) (.c (.int 1))) (.bin .Pow (.c (.int 10)) (.c (.int 30)))))) (.cons (.retv 1) .nil) .nil) (.cons (.ret (.call 3 2 0 (.cons (.var 0) (.cons (.lst (.cons (.tup (.cons (.c (.int 8)) (.cons (.c (.int 1)) .nil))) (.cons (.tup (.cons (.neg (.c (.int 8))) (.cons (.c (.int 27)) .nil))) (.cons (.tup (.cons (.c (.int 5)) (.cons (.c (.int 3)) .nil))) .nil)))) .nil)) .nil)) .nil)))
def f9 : Fn := ⟨"_law_kept", ["_law_jar_here", "_law_found"], ["_law_jar_here"], m9, ⟨false, false, false, false, false⟩⟩
def d9 : Df := ⟨.fn "_law_kept", "_law_kept", "_law_kept", defArgs (top 35), defBody (top 35), defScope (top 35), [], f9⟩
/-- common_divisor -/
def m10 : MSs := (.cons (.whil (.val (.cmp .NotEq (.var 1) (.c (.int 0)))) (.cons (.par [0, 1] (.cons (.var 1) (.cons (.bin .Mod (.var 0) (.var 1)) .nil))) .nil)) (.cons (.retv 0) .nil))
def f10 : Fn := ⟨"common_divisor", ["one", "other"], ["one", "other"], m10, ⟨false, false, false, false, false⟩⟩
def d10 : Df := ⟨.fn "common_divisor", "common_divisor", "common_divisor", defArgs (top 10), defBody (top 10), defScope (top 10), [], f10⟩
/-- is_integer -/
def m11 : MSs := (.cons (.ret (.and (.bi .isinstance (.cons (.var 0) (.cons (.c (.ty .int)) .nil))) (.not (.bi .isinstance (.cons (.var 0) (.cons (.c (.ty .bool)) .nil)))))) .nil)
def f11 : Fn := ⟨"is_integer", ["value"], ["value"], m11, ⟨false, false, false, false, false⟩⟩
def d11 : Df := ⟨.fn "is_integer", "is_integer", "is_integer", defArgs (top 7), defBody (top 7), defScope (top 7), [], f11⟩
/-- is_between -/
def m12 : MSs := (.cons (.ret (.and (.call 9 1 0 (.cons (.var 0) .nil) .nil) (.chain .LtE .LtE (.var 1) (.var 0) (.var 2)))) .nil)
def f12 : Fn := ⟨"is_between", ["value", "low", "high"], ["value", "low", "high"], m12, ⟨false, false, false, false, false⟩⟩
def d12 : Df := ⟨.fn "is_between", "is_between", "is_between", defArgs (top 8), defBody (top 8), defScope (top 8), [], f12⟩
/-- is_number -/
def m13 : MSs := (.cons (.ifs (.or (.not (.val (.bi .isinstance (.cons (.var 0) (.cons (.c (.ty .tuple)) .nil))))) (.val (.cmp .NotEq (.bi .len (.cons (.var 0) .nil)) (.c (.int 2))))) (.cons (.ret (.c (.bl false))) .nil) .nil) (.cons (.ifs (.or (.not (.val (.call 11 3 0 (.cons (.ix (.var 0) (.c (.int 0))) (.cons (.neg (.c (.int 1000000000000000000000000000000))) (.cons (.c (.int 1000000000000000000000000000000)) .nil))) .nil))) (.or (.val (.cmp .Eq (.ix (.var 0) (.c (.int 0))) (.c (.int 0)))) (.not (.val (.call 11 3 0 (.cons (.ix (.var 0) (.c (.int 1))) (.cons (.c (.int 1)) (.cons (.c (.int 1000000000000000000000000000000)) .nil))) .nil))))) (.cons (.ret (.c (.bl false))) .nil) .nil) (.cons (.ret (.cmp .Eq (.call 10 2 0 (.cons (.bi .abs (.cons (.ix (.var 0) (.c (.int 0))) .nil)) (.cons (.ix (.var 0) (.c (.int 1))) .nil)) .nil) (.c (.int 1)))) .nil)))
def f13 : Fn := ⟨"is_number", ["value"], ["value"], m13, ⟨false, false, false, false, false⟩⟩
def d13 : Df := ⟨.fn "is_number", "is_number", "is_number", defArgs (top 15), defBody (top 15), defScope (top 15), [], f13⟩
/-- check_number -/
def m14 : MSs := (.cons (.ifs (.not (.val (.call 12 1 0 (.cons (.var 0) .nil) .nil))) (.cons .never .nil) .nil) .nil)
def f14 : Fn := ⟨"check_number", ["value"], ["value"], m14, ⟨false, false, false, false, false⟩⟩
def d14 : Df := ⟨.fn "check_number", "check_number", "check_number", defArgs (top 16), defBody (top 16), defScope (top 16), [], f14⟩
/-- check_degree -/
def m15 : MSs := (.cons (.ifs (.not (.val (.call 11 3 0 (.cons (.var 0) (.cons (.var 2) (.cons (.var 1) .nil))) .nil))) (.cons .never .nil) .nil) .nil)
def f15 : Fn := ⟨"check_degree", ["value", "most", "least"], ["value", "most", "least"], m15, ⟨false, false, false, false, false⟩⟩
def d15 : Df := ⟨.fn "check_degree", "check_degree", "check_degree", defArgs (top 17), defBody (top 17), defScope (top 17), [(.int 1000000000000000000000000000000), (.int 1)], f15⟩
/-- lowest -/
def m16 : MSs := (.cons (.set 2 (.call 10 2 0 (.cons (.bi .abs (.cons (.var 0) .nil)) (.cons (.var 1) .nil)) .nil)) (.cons (.ret (.tup (.cons (.bin .FloorDiv (.var 0) (.var 2)) (.cons (.bin .FloorDiv (.var 1) (.var 2)) .nil)))) .nil))
def f16 : Fn := ⟨"lowest", ["top", "bottom", "common"], ["top", "bottom"], m16, ⟨false, false, false, false, false⟩⟩
def d16 : Df := ⟨.fn "lowest", "lowest", "lowest", defArgs (top 18), defBody (top 18), defScope (top 18), [], f16⟩
/-- times_integer -/
def m17 : MSs := (.cons (.ret (.call 13 2 0 (.cons (.bin .Mult (.ix (.var 0) (.c (.int 0))) (.var 1)) (.cons (.ix (.var 0) (.c (.int 1))) .nil)) .nil)) .nil)
def f17 : Fn := ⟨"times_integer", ["number", "times"], ["number", "times"], m17, ⟨false, false, false, false, false⟩⟩
def d17 : Df := ⟨.fn "times_integer", "times_integer", "times_integer", defArgs (top 23), defBody (top 23), defScope (top 23), [], f17⟩
/-- multiplied -/
def m18 : MSs := (.cons (.expr (.call 14 1 0 (.cons (.var 0) .nil) .nil)) (.cons (.expr (.call 15 1 0 (.cons (.var 1) .nil) .nil)) (.cons (.set 2 (.call 16 2 0 (.cons (.var 0) (.cons (.var 1) .nil)) .nil)) (.cons (.ifs (.val (.cmp .Gt (.bi .abs (.cons (.ix (.var 2) (.c (.int 0))) .nil)) (.c (.int 1000000000000000000000000000000)))) (.cons (.rais 0 (.cons (.ix (.var 2) (.c (.int 0))) .nil)) .nil) .nil) (.cons (.retv 2) .nil)))))
def f18 : Fn := ⟨"multiplied", ["number", "times", "found"], ["number", "times"], m18, ⟨false, true, false, false, false⟩⟩
def d18 : Df := ⟨.fn "multiplied", "multiplied", "multiplied", defArgs (top 24), defBody (top 24), defScope (top 24), [], f18⟩
/-- power_of -/
def m19 : MSs := (.cons (.set 2 (.c (.int 1))) (.cons (.forr (.range1 (.cons (.var 1) .nil)) (.name 3) (.cons (.set 2 (.bin .Mult (.var 2) (.var 0))) .nil)) (.cons (.retv 2) .nil)))
def f19 : Fn := ⟨"power_of", ["base", "many", "found", "turn"], ["base", "many"], m19, ⟨false, false, false, false, false⟩⟩
def d19 : Df := ⟨.fn "power_of", "power_of", "power_of", defArgs (top 9), defBody (top 9), defScope (top 9), [], f19⟩
/-- floor_root -/
def m20 : MSs := (.cons (.asg (.tup (.cons (.c (.int 0)) (.cons (.c (.int 1)) .nil))) (.tup 2 (.cons (.name 2) (.cons (.name 3) .nil)))) (.cons (.whil (.val (.cmp .LtE (.call 17 2 0 (.cons (.var 3) (.cons (.var 1) .nil)) .nil) (.var 0))) (.cons (.par [2, 3] (.cons (.var 3) (.cons (.bin .Mult (.c (.int 2)) (.var 3)) .nil))) .nil)) (.cons (.whil (.val (.cmp .Gt (.bin .Sub (.var 3) (.var 2)) (.c (.int 1)))) (.cons (.set 4 (.bin .FloorDiv (.bin .Add (.var 2) (.var 3)) (.c (.int 2)))) (.cons (.ifs (.val (.cmp .LtE (.call 17 2 0 (.cons (.var 4) (.cons (.var 1) .nil)) .nil) (.var 0))) (.cons (.set 2 (.var 4)) .nil) (.cons (.set 3 (.var 4)) .nil)) .nil))) (.cons (.retv 2) .nil))))
def f20 : Fn := ⟨"floor_root", ["value", "power", "low", "high", "middle"], ["value", "power"], m20, ⟨false, false, false, false, false⟩⟩
def d20 : Df := ⟨.fn "floor_root", "floor_root", "floor_root", defArgs (top 11), defBody (top 11), defScope (top 11), [], f20⟩
/-- is_power -/
def m21 : MSs := (.cons (.ret (.cmp .Eq (.call 17 2 0 (.cons (.call 18 2 0 (.cons (.var 0) (.cons (.var 1) .nil)) .nil) (.cons (.var 1) .nil)) .nil) (.var 0))) .nil)
def f21 : Fn := ⟨"is_power", ["value", "power"], ["value", "power"], m21, ⟨false, false, false, false, false⟩⟩
def d21 : Df := ⟨.fn "is_power", "is_power", "is_power", defArgs (top 12), defBody (top 12), defScope (top 12), [], f21⟩
/-- whole_root -/
def m22 : MSs := (.cons (.asg (.tup (.cons (.c (.int 0)) (.cons (.c (.int 1)) .nil))) (.tup 2 (.cons (.name 2) (.cons (.name 3) .nil)))) (.cons (.whil (.val (.cmp .Lt (.call 17 2 0 (.cons (.var 3) (.cons (.var 1) .nil)) .nil) (.var 0))) (.cons (.set 3 (.bin .Mult (.c (.int 2)) (.var 3))) .nil)) (.cons (.whil (.val (.cmp .Lt (.var 2) (.var 3))) (.cons (.set 4 (.bin .FloorDiv (.bin .Add (.var 2) (.var 3)) (.c (.int 2)))) (.cons (.ifs (.val (.cmp .Lt (.call 17 2 0 (.cons (.var 4) (.cons (.var 1) .nil)) .nil) (.var 0))) (.cons (.set 2 (.bin .Add (.var 4) (.c (.int 1)))) .nil) (.cons (.set 3 (.var 4)) .nil)) .nil))) (.cons (.retv 2) .nil))))
def f22 : Fn := ⟨"whole_root", ["value", "power", "low", "high", "middle"], ["value", "power"], m22, ⟨false, false, false, false, false⟩⟩
def d22 : Df := ⟨.fn "whole_root", "whole_root", "whole_root", defArgs (top 19), defBody (top 19), defScope (top 19), [], f22⟩
/-- base_and_exponent -/
def m23 : MSs := (.cons (.ifs (.and (.val (.cmp .Eq (.var 0) (.c (.int 1)))) (.val (.cmp .Eq (.var 1) (.c (.int 1))))) (.cons (.ret (.tup (.cons (.tup (.cons (.c (.int 1)) (.cons (.c (.int 1)) .nil))) (.cons (.c (.int 0)) .nil)))) .nil) .nil) (.cons (.asg (.tup (.cons (.c (.int 1)) (.cons (.c (.int 4)) .nil))) (.tup 2 (.cons (.name 2) (.cons (.name 3) .nil)))) (.cons (.whil (.val (.cmp .LtE (.var 3) (.bi .max (.cons (.var 0) (.cons (.var 1) .nil))))) (.cons (.par [2, 3] (.cons (.bin .Add (.var 2) (.c (.int 1))) (.cons (.bin .Mult (.c (.int 2)) (.var 3)) .nil))) .nil)) (.cons (.whil (.or (.not (.val (.call 19 2 0 (.cons (.var 0) (.cons (.var 2) .nil)) .nil))) (.not (.val (.call 19 2 0 (.cons (.var 1) (.cons (.var 2) .nil)) .nil)))) (.cons (.dec 2 (.c (.int 1))) .nil)) (.cons (.ret (.tup (.cons (.tup (.cons (.call 20 2 0 (.cons (.var 0) (.cons (.var 2) .nil)) .nil) (.cons (.call 20 2 0 (.cons (.var 1) (.cons (.var 2) .nil)) .nil) .nil))) (.cons (.var 2) .nil)))) .nil)))))
def f23 : Fn := ⟨"base_and_exponent", ["top", "bottom", "power", "bound"], ["top", "bottom"], m23, ⟨false, false, false, false, false⟩⟩
def d23 : Df := ⟨.fn "base_and_exponent", "base_and_exponent", "base_and_exponent", defArgs (top 20), defBody (top 20), defScope (top 20), [], f23⟩
/-- base_for -/
def m24 : MSs := (.cons (.ret (.call 21 2 0 (.cons (.bi .abs (.cons (.ix (.var 0) (.c (.int 0))) .nil)) (.cons (.ix (.var 0) (.c (.int 1))) .nil)) .nil)) .nil)
def f24 : Fn := ⟨"base_for", ["number"], ["number"], m24, ⟨false, false, false, false, false⟩⟩
def d24 : Df := ⟨.fn "base_for", "base_for", "base_for", defArgs (top 21), defBody (top 21), defScope (top 21), [], f24⟩
/-- base_of -/
def m25 : MSs := (.cons (.expr (.call 14 1 0 (.cons (.var 0) .nil) .nil)) (.cons (.ret (.call 22 1 0 (.cons (.var 0) .nil) .nil)) .nil))
def f25 : Fn := ⟨"base_of", ["number"], ["number"], m25, ⟨false, false, false, false, false⟩⟩
def d25 : Df := ⟨.fn "base_of", "base_of", "base_of", defArgs (top 22), defBody (top 22), defScope (top 22), [], f25⟩
/-- _law_right -/
def m26 : MSs := (.cons (.forr (.range1 (.cons (.c (.int 6)) .nil)) (.name 1) (.cons (.par [2, 3] (.cons (.call 23 1 0 (.cons (.var 0) .nil) .nil) (.cons (.call 6 1 0 (.cons (.var 0) .nil) .nil) .nil))) (.cons (.ifs (.val (.cmp .Eq (.call 1 2 0 (.cons (.var 0) (.cons (.c (.int 3)) .nil)) .nil) (.c (.int 0)))) (.cons (.set 3 (.ix (.var 2) (.c (.int 1)))) .nil) .nil) (.cons (.set 4 (.call 4 2 0 (.cons (.bin .Mult (.ix (.var 2) (.c (.int 0))) (.var 3)) (.cons (.ix (.var 2) (.c (.int 1))) .nil)) .nil)) (.cons (.set 5 (.ite (.val (.cmp .Gt (.bi .abs (.cons (.ix (.var 4) (.c (.int 0))) .nil)) (.bin .Pow (.c (.int 10)) (.c (.int 30))))) (.lst (.cons (.c (.str "great")) (.cons (.bi .repr (.cons (.ix (.var 4) (.c (.int 0))) .nil)) .nil))) (.lst (.cons (.c (.str "told")) (.cons (.bi .repr (.cons (.var 4) .nil)) .nil))))) (.cons (.set 6 (.lst (.cons (.tells "great" [0] true "told" (.call 24 2 0 (.cons (.var 2) (.cons (.var 3) .nil)) .nil)) .nil))) (.cons (.app 6 (.tells "great" [0] true "told" (.call 26 0 2 .nil (.cons (.var 3) (.cons (.var 2) .nil))))) (.cons (.ifs (.or (.val (.cmp .NotEq (.var 6) (.lst (.cons (.var 5) (.cons (.var 5) .nil))))) (.val (.cmp .NotEq (.call 25 1 0 (.cons (.tup (.cons (.neg (.ix (.var 2) (.c (.int 0)))) (.cons (.ix (.var 2) (.c (.int 1))) .nil))) .nil) .nil) (.call 25 1 0 (.cons (.var 2) .nil) .nil)))) (.cons (.ret (.c (.bl false))) .nil) .nil) (.cons (.ifs (.val (.cmp .NotEq (.call 24 2 0 (.cons (.var 2) (.cons (.c (.int 1)) .nil)) .nil) (.var 2))) (.cons (.ret (.c (.bl false))) .nil) .nil) .nil))))))))) (.cons (.ret (.c (.bl true))) .nil))
def f26 : Fn := ⟨"_law_right", ["_law_jar_here", "_law_turn", "_law_number_here", "_law_times", "_law_found", "_law_due", "_law_told"], ["_law_jar_here"], m26, ⟨false, false, true, false, false⟩⟩
def d26 : Df := ⟨.fn "_law_right", "_law_right", "_law_right", defArgs (top 38), defBody (top 38), defScope (top 38), [], f26⟩
/-- _law_jar -/
def m27 : MSs := (.cons (.set 2 (.ite (.val (.cmp .Lt (.var 1) (.bi .len (.cons (.var 0) .nil)))) (.ix (.var 0) (.var 1)) (.bin .Add (.bin .Mult (.c (.int 41)) (.var 1)) (.c (.int 7))))) (.cons (.set 3 (.bin .Add (.c (.int 60101)) (.bin .Mult (.c (.int 7919)) (.var 1)))) (.cons (.forr (.any (.bin .Add (.sl (.var 0) .none (.some (.c (.int 5)))) (.lst (.cons (.var 2) .nil)))) (.name 4) (.cons (.set 3 (.bin .Mod (.bi .int (.cons (.bin .Add (.bin .Mult (.var 3) (.c (.int 22031))) (.var 4)) .nil)) (.c (.int 2147482661)))) .nil)) (.cons (.ret (.lst (.cons (.ite (.or (.val (.cmp .Lt (.var 2) (.c (.int 0)))) (.val (.cmp .GtE (.var 2) (.bin .Pow (.c (.int 10)) (.c (.int 18)))))) (.bi .abs (.cons (.var 2) .nil)) (.c (.int 0))) (.cons (.var 3) (.cons (.c (.int 0)) .nil))))) .nil))))
def f27 : Fn := ⟨"_law_jar", ["_law_cells", "_law_turn", "_law_cell", "_law_mixed", "_law_each"], ["_law_cells", "_law_turn"], m27, ⟨false, false, false, false, false⟩⟩
def d27 : Df := ⟨.fn "_law_jar", "_law_jar", "_law_jar", defArgs (top 36), defBody (top 36), defScope (top 36), [], f27⟩
/-- law -/
def m28 : MSs := (.cons (.ret (.bi .all (.cons (.lc (.range1 (.cons (.bi .max (.cons (.c (.int 2)) (.cons (.bi .min (.cons (.bi .len (.cons (.var 0) .nil)) (.cons (.c (.int 6)) .nil))) .nil))) .nil)) (.one 1) .yes (.call 27 1 0 (.cons (.box (.call 28 2 0 (.cons (.var 0) (.cons (.var 1) .nil)) .nil)) .nil) .nil) [1]) .nil))) .nil)
def f28 : Fn := ⟨"law", ["_law_cells", "_law_turn"], ["_law_cells"], m28, ⟨false, false, false, false, false⟩⟩
def d28 : Df := ⟨.fn "law", "law", "law", defArgs (top 39), defBody (top 39), defScope (top 39), [], f28⟩
def p0 : Pl := ⟨0, ⟨"_law_gcd", 2, [], [false, false], .fn⟩, [], [.arg 0, .arg 1]⟩
def p1 : Pl := ⟨2, ⟨"_law_dip", 2, [], [false, false], .fn⟩, [], [.arg 0, .arg 1]⟩
def p2 : Pl := ⟨4, ⟨"_law_power", 2, [], [false, false], .fn⟩, [], [.arg 0, .arg 1]⟩
def p3 : Pl := ⟨3, ⟨"_law_one_of", 2, [], [false, false], .fn⟩, [], [.arg 0, .arg 1]⟩
def p4 : Pl := ⟨1, ⟨"_law_pair", 2, [], [false, false], .fn⟩, [], [.arg 0, .arg 1]⟩
def p5 : Pl := ⟨5, ⟨"_law_raised", 2, [], [false, false], .fn⟩, [], [.arg 0, .arg 1]⟩
def p6 : Pl := ⟨6, ⟨"_law_great", 1, [], [false], .fn⟩, [], [.arg 0]⟩
def p7 : Pl := ⟨7, ⟨"_law_plain", 1, [], [false], .fn⟩, [], [.arg 0]⟩
def p8 : Pl := ⟨8, ⟨"_law_number", 1, [], [false], .fn⟩, [], [.arg 0]⟩
def p9 : Pl := ⟨11, ⟨"is_integer", 1, [], [false], .fn⟩, [], [.arg 0]⟩
def p10 : Pl := ⟨10, ⟨"common_divisor", 2, [], [false, false], .fn⟩, [], [.arg 0, .arg 1]⟩
def p11 : Pl := ⟨12, ⟨"is_between", 3, [], [false, false, false], .fn⟩, [], [.arg 0, .arg 1, .arg 2]⟩
def p12 : Pl := ⟨13, ⟨"is_number", 1, [], [false], .fn⟩, [], [.arg 0]⟩
def p13 : Pl := ⟨16, ⟨"lowest", 2, [], [false, false], .fn⟩, [], [.arg 0, .arg 1]⟩
def p14 : Pl := ⟨14, ⟨"check_number", 1, [], [false], .fn⟩, [], [.arg 0]⟩
def p15 : Pl := ⟨15, ⟨"check_degree", 1, [], [false], .fn⟩, [(.int 1000000000000000000000000000000), (.int 1)], [.arg 0, .dfl 0, .dfl 1]⟩
def p16 : Pl := ⟨17, ⟨"times_integer", 2, [], [false, false], .fn⟩, [], [.arg 0, .arg 1]⟩
def p17 : Pl := ⟨19, ⟨"power_of", 2, [], [false, false], .fn⟩, [], [.arg 0, .arg 1]⟩
def p18 : Pl := ⟨20, ⟨"floor_root", 2, [], [false, false], .fn⟩, [], [.arg 0, .arg 1]⟩
def p19 : Pl := ⟨21, ⟨"is_power", 2, [], [false, false], .fn⟩, [], [.arg 0, .arg 1]⟩
def p20 : Pl := ⟨22, ⟨"whole_root", 2, [], [false, false], .fn⟩, [], [.arg 0, .arg 1]⟩
def p21 : Pl := ⟨23, ⟨"base_and_exponent", 2, [], [false, false], .fn⟩, [], [.arg 0, .arg 1]⟩
def p22 : Pl := ⟨24, ⟨"base_for", 1, [], [false], .fn⟩, [], [.arg 0]⟩
def p23 : Pl := ⟨9, ⟨"_law_kept", 1, [], [false], .fn⟩, [], [.arg 0]⟩
def p24 : Pl := ⟨18, ⟨"multiplied", 2, [], [false, false], .fn⟩, [], [.arg 0, .arg 1]⟩
def p25 : Pl := ⟨25, ⟨"base_of", 1, [], [false], .fn⟩, [], [.arg 0]⟩
def p26 : Pl := ⟨18, ⟨"multiplied", 0, ["times", "number"], [], .fn⟩, [], [.arg 1, .arg 0]⟩
def p27 : Pl := ⟨26, ⟨"_law_right", 1, [], [true], .fn⟩, [], [.arg 0]⟩
def p28 : Pl := ⟨27, ⟨"_law_jar", 2, [], [false, false], .fn⟩, [], [.arg 0, .arg 1]⟩
def p29 : Pl := ⟨28, ⟨"law", 1, [], [false], .fn⟩, [], [.arg 0]⟩
def xcs : List Xc := [⟨"TooGreat", (some "given"), .ae, ["TooGreat"]⟩]
def xns : List Str := ["TooGreat"]
def tls : List Tl := [⟨"_law_heard", 0, true, "told", "_law_act", "_law_found", "e", "repr", ["TooGreat"], (some ("great", "given"))⟩]
def tb : Tb := ⟨[f0, f1, f2, f3, f4, f5, f6, f7, f8, f9, f10, f11, f12, f13, f14, f15, f16, f17, f18, f19, f20, f21, f22, f23, f24, f25, f26, f27, f28], [p0, p1, p2, p3, p4, p5, p6, p7, p8, p9, p10, p11, p12, p13, p14, p15, p16, p17, p18, p19, p20, p21, p22, p23, p24, p25, p26, p27, p28, p29], gl, cls, xcs, xns, tls⟩
def x0 : Df := ⟨.init "TooGreat", "__init__", "TooGreat.__init__", defArgs (sub 5 0), defBody (sub 5 0), defScope (sub 5 0), [], ⟨"__init__", [], [], .nil, {}⟩⟩
def x1 : Df := ⟨.fn "_law_heard", "_law_heard", "_law_heard", defArgs (top 37), defBody (top 37), defScope (top 37), [], ⟨"_law_heard", [], [], .nil, {}⟩⟩
def xs : List Df := [x0, x1]
def dfs : List Df := [d0, d1, d2, d3, d4, d5, d6, d7, d8, d9, d10, d11, d12, d13, d14, d15, d16, d17, d18, d19, d20, d21, d22, d23, d24, d25, d26, d27, d28]
theorem ok0 : DfOk tb d0 := ⟨by kernel_rfl, by kernel_rfl, 60, by kernel_rfl⟩
theorem ok1 : DfOk tb d1 := ⟨by kernel_rfl, by kernel_rfl, 60, by kernel_rfl⟩
theorem ok2 : DfOk tb d2 := ⟨by kernel_rfl, by kernel_rfl, 60, by kernel_rfl⟩
theorem ok3 : DfOk tb d3 := ⟨by kernel_rfl, by kernel_rfl, 60, by kernel_rfl⟩
theorem ok4 : DfOk tb d4 := ⟨by kernel_rfl, by kernel_rfl, 60, by kernel_rfl⟩
theorem ok5 : DfOk tb d5 := ⟨by kernel_rfl, by kernel_rfl, 60, by kernel_rfl⟩
theorem ok6 : DfOk tb d6 := ⟨by kernel_rfl, by kernel_rfl, 60, by kernel_rfl⟩
theorem ok7 : DfOk tb d7 := ⟨by kernel_rfl, by kernel_rfl, 60, by kernel_rfl⟩
theorem ok8 : DfOk tb d8 := ⟨by kernel_rfl, by kernel_rfl, 60, by kernel_rfl⟩
theorem ok9 : DfOk tb d9 := ⟨by kernel_rfl, by kernel_rfl, 60, by kernel_rfl⟩
theorem ok10 : DfOk tb d10 := ⟨by kernel_rfl, by kernel_rfl, 60, by kernel_rfl⟩
theorem ok11 : DfOk tb d11 := ⟨by kernel_rfl, by kernel_rfl, 60, by kernel_rfl⟩
theorem ok12 : DfOk tb d12 := ⟨by kernel_rfl, by kernel_rfl, 60, by kernel_rfl⟩
theorem ok13 : DfOk tb d13 := ⟨by kernel_rfl, by kernel_rfl, 60, by kernel_rfl⟩
theorem ok14 : DfOk tb d14 := ⟨by kernel_rfl, by kernel_rfl, 60, by kernel_rfl⟩
theorem ok15 : DfOk tb d15 := ⟨by kernel_rfl, by kernel_rfl, 60, by kernel_rfl⟩
theorem ok16 : DfOk tb d16 := ⟨by kernel_rfl, by kernel_rfl, 60, by kernel_rfl⟩
theorem ok17 : DfOk tb d17 := ⟨by kernel_rfl, by kernel_rfl, 60, by kernel_rfl⟩
theorem ok18 : DfOk tb d18 := ⟨by kernel_rfl, by kernel_rfl, 60, by kernel_rfl⟩
theorem ok19 : DfOk tb d19 := ⟨by kernel_rfl, by kernel_rfl, 60, by kernel_rfl⟩
theorem ok20 : DfOk tb d20 := ⟨by kernel_rfl, by kernel_rfl, 60, by kernel_rfl⟩
theorem ok21 : DfOk tb d21 := ⟨by kernel_rfl, by kernel_rfl, 60, by kernel_rfl⟩
theorem ok22 : DfOk tb d22 := ⟨by kernel_rfl, by kernel_rfl, 60, by kernel_rfl⟩
theorem ok23 : DfOk tb d23 := ⟨by kernel_rfl, by kernel_rfl, 60, by kernel_rfl⟩
theorem ok24 : DfOk tb d24 := ⟨by kernel_rfl, by kernel_rfl, 60, by kernel_rfl⟩
theorem ok25 : DfOk tb d25 := ⟨by kernel_rfl, by kernel_rfl, 60, by kernel_rfl⟩
theorem ok26 : DfOk tb d26 := ⟨by kernel_rfl, by kernel_rfl, 60, by kernel_rfl⟩
theorem ok27 : DfOk tb d27 := ⟨by kernel_rfl, by kernel_rfl, 60, by kernel_rfl⟩
theorem ok28 : DfOk tb d28 := ⟨by kernel_rfl, by kernel_rfl, 60, by kernel_rfl⟩
theorem po0 : PlOk tb dfs p0 := ⟨d0, rfl, rfl, rfl, rfl, rfl, fun kV doc pm an cdv ct us ws h1 h2 => (match us, ws, h1, h2 with
  | [u0, u1], [], _, _ => ⟨_, rfl, rfl⟩), rfl, fun z => nomatch z⟩
theorem po1 : PlOk tb dfs p1 := ⟨d2, rfl, rfl, rfl, rfl, rfl, fun kV doc pm an cdv ct us ws h1 h2 => (match us, ws, h1, h2 with
  | [u0, u1], [], _, _ => ⟨_, rfl, rfl⟩), rfl, fun z => nomatch z⟩
theorem po2 : PlOk tb dfs p2 := ⟨d4, rfl, rfl, rfl, rfl, rfl, fun kV doc pm an cdv ct us ws h1 h2 => (match us, ws, h1, h2 with
  | [u0, u1], [], _, _ => ⟨_, rfl, rfl⟩), rfl, fun z => nomatch z⟩
theorem po3 : PlOk tb dfs p3 := ⟨d3, rfl, rfl, rfl, rfl, rfl, fun kV doc pm an cdv ct us ws h1 h2 => (match us, ws, h1, h2 with
  | [u0, u1], [], _, _ => ⟨_, rfl, rfl⟩), rfl, fun z => nomatch z⟩
theorem po4 : PlOk tb dfs p4 := ⟨d1, rfl, rfl, rfl, rfl, rfl, fun kV doc pm an cdv ct us ws h1 h2 => (match us, ws, h1, h2 with
  | [u0, u1], [], _, _ => ⟨_, rfl, rfl⟩), rfl, fun z => nomatch z⟩
theorem po5 : PlOk tb dfs p5 := ⟨d5, rfl, rfl, rfl, rfl, rfl, fun kV doc pm an cdv ct us ws h1 h2 => (match us, ws, h1, h2 with
  | [u0, u1], [], _, _ => ⟨_, rfl, rfl⟩), rfl, fun z => nomatch z⟩
theorem po6 : PlOk tb dfs p6 := ⟨d6, rfl, rfl, rfl, rfl, rfl, fun kV doc pm an cdv ct us ws h1 h2 => (match us, ws, h1, h2 with
  | [u0], [], _, _ => ⟨_, rfl, rfl⟩), rfl, fun z => nomatch z⟩
theorem po7 : PlOk tb dfs p7 := ⟨d7, rfl, rfl, rfl, rfl, rfl, fun kV doc pm an cdv ct us ws h1 h2 => (match us, ws, h1, h2 with
  | [u0], [], _, _ => ⟨_, rfl, rfl⟩), rfl, fun z => nomatch z⟩
theorem po8 : PlOk tb dfs p8 := ⟨d8, rfl, rfl, rfl, rfl, rfl, fun kV doc pm an cdv ct us ws h1 h2 => (match us, ws, h1, h2 with
  | [u0], [], _, _ => ⟨_, rfl, rfl⟩), rfl, fun z => nomatch z⟩
theorem po9 : PlOk tb dfs p9 := ⟨d11, rfl, rfl, rfl, rfl, rfl, fun kV doc pm an cdv ct us ws h1 h2 => (match us, ws, h1, h2 with
  | [u0], [], _, _ => ⟨_, rfl, rfl⟩), rfl, fun z => nomatch z⟩
theorem po10 : PlOk tb dfs p10 := ⟨d10, rfl, rfl, rfl, rfl, rfl, fun kV doc pm an cdv ct us ws h1 h2 => (match us, ws, h1, h2 with
  | [u0, u1], [], _, _ => ⟨_, rfl, rfl⟩), rfl, fun z => nomatch z⟩
theorem po11 : PlOk tb dfs p11 := ⟨d12, rfl, rfl, rfl, rfl, rfl, fun kV doc pm an cdv ct us ws h1 h2 => (match us, ws, h1, h2 with
  | [u0, u1, u2], [], _, _ => ⟨_, rfl, rfl⟩), rfl, fun z => nomatch z⟩
theorem po12 : PlOk tb dfs p12 := ⟨d13, rfl, rfl, rfl, rfl, rfl, fun kV doc pm an cdv ct us ws h1 h2 => (match us, ws, h1, h2 with
  | [u0], [], _, _ => ⟨_, rfl, rfl⟩), rfl, fun z => nomatch z⟩
theorem po13 : PlOk tb dfs p13 := ⟨d16, rfl, rfl, rfl, rfl, rfl, fun kV doc pm an cdv ct us ws h1 h2 => (match us, ws, h1, h2 with
  | [u0, u1], [], _, _ => ⟨_, rfl, rfl⟩), rfl, fun z => nomatch z⟩
theorem po14 : PlOk tb dfs p14 := ⟨d14, rfl, rfl, rfl, rfl, rfl, fun kV doc pm an cdv ct us ws h1 h2 => (match us, ws, h1, h2 with
  | [u0], [], _, _ => ⟨_, rfl, rfl⟩), rfl, fun z => nomatch z⟩
theorem po15 : PlOk tb dfs p15 := ⟨d15, rfl, rfl, rfl, rfl, rfl, fun Ta kV doc pm an cdv ct its us ws h0 h1 h2 => (match its, us, ws, h0, h1, h2 with
  | [i0, i1], [u0], [], _, _, _ => ⟨_, _, rfl, rfl, rfl⟩), rfl, fun z => nomatch z⟩
theorem po16 : PlOk tb dfs p16 := ⟨d17, rfl, rfl, rfl, rfl, rfl, fun kV doc pm an cdv ct us ws h1 h2 => (match us, ws, h1, h2 with
  | [u0, u1], [], _, _ => ⟨_, rfl, rfl⟩), rfl, fun z => nomatch z⟩
theorem po17 : PlOk tb dfs p17 := ⟨d19, rfl, rfl, rfl, rfl, rfl, fun kV doc pm an cdv ct us ws h1 h2 => (match us, ws, h1, h2 with
  | [u0, u1], [], _, _ => ⟨_, rfl, rfl⟩), rfl, fun z => nomatch z⟩
theorem po18 : PlOk tb dfs p18 := ⟨d20, rfl, rfl, rfl, rfl, rfl, fun kV doc pm an cdv ct us ws h1 h2 => (match us, ws, h1, h2 with
  | [u0, u1], [], _, _ => ⟨_, rfl, rfl⟩), rfl, fun z => nomatch z⟩
theorem po19 : PlOk tb dfs p19 := ⟨d21, rfl, rfl, rfl, rfl, rfl, fun kV doc pm an cdv ct us ws h1 h2 => (match us, ws, h1, h2 with
  | [u0, u1], [], _, _ => ⟨_, rfl, rfl⟩), rfl, fun z => nomatch z⟩
theorem po20 : PlOk tb dfs p20 := ⟨d22, rfl, rfl, rfl, rfl, rfl, fun kV doc pm an cdv ct us ws h1 h2 => (match us, ws, h1, h2 with
  | [u0, u1], [], _, _ => ⟨_, rfl, rfl⟩), rfl, fun z => nomatch z⟩
theorem po21 : PlOk tb dfs p21 := ⟨d23, rfl, rfl, rfl, rfl, rfl, fun kV doc pm an cdv ct us ws h1 h2 => (match us, ws, h1, h2 with
  | [u0, u1], [], _, _ => ⟨_, rfl, rfl⟩), rfl, fun z => nomatch z⟩
theorem po22 : PlOk tb dfs p22 := ⟨d24, rfl, rfl, rfl, rfl, rfl, fun kV doc pm an cdv ct us ws h1 h2 => (match us, ws, h1, h2 with
  | [u0], [], _, _ => ⟨_, rfl, rfl⟩), rfl, fun z => nomatch z⟩
theorem po23 : PlOk tb dfs p23 := ⟨d9, rfl, rfl, rfl, rfl, rfl, fun kV doc pm an cdv ct us ws h1 h2 => (match us, ws, h1, h2 with
  | [u0], [], _, _ => ⟨_, rfl, rfl⟩), rfl, fun z => nomatch z⟩
theorem po24 : PlOk tb dfs p24 := ⟨d18, rfl, rfl, rfl, rfl, rfl, fun kV doc pm an cdv ct us ws h1 h2 => (match us, ws, h1, h2 with
  | [u0, u1], [], _, _ => ⟨_, rfl, rfl⟩), rfl, fun z => nomatch z⟩
theorem po25 : PlOk tb dfs p25 := ⟨d25, rfl, rfl, rfl, rfl, rfl, fun kV doc pm an cdv ct us ws h1 h2 => (match us, ws, h1, h2 with
  | [u0], [], _, _ => ⟨_, rfl, rfl⟩), rfl, fun z => nomatch z⟩
theorem po26 : PlOk tb dfs p26 := ⟨d18, rfl, rfl, rfl, rfl, rfl, fun kV doc pm an cdv ct us ws h1 h2 => (match us, ws, h1, h2 with
  | [], [w0, w1], _, _ => ⟨_, rfl, rfl⟩), rfl, fun z => nomatch z⟩
theorem po27 : PlOk tb dfs p27 := ⟨d26, rfl, rfl, rfl, rfl, rfl, fun kV doc pm an cdv ct us ws h1 h2 => (match us, ws, h1, h2 with
  | [u0], [], _, _ => ⟨_, rfl, rfl⟩), rfl, fun z => nomatch z⟩
theorem po28 : PlOk tb dfs p28 := ⟨d27, rfl, rfl, rfl, rfl, rfl, fun kV doc pm an cdv ct us ws h1 h2 => (match us, ws, h1, h2 with
  | [u0, u1], [], _, _ => ⟨_, rfl, rfl⟩), rfl, fun z => nomatch z⟩
theorem po29 : PlOk tb dfs p29 := ⟨d28, rfl, rfl, rfl, rfl, rfl, fun kV doc pm an cdv ct us ws h1 h2 => (match us, ws, h1, h2 with
  | [u0], [], _, _ => ⟨_, rfl, rfl⟩), rfl, fun z => nomatch z⟩
theorem xo0 : XcOk (dfs ++ xs) ⟨"TooGreat", (some "given"), .ae, ["TooGreat"]⟩ := fun f h => by
  cases h
  exact ⟨29, x0, "self", "given", _, _, _, _, rfl, rfl, rfl, rfl, by kernel_rfl, by kernel_rfl, fun kV doc pm an cdv ct us h => match us, h with
    | [u0, u1], _ => rfl⟩
theorem to0 : TlOk tb (dfs ++ xs) (tls.getD 0 ⟨"", 0, false, "", "", "", "", "", [], none⟩) := ⟨30, x1, _, _, _, _, _, _, _, _, _, _, _, _, _, _, _, _, _, _, _, _, _, _, rfl, rfl, rfl, rfl, rfl, rfl, rfl, (fun kV doc pm an cdv ct us h => match us, h with
    | [u0], _ => rfl), by kernel_rfl⟩
theorem tbOk {h : Heap} {mg : Str → Option Value} {K : PySem.W.Frag} (X : K.In h) (G : h.Ns mainGlobals mg) (c : SaysQ tb dfs xs K) : TbOk mg (bgOf tb dfs K c.dig) tb (csOf dfs K) :=
  tb_of X G c ⟨ok0, ok1, ok2, ok3, ok4, ok5, ok6, ok7, ok8, ok9, ok10, ok11, ok12, ok13, ok14, ok15, ok16, ok17, ok18, ok19, ok20, ok21, ok22, ok23, ok24, ok25, ok26, ok27, ok28, trivial⟩ ⟨po0, po1, po2, po3, po4, po5, po6, po7, po8, po9, po10, po11, po12, po13, po14, po15, po16, po17, po18, po19, po20, po21, po22, po23, po24, po25, po26, po27, po28, po29, trivial⟩ ⟨xo0, trivial⟩ ⟨to0, trivial⟩
abbrev R : PySem.W.OpenRow := PySem.W.OpenLaw.row PySem.Challenge.rw_purepowers_k05_whole_products_with_integ
abbrev qv : Program := PySem.W.view R.prog [39]
def loose : List Str := (["__name__", "WrongValue", "InvalidNumber", "InvalidDegree", "NoAnswer", "TooGreat", "is_integer", "is_between", "power_of", "common_divisor", "floor_root", "is_power", "MOST_SIZE", "is_number", "check_number", "check_degree", "lowest", "whole_root", "base_and_exponent", "base_for", "base_of", "times_integer", "multiplied", "_law_dip", "_law_one_of", "_law_power", "_law_raised", "_law_gcd", "_law_pair", "_law_plain"] : List Str) ++ (["_law_great", "_law_number", "_law_kept", "_law_jar", "_law_heard", "_law_right"] : List Str)
abbrev hk : PySem.W.Hook := hookQ 5 tb dfs xs
def ob (s : PySem.W.SharedT) : He.AlD := obsQG 5 tb dfs xs (HandSHeadRun.getT s)
theorem ob_eq (s : PySem.W.SharedT) : ob s = hk.obs s.abs := obsQG_eq (HandSHeadRun.getT_eq s)
/-! the run in two parts: the kernel has less to hold at once -/
def hkP (α : Type) (v : α) : PySem.W.Hook where
  α := α
  obs := fun _ => v
  val := fun _ => v
  says := fun _ _ => True
  of := fun _ _ _ => trivial
  keeps := fun _ _ _ _ _ => trivial
def obA (s : PySem.W.SharedT) : Bool := exB tb (frQ 5 (HandSHeadRun.getT s))
def obK (K : PySem.W.Frag) (g : Addr → Option Obj) : He.AlD := ((lamsB dfs K && (digB K && (dfs ++ xs).all fun d => d.d.ok K)) && (csOf dfs K).all fun p => isTab (g p.2), (dfs ++ xs).map fun d => He5.fnA K (d.at_.a K))
def obB (s : PySem.W.SharedT) : He.AlD := obK (frQ 5 (HandSHeadRun.getT s)) (HandSHeadRun.getT s)
theorem ob_two (s : PySem.W.SharedT) : ob s = (obA s && (obB s).1, (obB s).2) := by
  show ((_ && _) && _, _) = (_ && (_ && _), _)
  rw [Bool.and_assoc]
  rfl
theorem run_join {r : PySem.W.OpenRow} {q : Program} {H1 H2 H : PySem.W.Hook} {o1 : PySem.W.SharedT → H1.α} {o2 : PySem.W.SharedT → H2.α} {o : PySem.W.SharedT → H.α} {M : Nat} {lo : List Str} {w : PySem.World} (f : H1.α → H2.α → H.α)
    (h1 : HandSHeadRun.RunEq r q H1 o1 M lo w) (h2 : HandSHeadRun.RunEq r q H2 o2 M lo w) (e : ∀ s, o s = f (o1 s) (o2 s)) (v : H.val w = f (H1.val w) (H2.val w)) : HandSHeadRun.RunEq r q H o M lo w := by
  intro os
  have a := h1 os
  have b := h2 os
  revert a b
  generalize HandSHeadRun.endF _ _ _ _ _ = x
  intro a b
  cases x with
  | none => cases a
  | some s =>
    simp only [Option.map_some, Option.some.injEq, Prod.mk.injEq] at a b ⊢
    exact ⟨a.1, a.2.1, by rw [e, a.2.2, b.2.2, v]⟩
theorem runA (w : PySem.World) : HandSHeadRun.RunEq R qv (hkP Bool true) obA 9000 loose w := by
  intro os
  kernel_rfl
theorem runB (w : PySem.World) : HandSHeadRun.RunEq R qv (hkP He.AlD (valQ dfs xs)) obB 9000 loose w := by
  intro os
  kernel_rfl
theorem run (w : PySem.World) : HandSHeadRun.RunEq R qv hk ob 9000 loose w := run_join (H1 := hkP Bool true) (H2 := hkP He.AlD (valQ dfs xs)) (H := hk) (fun a b => (a && b.1, b.2)) (runA w) (runB w) ob_two rfl
end Pk05
set_option Elab.async false
set_option linter.all false
set_option autoImplicit false
set_option maxRecDepth 100000
/-! Ev, part S: words for the plain side. -/
namespace Ev
open PySem PySem.Spec PyProof.Rows L2
abbrev KT2 := T → List D → Prop
abbrev KX2 := Xn → List D → Prop
def keg (a b g : Int) : D := .lst [.int a, .int b, .int g]
theorem bits_le {i : Int} {n : Nat} (h : i.natAbs < 2 ^ n) : Builtin.Int.intBits i ≤ n := by
  unfold Builtin.Int.intBits
  split
  · omega
  · rename_i h0
    have : i.natAbs.log2 < n := (Nat.log2_lt (by simpa using h0)).mpr h
    omega
theorem mulL {a b : Int} (h : a.natAbs < 2 ^ 64) : IntMulOk a b := IntMulOk.of_left (bits_le h)
theorem mulR {a b : Int} (h : b.natAbs < 2 ^ 64) : IntMulOk a b := IntMulOk.of_right (bits_le h)
theorem cdiv {a j : Int} (h : 0 < j) (h2 : j < 2 ^ 64) : CDivW a j := ⟨h, Nat.lt_of_lt_of_le ((Nat.log2_lt (by omega)).mpr (show j.natAbs < 2 ^ 64 by omega)) (by decide)⟩
theorem ifP {c : Prop} [Decidable c] {A B : Prop} (h : c) (a : A) : if c then A else B := by rw [if_pos h]; exact a
theorem ifN {c : Prop} [Decidable c] {A B : Prop} (h : ¬ c) (a : B) : if c then A else B := by rw [if_neg h]; exact a
theorem ifB {b : Bool} {A B : Prop} (h1 : b = true → A) (h2 : b = false → B) : if b = true then A else B := by
  cases b
  · exact h2 rfl
  · exact h1 rfl
theorem mB {b : Bool} {A B : Prop} (h1 : b = true → A) (h2 : b = false → B) : (match T.v (D.bl b) with
  | .v (.bl true) => A
  | .v (.bl false) => B
  | _ => False) := by
  cases b
  · exact h2 rfl
  · exact h1 rfl
theorem mD {b : Bool} {A B : Prop} (h1 : b = true → A) (h2 : b = false → B) : (match D.bl b with
  | .bl true => A
  | .bl false => B
  | _ => False) := by
  cases b
  · exact h2 rfl
  · exact h1 rfl
theorem kset2 {kk : List D → Prop} {st : List D} {n : Nat} {x y : D} (h : kk (st.set n y)) : kk ((st.set n x).set n y) := by rw [List.set_set]; exact h
theorem kset3 {kk : List D → Prop} {st : List D} {n : Nat} {x y z : D} (h : kk (st.set n z)) : kk (((st.set n x).set n y).set n z) := by rw [List.set_set, List.set_set]; exact h
theorem fApp_ok {f : List Int} {s : Int} (h : f.length < sizeLine) : fApp (f.map D.int) (.int s) = some ((f ++ [s]).map D.int) := by
  unfold fApp
  rw [List.length_map, if_pos h, List.map_append]
  rfl
theorem fApp_d {xs : List D} {d : D} (h : xs.length < sizeLine) : fApp xs d = some (xs ++ [d]) := by
  unfold fApp
  rw [if_pos h]
theorem deqI {a b : Int} : deq (.int a) (.int b) = decide (a = b) := by
  unfold deq
  by_cases h : a = b <;> simp [h]
theorem eqT {a b : Int} (h : deq (.int a) (.int b) = true) : a = b := by rw [deqI] at h; exact of_decide_eq_true h
theorem eqF {a b : Int} (h : deq (.int a) (.int b) = false) : ¬ a = b := by rw [deqI] at h; exact of_decide_eq_false h
theorem deqS {a b : Str} : deq (.str a) (.str b) = decide (a = b) := by
  unfold deq
  by_cases h : a = b <;> simp [h]
theorem anyI (p : Int) : ∀ l : List Int, ((l.map D.int).any fun y => deq y (.int p)) = decide (p ∈ l)
  | [] => rfl
  | a :: l => by
    rw [List.map_cons, List.any_cons, anyI p l, deqI]
    by_cases h1 : a = p
    · subst h1; simp
    · have h2 : ¬ p = a := fun z => h1 z.symm
      by_cases h3 : p ∈ l <;> simp [h1, h2, h3]
theorem flatI : ∀ l : List Int, (l.map D.int).all flatD = true
  | [] => rfl
  | a :: l => by rw [List.map_cons, List.all_cons, flatI l]; rfl
theorem deqLI : ∀ {l m : List Int}, deqL (l.map D.int) (m.map D.int) = decide (l = m)
  | [], [] => by rw [deqL.eq_def]; rfl
  | [], b :: m => by rw [deqL.eq_def]; simp
  | a :: l, [] => by rw [deqL.eq_def]; simp
  | a :: l, b :: m => by
    rw [List.map_cons, List.map_cons, deqL.eq_def]
    simp only []
    rw [deqLI, deqI]
    by_cases h1 : a = b <;> by_cases h2 : l = m <;> simp [h1, h2]
theorem deqLB : ∀ {l m : List Bool}, deqL (l.map D.bl) (m.map D.bl) = decide (l = m)
  | [], [] => by rw [deqL.eq_def]; rfl
  | [], b :: m => by rw [deqL.eq_def]; simp
  | a :: l, [] => by rw [deqL.eq_def]; simp
  | a :: l, b :: m => by
    rw [List.map_cons, List.map_cons, deqL.eq_def]
    simp only []
    rw [deqLB]
    have : deq (.bl a) (.bl b) = (a == b) := by unfold deq; rfl
    rw [this]
    by_cases h1 : a = b <;> by_cases h2 : l = m <;> simp [h1, h2]
theorem datLI : ∀ l : List Int, datL (l.map D.int) = some (l.map PyData.int)
  | [] => by rw [List.map_nil, datL.eq_def]; rfl
  | a :: l => by
    rw [List.map_cons, datL.eq_def]
    simp only []
    rw [datLI l, dat.eq_def]
    rfl
theorem datLB : ∀ l : List Bool, datL (l.map D.bl) = some (l.map PyData.bool)
  | [] => by rw [List.map_nil, datL.eq_def]; rfl
  | a :: l => by
    rw [List.map_cons, datL.eq_def]
    simp only []
    rw [datLB l, dat.eq_def]
    rfl
theorem atI_ok {α : Type} {xs : List α} {i : Int} (h1 : 0 ≤ i) (h2 : i < xs.length) : ∃ x, x ∈ xs ∧ atI xs i = some x := by
  have hj : i.toNat < xs.length := by omega
  refine ⟨xs[i.toNat], List.getElem_mem hj, ?_⟩
  unfold atI ixN
  rw [if_pos h1, if_pos (by omega)]
  simp [hj]
/-! ### loops -/
theorem for_inv {g : DTG} {t : DTS} {P : Post} (I : List D → En → List D → Prop) (step : ∀ d ds en st (N : En → List D → Prop), I (d :: ds) en st → (∀ en' st', I ds en' st' → N en' st') → g d en st (fun en1 st1 => t en1 st1 { P with nx := N, ct := N, bk := P.nx }) P.ex)
    (fin : ∀ en st, I [] en st → P.nx en st) : ∀ (ds : List D) (en : En) (st : List D), I ds en st → forL g t ds en st P
  | [], en, st, h => fin en st h
  | d :: ds, en, st, h => step d ds en st (fun n s => forL g t ds n s P) h fun en' st' h' => for_inv I step fin ds en' st' h'
theorem lc_inv {ct : CT} {c : DTT} {te : DTE} {vs : List Nat} {k : List D → En → List D → Prop} (I : List D → List D → En → List D → Prop)
    (step : ∀ d ds acc en st (N : List D → En → List D → Prop), I (d :: ds) acc en st → (∀ acc' en' st', I ds acc' en' st' → N acc' en' st') → ∃ en1, aCT ct d (wipeE en vs) = some en1 ∧
      c en1 st (fun b en2 st2 => if b = true then te en2 st2 (fun y en3 st3 => acc.length < sizeLine ∧ N (acc ++ [y.d]) (restE en en3 vs) st3) noX else N acc (restE en en2 vs) st2) noX)
    (fin : ∀ acc en st, I [] acc en st → k acc en st) : ∀ (ds acc : List D) (en : En) (st : List D), I ds acc en st → lcL ct c te vs ds acc en st k
  | [], acc, en, st, h => fin acc en st h
  | d :: ds, acc, en, st, h => step d ds acc en st (fun a n s => lcL ct c te vs ds a n s k) h fun a n s h' => lc_inv I step fin ds a n s h'
/-- a comprehension without side effects -/
theorem lc_pure {ct : CT} {c : DTT} {te : DTE} {vs : List Nat} {en : En} {st : List D} {k : List D → En → List D → Prop} (p : D → Bool) (f : D → T) (ds : List D) (hl : ds.length ≤ sizeLine)
    (step : ∀ d ∈ ds, ∃ en1, aCT ct d (wipeE en vs) = some en1 ∧ restE en en1 vs = en ∧ (∀ K : KB, K (p d) en1 st → c en1 st K noX) ∧ (p d = true → ∀ K : KT, K (f d) en1 st → te en1 st K noX))
    (h : k ((ds.filter p).map fun d => (f d).d) en st) : lcL ct c te vs ds [] en st k := by
  have main : ∀ (ds acc : List D), acc.length + ds.length ≤ sizeLine → (∀ d ∈ ds, ∃ en1, aCT ct d (wipeE en vs) = some en1 ∧ restE en en1 vs = en ∧ (∀ K : KB, K (p d) en1 st → c en1 st K noX) ∧ (p d = true → ∀ K : KT, K (f d) en1 st → te en1 st K noX)) →
      k (acc ++ (ds.filter p).map fun d => (f d).d) en st → lcL ct c te vs ds acc en st k := by
    intro ds
    induction ds with
    | nil =>
      intro acc _ _ h
      rw [List.filter_nil, List.map_nil, List.append_nil] at h
      exact h
    | cons d ds ih =>
      intro acc hl hs h
      obtain ⟨en1, e1, e2, e3, e4⟩ := hs d List.mem_cons_self
      refine ⟨en1, e1, e3 _ ?_⟩
      have hl' : acc.length + (ds.length + 1) ≤ sizeLine := hl
      cases hp : p d with
      | true =>
        rw [List.filter_cons_of_pos hp] at h
        refine ifP rfl (e4 hp _ ⟨by omega, ?_⟩)
        rw [e2]
        refine ih _ (by rw [List.length_append]; show acc.length + 1 + ds.length ≤ _; omega) (fun x hx => hs x (List.mem_cons_of_mem _ hx)) ?_
        simpa using h
      | false =>
        rw [List.filter_cons_of_neg (by rw [hp]; simp)] at h
        refine ifN (by simp) ?_
        rw [e2]
        exact ih _ (by omega) (fun x hx => hs x (List.mem_cons_of_mem _ hx)) h
  exact main ds [] (by simpa using hl) step h
/-! ### rising lists -/
theorem sorted_uniq : ∀ {a b : List Int}, a.Pairwise (· < ·) → b.Pairwise (· < ·) → (∀ i, i ∈ a ↔ i ∈ b) → a = b
  | [], [], _, _, _ => rfl
  | [], y :: b, _, _, h => by simpa using h y
  | x :: a, [], _, _, h => by simpa using h x
  | x :: a, y :: b, h1, h2, h => by
    have a1 := List.pairwise_cons.mp h1
    have b1 := List.pairwise_cons.mp h2
    have e : x = y := by
      have hx := (h x).mp List.mem_cons_self
      have hy := (h y).mpr List.mem_cons_self
      rcases List.mem_cons.mp hx with z | z
      · exact z
      · rcases List.mem_cons.mp hy with w | w
        · exact w.symm
        · have := b1.1 x z
          have := a1.1 y w
          omega
    subst e
    congr 1
    refine sorted_uniq a1.2 b1.2 fun i => ?_
    have hi := h i
    constructor
    · intro z
      have := a1.1 i z
      rcases List.mem_cons.mp (hi.mp (List.mem_cons_of_mem _ z)) with w | w
      · omega
      · exact w
    · intro z
      have := b1.1 i z
      rcases List.mem_cons.mp (hi.mpr (List.mem_cons_of_mem _ z)) with w | w
      · omega
      · exact w
end Ev
set_option Elab.async false
set_option linter.all false
set_option autoImplicit false
set_option maxRecDepth 100000
/-! Ev, part T: powers and roots of natural numbers. -/
namespace Ev
theorem pow_inj {a b n : Nat} (hn : n ≠ 0) (h : a ^ n = b ^ n) : a = b := by
  have h1 := (Nat.pow_le_pow_iff_left hn).mp (Nat.le_of_eq h)
  have h2 := (Nat.pow_le_pow_iff_left hn).mp (Nat.le_of_eq h.symm)
  omega
/-- r ^ m = x ^ n, m and n without a common divisor: both are powers of one number -/
theorem root_coprime : ∀ (k m n r x : Nat), m + n ≤ k → Nat.Coprime m n → 1 ≤ r → 1 ≤ x → r ^ m = x ^ n → ∃ z, r = z ^ n ∧ x = z ^ m := by
  intro k
  induction k with
  | zero =>
    intro m n r x hk hc _ _ _
    have hm : m = 0 := by omega
    have hn : n = 0 := by omega
    subst hm hn
    exact absurd hc (by decide)
  | succ k ih =>
    intro m n r x hk hc hr hx h
    rcases Nat.eq_zero_or_pos m with hm | hm
    · subst hm
      have hn : n = 1 := by simpa [Nat.Coprime] using hc
      subst hn
      rw [Nat.pow_zero, Nat.pow_one] at h
      exact ⟨r, by rw [Nat.pow_one], by rw [Nat.pow_zero]; exact h.symm⟩
    rcases Nat.eq_zero_or_pos n with hn | hn
    · subst hn
      have hm : m = 1 := by simpa [Nat.Coprime] using hc
      subst hm
      rw [Nat.pow_zero, Nat.pow_one] at h
      exact ⟨x, by rw [Nat.pow_zero]; exact h, by rw [Nat.pow_one]⟩
    rcases Nat.le_total n m with hl | hl
    · have hd : r ^ n ∣ x ^ n := by
        rw [← h]
        exact Nat.pow_dvd_pow r hl
      obtain ⟨w, hw⟩ := (Nat.pow_dvd_pow_iff (by omega)).mp hd
      subst hw
      have hw1 : 1 ≤ w := Nat.pos_of_ne_zero fun z => by subst z; simp at hx
      have h2 : r ^ (m - n) = w ^ n := by
        have e : r ^ m = r ^ n * r ^ (m - n) := by rw [← Nat.pow_add]; congr 1; omega
        rw [e, Nat.mul_pow] at h
        exact Nat.eq_of_mul_eq_mul_left (Nat.pow_pos (by omega)) h
      have hc2 : Nat.Coprime (m - n) n := by
        have : Nat.Coprime (m - n + n) n := by rw [Nat.sub_add_cancel hl]; exact hc
        simpa [Nat.Coprime] using this
      obtain ⟨z, z1, z2⟩ := ih (m - n) n r w (by omega) hc2 hr hw1 h2
      refine ⟨z, z1, ?_⟩
      rw [z1, z2, ← Nat.pow_add]
      congr 1
      omega
    · have hd : x ^ m ∣ r ^ m := by
        rw [h]
        exact Nat.pow_dvd_pow x hl
      obtain ⟨w, hw⟩ := (Nat.pow_dvd_pow_iff (by omega)).mp hd
      subst hw
      have hw1 : 1 ≤ w := Nat.pos_of_ne_zero fun z => by subst z; simp at hr
      have h2 : w ^ m = x ^ (n - m) := by
        have e : x ^ n = x ^ m * x ^ (n - m) := by rw [← Nat.pow_add]; congr 1; omega
        rw [e, Nat.mul_pow] at h
        exact Nat.eq_of_mul_eq_mul_left (Nat.pow_pos (by omega)) h
      have hc2 : Nat.Coprime m (n - m) := by
        have : Nat.Coprime m (n - m + m) := by rw [Nat.sub_add_cancel hl]; exact hc
        simpa [Nat.Coprime] using this
      obtain ⟨z, z1, z2⟩ := ih m (n - m) w x (by omega) hc2 hw1 hx h2
      refine ⟨z, ?_, z2⟩
      rw [z1, z2, ← Nat.pow_add]
      congr 1
      omega
def IsP (a n : Nat) : Prop := ∃ r, r ^ n = a
theorem IsP.lcm {a e n : Nat} (ha : 1 ≤ a) (he : 0 < e) (hn : 0 < n) (h1 : IsP a e) (h2 : IsP a n) : IsP a (Nat.lcm e n) := by
  obtain ⟨r, hr⟩ := h1
  obtain ⟨x, hx⟩ := h2
  have hg : 0 < Nat.gcd e n := Nat.gcd_pos_of_pos_left n he
  obtain ⟨e', he'⟩ := Nat.gcd_dvd_left e n
  obtain ⟨n', hn'⟩ := Nat.gcd_dvd_right e n
  have hc : Nat.Coprime e' n' := by
    have q := Nat.coprime_div_gcd_div_gcd hg
    have q1 : e / Nat.gcd e n = e' := Nat.div_eq_of_eq_mul_right hg he'
    have q2 : n / Nat.gcd e n = n' := Nat.div_eq_of_eq_mul_right hg hn'
    rw [q1, q2] at q
    exact q
  have hr1 : 1 ≤ r := Nat.pos_of_ne_zero fun z => by subst z; rw [Nat.zero_pow he] at hr; omega
  have hx1 : 1 ≤ x := Nat.pos_of_ne_zero fun z => by subst z; rw [Nat.zero_pow hn] at hx; omega
  have eq : r ^ e' = x ^ n' := by
    refine pow_inj (n := Nat.gcd e n) (by omega) ?_
    rw [← Nat.pow_mul, ← Nat.pow_mul, Nat.mul_comm e', Nat.mul_comm n', ← he', ← hn', hr, hx]
  obtain ⟨z, z1, z2⟩ := root_coprime _ e' n' r x (Nat.le_refl _) hc hr1 hx1 eq
  refine ⟨z, ?_⟩
  have el : Nat.lcm e n = n' * e := by
    unfold Nat.lcm
    refine Nat.div_eq_of_eq_mul_right hg ?_
    conv => lhs; rw [hn', Nat.mul_comm e]
    rw [Nat.mul_assoc]
  rw [el, Nat.pow_mul, ← z1, hr]
/-- e: the greatest exponent for both -/
structure Ge (a b e : Nat) : Prop where
  pos : 0 < e
  pa : IsP a e
  pb : IsP b e
  top : ∀ n, 0 < n → IsP a n → IsP b n → n ≤ e
theorem Ge.dvd {a b e n : Nat} (g : Ge a b e) (ha : 1 ≤ a) (hb : 1 ≤ b) (hn : 0 < n) : n ∣ e ↔ IsP a n ∧ IsP b n := by
  constructor
  · rintro ⟨q, rfl⟩
    obtain ⟨r, hr⟩ := g.pa
    obtain ⟨x, hx⟩ := g.pb
    exact ⟨⟨r ^ q, by rw [← Nat.pow_mul, Nat.mul_comm]; exact hr⟩, ⟨x ^ q, by rw [← Nat.pow_mul, Nat.mul_comm]; exact hx⟩⟩
  · rintro ⟨h1, h2⟩
    have hl := g.top (Nat.lcm e n) (Nat.lcm_pos g.pos hn) (g.pa.lcm ha g.pos hn h1) (g.pb.lcm hb g.pos hn h2)
    have hd := Nat.dvd_lcm_left e n
    have he : Nat.lcm e n = e := Nat.le_antisymm hl (Nat.le_of_dvd (Nat.lcm_pos g.pos hn) hd)
    rw [← he]
    exact Nat.dvd_lcm_right e n
theorem Ge.uniq {a b e f : Nat} (g : Ge a b e) (h : Ge a b f) : e = f := Nat.le_antisymm (h.top e g.pos g.pa g.pb) (g.top f h.pos h.pa h.pb)
/-- the floor of a root -/
structure Fl (v p r : Nat) : Prop where
  lo : r ^ p ≤ v
  hi : v < (r + 1) ^ p
theorem Fl.uniq {v p r s : Nat} (hp : p ≠ 0) (h : Fl v p r) (g : Fl v p s) : r = s := by
  have h1 := Nat.lt_of_le_of_lt h.lo g.hi
  have h2 := Nat.lt_of_le_of_lt g.lo h.hi
  have a : ¬ s + 1 ≤ r := fun z => by have := Nat.pow_le_pow_left z p; omega
  have b : ¬ r + 1 ≤ s := fun z => by have := Nat.pow_le_pow_left z p; omega
  omega
theorem Fl.isP {v p r : Nat} (hp : p ≠ 0) (h : Fl v p r) : IsP v p ↔ r ^ p = v := by
  constructor
  · rintro ⟨x, hx⟩
    have g : Fl v p x := ⟨Nat.le_of_eq hx, by rw [← hx]; exact Nat.pow_lt_pow_left (Nat.lt_succ_self x) hp⟩
    rw [h.uniq hp g]
    exact hx
  · exact fun e => ⟨r, e⟩
/-- only 1 has high exponents -/
theorem IsP.small {a n : Nat} (ha : 2 ≤ a) (hn : 0 < n) (h : IsP a n) : 2 ^ n ≤ a := by
  obtain ⟨r, hr⟩ := h
  have h2 : 2 ≤ r := by
    rcases Nat.lt_or_ge r 2 with z | z
    · have : r = 0 ∨ r = 1 := by omega
      rcases this with e | e <;> subst e
      · rw [Nat.zero_pow hn] at hr; omega
      · rw [Nat.one_pow] at hr; omega
    · exact z
  rw [← hr]
  exact Nat.pow_le_pow_left h2 n
theorem IsP.one (a : Nat) : IsP a 1 := ⟨a, Nat.pow_one a⟩
end Ev
set_option Elab.async false
set_option linter.all false
set_option autoImplicit false
set_option maxRecDepth 100000
set_option maxHeartbeats 0
set_option exponentiation.threshold 3000
/-! Ev, part U: the program's functions of numbers, each by its body, whatever table they stand in. -/
namespace Ev
open PySem PySem.Spec PyProof.Rows L2
theorem noF : ¬ (false = true) := Bool.noConfusion
theorem szs {n : Nat} {A : Prop} (h : Nat.ble n 1000 = true) (a : A) : n ≤ sizeLine ∧ A := ⟨Nat.le_trans (Nat.le_of_ble_eq_true h) (by decide), a⟩
theorem log2_le {v k : Nat} (h : v < 2 ^ k) (hk : 0 < k) : v.log2 < k := by
  rcases Nat.eq_zero_or_pos v with z | z
  · subst z
    exact hk
  · exact (Nat.log2_lt (by omega)).mpr h
theorem mulN {a b k l : Nat} (ha : a < 2 ^ k) (hb : b < 2 ^ l) (hk : 0 < k) (hl : 0 < l) (h : k + l ≤ 1000000) : IntMulOk (a : Int) (b : Int) := by
  refine CMulW.ok ?_
  unfold CMulW
  have h1 := log2_le ha hk
  have h2 := log2_le hb hl
  simp only [Int.natAbs_natCast]
  omega
theorem mul2 {b : Int} : IntMulOk 2 b := mulL (by decide)
theorem pow_lt2 {b k : Nat} (h : b < 2 ^ k) : ∀ i, b ^ i < 2 ^ (k * i + 1)
  | 0 => by simp
  | i + 1 => by
    have ih := pow_lt2 h i
    rw [Nat.pow_succ]
    have h1 : b ^ i * b ≤ 2 ^ (k * i + 1) * b := Nat.mul_le_mul_right b (Nat.le_of_lt ih)
    have h2 : 2 ^ (k * i + 1) * b < 2 ^ (k * i + 1) * 2 ^ k := Nat.mul_lt_mul_of_pos_left h (Nat.pow_pos (by decide))
    have e : 2 ^ (k * (i + 1) + 1) = 2 ^ (k * i + 1) * 2 ^ k := by rw [← Nat.pow_add]; congr 1; rw [Nat.mul_succ]; omega
    rw [e]
    omega
theorem range_len (n : Nat) : (rangeD 0 1 n).length = n := by unfold rangeD; rw [List.length_map, List.length_range]
/-! ### power_of -/
def SpPow (g : Gam) : Prop := ∀ (st : List D) (kk : KT2) (e : KX2) (b n : Nat), b < 2 ^ 700 → n ≤ 700 → kk (.v (.int ((b ^ n : Nat) : Int))) st → g [.int b, .int n] st kk e
def mPow : MSs := (.cons (.set 2 (.c (.int 1))) (.cons (.forr (.range1 (.cons (.var 1) .nil)) (.name 3) (.cons (.set 2 (.bin .Mult (.var 2) (.var 0))) .nil)) (.cons (.retv 2) .nil)))
theorem body_pow (Γ : Nat → Gam) : SpPow (gBody 4 (wSs Γ mPow)) := by
  intro st kk e b n hb hn h
  refine ⟨⟨by omega, by omega⟩, ?_⟩
  refine for_inv (fun rem en s => s = st ∧ ∃ (i : Nat) (x : Option T), rem.length + i = n ∧ en = [some (.v (.int b)), some (.v (.int n)), some (.v (.int ((b ^ i : Nat) : Int))), x]) ?_ ?_ _ _ _ ⟨rfl, 0, none, ?_, rfl⟩
  · rintro d ds en s N ⟨rfl, i, x, hi, rfl⟩ hN
    have hi' : ds.length + 1 + i = n := hi
    have h1 := pow_lt2 hb i
    have h2 : 700 * i ≤ 700 * 700 := Nat.mul_le_mul_left 700 (by omega)
    exact ⟨mulN h1 hb (by omega) (by decide) (by omega), hN _ _ ⟨rfl, i + 1, _, by omega, rfl⟩⟩
  · rintro en s ⟨rfl, i, x, hi, rfl⟩
    have hi' : i = n := by simpa using hi
    subst hi'
    exact h
  · show (rangeD 0 1 (n : Int).toNat).length + 0 = n
    rw [range_len]
    omega
/-! ### floor_root -/
def SpFl (g : Gam) : Prop := ∀ (st : List D) (kk : KT2) (e : KX2) (v p : Nat), v < 2 ^ 600 → 1 ≤ p → p ≤ 700 → (∀ r, Fl v p r → kk (.v (.int (r : Int))) st) → g [.int v, .int p] st kk e
theorem le_pow {a p : Nat} (h : 1 ≤ p) : a ≤ a ^ p := by
  rcases Nat.eq_zero_or_pos a with z | z
  · omega
  · calc a = a ^ 1 := (Nat.pow_one a).symm
      _ ≤ a ^ p := Nat.pow_le_pow_right z h
def mFl (q : Nat) : MSs := (.cons (.asg (.tup (.cons (.c (.int 0)) (.cons (.c (.int 1)) .nil))) (.tup 2 (.cons (.name 2) (.cons (.name 3) .nil)))) (.cons (.whil (.val (.cmp .LtE (.call q 2 0 (.cons (.var 3) (.cons (.var 1) .nil)) .nil) (.var 0))) (.cons (.par [2, 3] (.cons (.var 3) (.cons (.bin .Mult (.c (.int 2)) (.var 3)) .nil))) .nil)) (.cons (.whil (.val (.cmp .Gt (.bin .Sub (.var 3) (.var 2)) (.c (.int 1)))) (.cons (.set 4 (.bin .FloorDiv (.bin .Add (.var 2) (.var 3)) (.c (.int 2)))) (.cons (.ifs (.val (.cmp .LtE (.call q 2 0 (.cons (.var 4) (.cons (.var 1) .nil)) .nil) (.var 0))) (.cons (.set 2 (.var 4)) .nil) (.cons (.set 3 (.var 4)) .nil)) .nil))) (.cons (.retv 2) .nil))))
theorem body_fl (Γ : Nat → Gam) (q : Nat) (hq : SpPow (Γ q)) : SpFl (gBody 5 (wSs Γ (mFl q))) := by
  intro st kk e v p hv hp hp2 h
  refine szs rfl ⟨rfl, rfl, ?_⟩
  refine ⟨fun m en s => s = st ∧ ∃ l u : Nat, en = [some (.v (.int v)), some (.v (.int p)), some (.v (.int l)), some (.v (.int u)), none] ∧ l < u ∧ l ^ p ≤ v ∧ u ≤ 2 * v + 2 ∧ 2 * v + 2 - u ≤ m, ⟨_, rfl, 0, 1, rfl, by decide, ?_, by omega, Nat.le_refl _⟩, ?_⟩
  · rw [Nat.zero_pow hp]
    exact Nat.zero_le _
  rintro m en s ⟨rfl, l, u, rfl, h1, h2, h3, h4⟩
  have hu : u < 2 ^ 700 := by
    have : (2 : Nat) ^ 600 * 2 + 2 < 2 ^ 700 := by decide
    omega
  refine ⟨rfl, rfl, hq _ _ _ u p hu hp2 ⟨_, rfl, ifB (fun h0 => ?_) (fun h0 => ?_)⟩⟩
  · have h0 : u ^ p ≤ v := by have := of_decide_eq_true h0; omega
    have := le_pow (a := u) hp
    exact ⟨mul2, rfl, m - 1, by omega, rfl, u, 2 * u, rfl, by omega, h0, by omega, by omega⟩
  · have h0 : v < u ^ p := by have := of_decide_eq_false h0; omega
    refine ⟨fun m en w => w = s ∧ ∃ (l u : Nat) (x : Option T), en = [some (.v (.int v)), some (.v (.int p)), some (.v (.int l)), some (.v (.int u)), x] ∧ l < u ∧ l ^ p ≤ v ∧ v < u ^ p ∧ u < 2 ^ 700 ∧ u - l ≤ m, ⟨_, rfl, l, u, _, rfl, h1, h2, h0, hu, Nat.le_refl _⟩, ?_⟩
    rintro m2 en w ⟨rfl, l, u, x, rfl, g1, g2, g3, g4, g5⟩
    refine ⟨_, rfl, ifB (fun h5 => ?_) (fun h5 => ?_)⟩
    · have h5 := of_decide_eq_true h5
      have h6 : l + 1 < u := by omega
      refine ⟨cdiv (by decide) (by decide), rfl, rfl, hq _ _ _ ((l + u) / 2) p (by omega) hp2 ⟨_, rfl, ifB (fun h7 => ?_) (fun h7 => ?_)⟩⟩
      · have h7 : ((l + u) / 2) ^ p ≤ v := by have := of_decide_eq_true h7; omega
        exact ⟨m2 - 1, by omega, rfl, (l + u) / 2, u, _, rfl, by omega, h7, g3, g4, by omega⟩
      · have h7 : v < ((l + u) / 2) ^ p := by have := of_decide_eq_false h7; omega
        exact ⟨m2 - 1, by omega, rfl, l, (l + u) / 2, _, rfl, by omega, g2, h7, by omega, by omega⟩
    · have h5 := of_decide_eq_false h5
      have h6 : u = l + 1 := by omega
      subst h6
      exact h l ⟨g2, g3⟩
end Ev
set_option Elab.async false
set_option linter.all false
set_option autoImplicit false
set_option maxRecDepth 100000
set_option maxHeartbeats 0
set_option exponentiation.threshold 3000
/-! Ev, part V: more functions of numbers. -/
namespace Ev
open PySem PySem.Spec PyProof.Rows L2
/-! ### _law_near -/
def mNear (q : Nat) : MSs := (.cons (.asg (.tup (.cons (.c (.int 0)) (.cons (.c (.int 1)) .nil))) (.tup 2 (.cons (.name 2) (.cons (.name 3) .nil)))) (.cons (.whil (.val (.cmp .LtE (.call q 2 0 (.cons (.bin .Mult (.c (.int 2)) (.var 3)) (.cons (.var 1) .nil)) .nil) (.var 0))) (.cons (.set 3 (.bin .Mult (.c (.int 2)) (.var 3))) .nil)) (.cons (.whil (.val (.cmp .Gt (.var 3) (.c (.int 0)))) (.cons (.ifs (.val (.cmp .LtE (.call q 2 0 (.cons (.bin .Add (.var 2) (.var 3)) (.cons (.var 1) .nil)) .nil) (.var 0))) (.cons (.set 2 (.bin .Add (.var 2) (.var 3))) .nil) .nil) (.cons (.set 3 (.bin .FloorDiv (.var 3) (.c (.int 2)))) .nil))) (.cons (.retv 2) .nil))))
theorem body_near (Γ : Nat → Gam) (q : Nat) (hq : SpPow (Γ q)) : SpFl (gBody 4 (wSs Γ (mNear q))) := by
  intro st kk e v p hv hp hp2 h
  have big : (2 : Nat) ^ 600 * 4 + 4 < 2 ^ 700 := by decide
  refine szs rfl ⟨rfl, rfl, ?_⟩
  refine ⟨fun m en s => s = st ∧ ∃ j : Nat, en = [some (.v (.int v)), some (.v (.int p)), some (.v (.int (0 : Nat))), some (.v (.int ((2 ^ j : Nat) : Int)))] ∧ 2 ^ j ≤ v + 1 ∧ v + 1 - 2 ^ j ≤ m, ⟨_, rfl, 0, rfl, by simp, Nat.le_refl _⟩, ?_⟩
  rintro m en s ⟨rfl, j, rfl, h1, h2⟩
  have e2 : 2 ^ (j + 1) = 2 * 2 ^ j := by rw [Nat.pow_succ, Nat.mul_comm]
  have pj : 0 < 2 ^ j := Nat.pow_pos (by decide)
  refine ⟨mul2, rfl, rfl, hq _ _ _ (2 * 2 ^ j) p (by omega) hp2 ⟨_, rfl, ifB (fun h0 => ?_) (fun h0 => ?_)⟩⟩
  · have h0 : (2 * 2 ^ j) ^ p ≤ v := by have := of_decide_eq_true h0; omega
    have h3 := le_pow (a := 2 * 2 ^ j) hp
    refine ⟨mul2, m - 1, by omega, rfl, j + 1, ?_, by omega, by omega⟩
    rw [e2]
    rfl
  · have h0 : v < (2 * 2 ^ j) ^ p := by have := of_decide_eq_false h0; omega
    refine ⟨fun m en w => w = s ∧ ∃ f t : Nat, en = [some (.v (.int v)), some (.v (.int p)), some (.v (.int f)), some (.v (.int t))] ∧ f ^ p ≤ v ∧ f ≤ v ∧ t ≤ v + 1 ∧ ((∃ i, t = 2 ^ i ∧ v < (f + 2 * 2 ^ i) ^ p) ∨ (t = 0 ∧ v < (f + 1) ^ p)) ∧ t ≤ m, ⟨_, rfl, 0, 2 ^ j, rfl, by rw [Nat.zero_pow hp]; exact Nat.zero_le _, Nat.zero_le _, h1, .inl ⟨j, rfl, by rw [Nat.zero_add]; exact h0⟩, Nat.le_refl _⟩, ?_⟩
    rintro m2 en w ⟨rfl, f, t, rfl, g1, g2, g3, g4, g5⟩
    refine ⟨_, rfl, ifB (fun h5 => ?_) (fun h5 => ?_)⟩
    · have h5 : 0 < t := by have := of_decide_eq_true h5; omega
      obtain ⟨i, rfl, g6⟩ : ∃ i, t = 2 ^ i ∧ v < (f + 2 * 2 ^ i) ^ p := by
        rcases g4 with z | z
        · exact z
        · omega
      have half : ∀ f', v < (f' + 2 ^ i) ^ p → (∃ k, 2 ^ i / 2 = 2 ^ k ∧ v < (f' + 2 * 2 ^ k) ^ p) ∨ (2 ^ i / 2 = 0 ∧ v < (f' + 1) ^ p) := by
        intro f' z
        cases i with
        | zero => exact .inr ⟨rfl, z⟩
        | succ k =>
          have ek : 2 ^ (k + 1) = 2 * 2 ^ k := by rw [Nat.pow_succ, Nat.mul_comm]
          refine .inl ⟨k, by omega, ?_⟩
          rw [← ek]
          exact z
      refine ⟨rfl, rfl, hq _ _ _ (f + 2 ^ i) p (by omega) hp2 ⟨_, rfl, ifB (fun h7 => ?_) (fun h7 => ?_)⟩⟩
      · have h7 : (f + 2 ^ i) ^ p ≤ v := by have := of_decide_eq_true h7; omega
        have h8 := le_pow (a := f + 2 ^ i) hp
        refine ⟨cdiv (by decide) (by decide), m2 - 1, by omega, rfl, f + 2 ^ i, 2 ^ i / 2, rfl, h7, by omega, by omega, half _ ?_, by omega⟩
        have e3 : f + 2 ^ i + 2 ^ i = f + 2 * 2 ^ i := by omega
        rw [e3]
        exact g6
      · have h7 : v < (f + 2 ^ i) ^ p := by have := of_decide_eq_false h7; omega
        exact ⟨cdiv (by decide) (by decide), m2 - 1, by omega, rfl, f, 2 ^ i / 2, rfl, g1, g2, by omega, half _ h7, by omega⟩
    · have h5 : t = 0 := by have := of_decide_eq_false h5; omega
      subst h5
      refine h f ⟨g1, ?_⟩
      rcases g4 with ⟨i, z, _⟩ | z
      · have := Nat.pow_pos (n := i) (show 0 < 2 by decide)
        omega
      · exact z.2
/-! ### is_power, whole_root -/
def SpIsP (g : Gam) : Prop := ∀ (st : List D) (kk : KT2) (e : KX2) (v p : Nat), v < 2 ^ 600 → 1 ≤ p → p ≤ 700 → (∀ b : Bool, (b = true ↔ IsP v p) → kk (.v (.bl b)) st) → g [.int v, .int p] st kk e
def mIsP (q r : Nat) : MSs := (.cons (.ret (.cmp .Eq (.call q 2 0 (.cons (.call r 2 0 (.cons (.var 0) (.cons (.var 1) .nil)) .nil) (.cons (.var 1) .nil)) .nil) (.var 0))) .nil)
theorem body_isP (Γ : Nat → Gam) (q r : Nat) (hq : SpPow (Γ q)) (hr : SpFl (Γ r)) : SpIsP (gBody 2 (wSs Γ (mIsP q r))) := by
  intro st kk e v p hv hp hp2 h
  have big : (2 : Nat) ^ 600 < 2 ^ 700 := by decide
  refine ⟨rfl, rfl, hr _ _ _ v p hv hp hp2 fun x fx => ⟨rfl, rfl, hq _ _ _ x p ?_ hp2 ⟨.inl rfl, h _ ?_⟩⟩⟩
  · have := le_pow (a := x) hp
    have := fx.lo
    omega
  · rw [fx.isP (by omega)]
    constructor
    · intro z
      have := eqT z
      omega
    · intro z
      show deq (.int _) (.int _) = true
      rw [deqI]
      exact decide_eq_true (by omega)
def SpWr (g : Gam) : Prop := ∀ (st : List D) (kk : KT2) (e : KX2) (x p : Nat), x ^ p < 2 ^ 600 → 1 ≤ p → p ≤ 700 → kk (.v (.int (x : Int))) st → g [.int ((x ^ p : Nat) : Int), .int p] st kk e
def mWr (q : Nat) : MSs := (.cons (.asg (.tup (.cons (.c (.int 0)) (.cons (.c (.int 1)) .nil))) (.tup 2 (.cons (.name 2) (.cons (.name 3) .nil)))) (.cons (.whil (.val (.cmp .Lt (.call q 2 0 (.cons (.var 3) (.cons (.var 1) .nil)) .nil) (.var 0))) (.cons (.set 3 (.bin .Mult (.c (.int 2)) (.var 3))) .nil)) (.cons (.whil (.val (.cmp .Lt (.var 2) (.var 3))) (.cons (.set 4 (.bin .FloorDiv (.bin .Add (.var 2) (.var 3)) (.c (.int 2)))) (.cons (.ifs (.val (.cmp .Lt (.call q 2 0 (.cons (.var 4) (.cons (.var 1) .nil)) .nil) (.var 0))) (.cons (.set 2 (.bin .Add (.var 4) (.c (.int 1)))) .nil) (.cons (.set 3 (.var 4)) .nil)) .nil))) (.cons (.retv 2) .nil))))
theorem body_wr (Γ : Nat → Gam) (q : Nat) (hq : SpPow (Γ q)) : SpWr (gBody 5 (wSs Γ (mWr q))) := by
  intro st kk e x p hv hp hp2 h
  have big : (2 : Nat) ^ 600 * 4 + 4 < 2 ^ 700 := by decide
  have hx := le_pow (a := x) hp
  have lt_iff : ∀ u : Nat, u ^ p < x ^ p ↔ u < x := fun u => by
    constructor
    · intro z
      exact Nat.lt_of_not_le fun y => by have := Nat.pow_le_pow_left y p; omega
    · intro z
      exact Nat.pow_lt_pow_left z (by omega)
  refine szs rfl ⟨rfl, rfl, ?_⟩
  refine ⟨fun m en s => s = st ∧ ∃ u : Nat, en = [some (.v (.int ((x ^ p : Nat) : Int))), some (.v (.int p)), some (.v (.int (0 : Nat))), some (.v (.int u)), none] ∧ 1 ≤ u ∧ u ≤ 2 * x + 1 ∧ 2 * x + 1 - u ≤ m, ⟨_, rfl, 1, rfl, by decide, by omega, Nat.le_refl _⟩, ?_⟩
  rintro m en s ⟨rfl, u, rfl, h1, h2, h3⟩
  refine ⟨rfl, rfl, hq _ _ _ u p (by omega) hp2 ⟨_, rfl, ifB (fun h0 => ?_) (fun h0 => ?_)⟩⟩
  · have h0 : u < x := (lt_iff u).mp (by have := of_decide_eq_true h0; omega)
    exact ⟨mul2, m - 1, by omega, rfl, 2 * u, rfl, by omega, by omega, by omega⟩
  · have h0 : x ≤ u := Nat.le_of_not_lt fun z => by have := of_decide_eq_false h0; have := (lt_iff u).mpr z; omega
    refine ⟨fun m en w => w = s ∧ ∃ (l u : Nat) (y : Option T), en = [some (.v (.int ((x ^ p : Nat) : Int))), some (.v (.int p)), some (.v (.int l)), some (.v (.int u)), y] ∧ l ≤ x ∧ x ≤ u ∧ u ≤ 2 * x + 1 ∧ u - l ≤ m, ⟨_, rfl, 0, u, _, rfl, Nat.zero_le _, h0, h2, Nat.le_refl _⟩, ?_⟩
    rintro m2 en w ⟨rfl, l, u, y, rfl, g1, g2, g3, g4⟩
    refine ⟨_, rfl, ifB (fun h5 => ?_) (fun h5 => ?_)⟩
    · have h5 : l < u := by have := of_decide_eq_true h5; omega
      refine ⟨cdiv (by decide) (by decide), rfl, rfl, hq _ _ _ ((l + u) / 2) p (by omega) hp2 ⟨_, rfl, ifB (fun h7 => ?_) (fun h7 => ?_)⟩⟩
      · have h7 : (l + u) / 2 < x := (lt_iff _).mp (by have := of_decide_eq_true h7; omega)
        exact ⟨m2 - 1, by omega, rfl, (l + u) / 2 + 1, u, _, rfl, by omega, g2, g3, by omega⟩
      · have h7 : x ≤ (l + u) / 2 := Nat.le_of_not_lt fun z => by have := of_decide_eq_false h7; have := (lt_iff _).mpr z; omega
        exact ⟨m2 - 1, by omega, rfl, l, (l + u) / 2, _, rfl, g1, h7, by omega, by omega⟩
    · have h5 : l = x := by have := of_decide_eq_false h5; omega
      subst h5
      exact h
end Ev
set_option Elab.async false
set_option linter.all false
set_option autoImplicit false
set_option maxRecDepth 100000
set_option maxHeartbeats 0
set_option exponentiation.threshold 3000
/-! Ev, part W: divisors, numbers, bases, roots. -/
namespace Ev
open PySem PySem.Spec PyProof.Rows L2
/-! ### is_integer, is_between -/
def SpInt (g : Gam) : Prop := ∀ (st : List D) (kk : KT2) (e : KX2) (v : Int), kk (.v (.bl true)) st → g [.int v] st kk e
def mInt : MSs := (.cons (.ret (.and (.bi .isinstance (.cons (.var 0) (.cons (.c (.ty .int)) .nil))) (.not (.bi .isinstance (.cons (.var 0) (.cons (.c (.ty .bool)) .nil)))))) .nil)
theorem body_int (Γ : Nat → Gam) : SpInt (gBody 1 (wSs Γ mInt)) := fun st kk e v h => ⟨rfl, rfl, _, rfl, h⟩
def SpBtw (g : Gam) : Prop := ∀ (st : List D) (kk : KT2) (e : KX2) (v lo hi : Int), kk (.v (.bl (decide (lo ≤ v ∧ v ≤ hi)))) st → g [.int v, .int lo, .int hi] st kk e
def mBtw (q : Nat) : MSs := (.cons (.ret (.and (.call q 1 0 (.cons (.var 0) .nil) .nil) (.chain .LtE .LtE (.var 1) (.var 0) (.var 2)))) .nil)
theorem body_btw (Γ : Nat → Gam) (q : Nat) (hq : SpInt (Γ q)) : SpBtw (gBody 3 (wSs Γ (mBtw q))) := by
  intro st kk e v lo hi h
  refine ⟨rfl, rfl, hq _ _ _ _ (mB (fun h1 => ?_) (fun h1 => ?_))⟩
  · have h1 := of_decide_eq_true h1
    have e0 : decide (lo ≤ v ∧ v ≤ hi) = decide (v ≤ hi) := by simp [h1]
    rw [e0] at h
    exact h
  · have h1 := of_decide_eq_false h1
    have e0 : decide (lo ≤ v ∧ v ≤ hi) = false := by simp [h1]
    rw [e0] at h
    exact h
/-! ### common_divisor, lowest -/
def SpGcd (g : Gam) : Prop := ∀ (st : List D) (kk : KT2) (e : KX2) (a b : Nat), kk (.v (.int (Nat.gcd a b : Nat))) st → g [.int a, .int b] st kk e
def mGcd : MSs := (.cons (.whil (.val (.cmp .NotEq (.var 1) (.c (.int 0)))) (.cons (.par [0, 1] (.cons (.var 1) (.cons (.bin .Mod (.var 0) (.var 1)) .nil))) .nil)) (.cons (.retv 0) .nil))
theorem gcd_step (x y : Nat) : Nat.gcd y (x % y) = Nat.gcd x y := by rw [Nat.gcd_comm, ← Nat.gcd_rec, Nat.gcd_comm]
theorem body_gcd (Γ : Nat → Gam) : SpGcd (gBody 2 (wSs Γ mGcd)) := by
  intro st kk e a b h
  refine ⟨fun m en s => s = st ∧ ∃ x y : Nat, en = [some (.v (.int x)), some (.v (.int y))] ∧ Nat.gcd x y = Nat.gcd a b ∧ y ≤ m, ⟨_, rfl, a, b, rfl, rfl, Nat.le_refl _⟩, ?_⟩
  rintro m en s ⟨rfl, x, y, rfl, h1, h2⟩
  refine ⟨.inl rfl, _, rfl, ifB (fun h3 => ?_) (fun h3 => ?_)⟩
  · have h3 : y ≠ 0 := fun z => by
      subst z
      exact absurd h3 (by decide)
    have hy : 0 < y := Nat.pos_of_ne_zero h3
    have := Nat.mod_lt x hy
    exact ⟨by omega, rfl, y - 1, by omega, rfl, y, x % y, rfl, by rw [gcd_step]; exact h1, by omega⟩
  · have h4 : y = 0 := by
      have h5 : (!deq (.int (y : Int)) (.int 0)) = false := h3
      rw [Bool.not_eq_false'] at h5
      have := eqT h5
      omega
    subst h4
    rw [Nat.gcd_zero_right] at h1
    rw [← h1] at h
    exact h
def mLgcd : MSs := (.cons (.par [0, 1] (.cons (.bi .abs (.cons (.var 0) .nil)) (.cons (.bi .abs (.cons (.var 1) .nil)) .nil))) (.cons (.whil (.val (.cmp .Gt (.var 1) (.c (.int 0)))) (.cons (.par [0, 1] (.cons (.var 1) (.cons (.bin .Mod (.bi .int (.cons (.var 0) .nil)) (.var 1)) .nil))) .nil)) (.cons (.retv 0) .nil)))
def SpGcdZ (g : Gam) : Prop := ∀ (st : List D) (kk : KT2) (e : KX2) (a b : Int), kk (.v (.int (Nat.gcd a.natAbs b.natAbs : Nat))) st → g [.int a, .int b] st kk e
theorem abs_nat (a : Int) : (if a < 0 then -a else a) = (a.natAbs : Int) := by split <;> omega
theorem body_lgcd (Γ : Nat → Gam) : SpGcdZ (gBody 2 (wSs Γ mLgcd)) := by
  intro st kk e a b h
  refine ⟨rfl, fun m en s => s = st ∧ ∃ x y : Nat, en = [some (.v (.int x)), some (.v (.int y))] ∧ Nat.gcd x y = Nat.gcd a.natAbs b.natAbs ∧ y ≤ m, ⟨b.natAbs, rfl, a.natAbs, b.natAbs, ?_, rfl, Nat.le_refl _⟩, ?_⟩
  · show [some (T.v (D.int (if a < 0 then -a else a))), some (T.v (D.int (if b < 0 then -b else b)))] = _
    rw [abs_nat, abs_nat]
  rintro m en s ⟨rfl, x, y, rfl, h1, h2⟩
  refine ⟨_, rfl, ifB (fun h3 => ?_) (fun h3 => ?_)⟩
  · have hy : 0 < y := by have := of_decide_eq_true h3; omega
    have := Nat.mod_lt x hy
    exact ⟨by omega, rfl, y - 1, by omega, rfl, y, x % y, rfl, by rw [gcd_step]; exact h1, by omega⟩
  · have h4 : y = 0 := by have := of_decide_eq_false h3; omega
    subst h4
    rw [Nat.gcd_zero_right] at h1
    rw [← h1] at h
    exact h
theorem cdivN {a : Int} {j : Nat} (h : 0 < j) (h2 : j < 2 ^ 700) : CDivW a (j : Int) := ⟨by omega, Nat.lt_of_lt_of_le (log2_le (k := 700) (show (j : Int).natAbs < 2 ^ 700 by rw [Int.natAbs_natCast]; exact h2) (by decide)) (by decide)⟩
/-- lowest, _law_pair -/
def SpLow (g : Gam) : Prop := ∀ (st : List D) (kk : KT2) (e : KX2) (t : Int) (b : Nat), 0 < b → b < 2 ^ 700 → kk (.v (.tup [.int (t / (Nat.gcd t.natAbs b : Nat)), .int ((b / Nat.gcd t.natAbs b : Nat) : Int)])) st → g [.int t, .int b] st kk e
def mLow (q : Nat) : MSs := (.cons (.set 2 (.call q 2 0 (.cons (.bi .abs (.cons (.var 0) .nil)) (.cons (.var 1) .nil)) .nil)) (.cons (.ret (.tup (.cons (.bin .FloorDiv (.var 0) (.var 2)) (.cons (.bin .FloorDiv (.var 1) (.var 2)) .nil)))) .nil))
theorem body_low (Γ : Nat → Gam) (q : Nat) (hq : SpGcd (Γ q)) : SpLow (gBody 3 (wSs Γ (mLow q))) := by
  intro st kk e t b hb hb2 h
  have hg : 0 < Nat.gcd t.natAbs b := Nat.gcd_pos_of_pos_right _ hb
  have hl : Nat.gcd t.natAbs b ≤ b := Nat.gcd_le_right _ hb
  refine ⟨rfl, rfl, ?_⟩
  show Γ q [.int (if t < 0 then -t else t), .int b] _ _ _
  rw [abs_nat]
  exact hq _ _ _ _ _ ⟨cdivN hg (by omega), cdivN hg (by omega), szs rfl h⟩
def mPair (q : Nat) : MSs := (.cons (.set 2 (.call q 2 0 (.cons (.var 0) (.cons (.var 1) .nil)) .nil)) (.cons (.ret (.tup (.cons (.bin .FloorDiv (.var 0) (.var 2)) (.cons (.bin .FloorDiv (.var 1) (.var 2)) .nil)))) .nil))
theorem body_pair (Γ : Nat → Gam) (q : Nat) (hq : SpGcdZ (Γ q)) : SpLow (gBody 3 (wSs Γ (mPair q))) := by
  intro st kk e t b hb hb2 h
  have hg : 0 < Nat.gcd t.natAbs b := Nat.gcd_pos_of_pos_right _ hb
  have hl : Nat.gcd t.natAbs b ≤ b := Nat.gcd_le_right _ hb
  exact ⟨rfl, rfl, hq _ _ _ _ _ ⟨cdivN hg (by show Nat.gcd t.natAbs b < _; omega), cdivN hg (by show Nat.gcd t.natAbs b < _; omega), szs rfl h⟩⟩
/-! ### is_number, check_number -/
structure GoodN (a : Int) (b : Nat) : Prop where
  a0 : a ≠ 0
  a1 : a.natAbs ≤ 10 ^ 30
  b0 : 0 < b
  b1 : b ≤ 10 ^ 30
  co : Nat.gcd a.natAbs b = 1
def nD (a : Int) (b : Nat) : D := .tup [.int a, .int b]
def SpNum (g : Gam) : Prop := ∀ (st : List D) (kk : KT2) (e : KX2) (a : Int) (b : Nat), GoodN a b → kk (.v (.bl true)) st → g [nD a b] st kk e
def mNum (q r : Nat) : MSs := (.cons (.ifs (.or (.not (.val (.bi .isinstance (.cons (.var 0) (.cons (.c (.ty .tuple)) .nil))))) (.val (.cmp .NotEq (.bi .len (.cons (.var 0) .nil)) (.c (.int 2))))) (.cons (.ret (.c (.bl false))) .nil) .nil) (.cons (.ifs (.or (.not (.val (.call q 3 0 (.cons (.ix (.var 0) (.c (.int 0))) (.cons (.neg (.c (.int 1000000000000000000000000000000))) (.cons (.c (.int 1000000000000000000000000000000)) .nil))) .nil))) (.or (.val (.cmp .Eq (.ix (.var 0) (.c (.int 0))) (.c (.int 0)))) (.not (.val (.call q 3 0 (.cons (.ix (.var 0) (.c (.int 1))) (.cons (.c (.int 1)) (.cons (.c (.int 1000000000000000000000000000000)) .nil))) .nil))))) (.cons (.ret (.c (.bl false))) .nil) .nil) (.cons (.ret (.cmp .Eq (.call r 2 0 (.cons (.bi .abs (.cons (.ix (.var 0) (.c (.int 0))) .nil)) (.cons (.ix (.var 0) (.c (.int 1))) .nil)) .nil) (.c (.int 1)))) .nil)))
theorem body_num (Γ : Nat → Gam) (q r : Nat) (hq : SpBtw (Γ q)) (hr : SpGcd (Γ r)) : SpNum (gBody 1 (wSs Γ (mNum q r))) := by
  intro st kk e a b g h
  have p30 : (10 : Nat) ^ 30 = 1000000000000000000000000000000 := by decide
  refine ⟨rfl, _, rfl, ifN noF ⟨.inl rfl, _, rfl, ifN noF ?_⟩⟩
  refine ⟨_, rfl, _, rfl, rfl, rfl, hq _ _ _ _ _ _ ⟨_, rfl, ?_⟩⟩
  rw [decide_eq_true (show -1000000000000000000000000000000 ≤ a ∧ a ≤ 1000000000000000000000000000000 by have := g.a1; omega)]
  refine ifN noF ⟨_, rfl, .inl rfl, _, rfl, ifN (fun z => g.a0 (eqT z)) ⟨_, rfl, rfl, rfl, hq _ _ _ _ _ _ ⟨_, rfl, ?_⟩⟩⟩
  rw [decide_eq_true (show 1 ≤ (b : Int) ∧ (b : Int) ≤ 1000000000000000000000000000000 by have := g.b1; have := g.b0; omega)]
  refine ifN noF ⟨_, rfl, _, rfl, rfl, rfl, ?_⟩
  show Γ r [.int (if a < 0 then -a else a), .int b] _ _ _
  rw [abs_nat]
  refine hr _ _ _ _ _ ⟨.inl rfl, ?_⟩
  rw [g.co]
  exact h
def SpCkN (g : Gam) : Prop := ∀ (st : List D) (kk : KT2) (e : KX2) (a : Int) (b : Nat), GoodN a b → kk (.v .non) st → g [nD a b] st kk e
def mCkN (q : Nat) : MSs := (.cons (.ifs (.not (.val (.call q 1 0 (.cons (.var 0) .nil) .nil))) (.cons .never .nil) .nil) .nil)
theorem body_ckn (Γ : Nat → Gam) (q : Nat) (hq : SpNum (Γ q)) : SpCkN (gBody 1 (wSs Γ (mCkN q))) := fun st kk e a b g h => ⟨rfl, rfl, hq _ _ _ _ _ g ⟨_, rfl, ifN noF h⟩⟩
/-! ### raised -/
def SpRs (g : Gam) : Prop := ∀ (st : List D) (kk : KT2) (e : KX2) (x y n : Nat), x < 2 ^ 700 → y < 2 ^ 700 → n ≤ 700 → kk (.v (.tup [.int ((x ^ n : Nat) : Int), .int ((y ^ n : Nat) : Int)])) st → g [.tup [.int x, .int y], .int n] st kk e
def mRs (q : Nat) : MSs := (.cons (.ret (.tup (.cons (.call q 2 0 (.cons (.ix (.var 0) (.c (.int 0))) (.cons (.var 1) .nil)) .nil) (.cons (.call q 2 0 (.cons (.ix (.var 0) (.c (.int 1))) (.cons (.var 1) .nil)) .nil) .nil)))) .nil)
theorem body_rs (Γ : Nat → Gam) (q : Nat) (hq : SpPow (Γ q)) : SpRs (gBody 2 (wSs Γ (mRs q))) := fun st kk e x y n hx hy hn h =>
  ⟨_, rfl, rfl, rfl, hq _ _ _ x n hx hn ⟨_, rfl, rfl, rfl, hq _ _ _ y n hy hn (szs rfl h)⟩⟩
end Ev
set_option Elab.async false
set_option linter.all false
set_option autoImplicit false
set_option maxRecDepth 100000
set_option maxHeartbeats 0
set_option exponentiation.threshold 3000
/-! Ev, part X: base_and_exponent, base_for, root_for, four_for. -/
namespace Ev
open PySem PySem.Spec PyProof.Rows L2
def beD (x y n : Nat) : D := .tup [.tup [.int x, .int y], .int n]
def SpBe (g : Gam) : Prop := ∀ (st : List D) (kk : KT2) (e : KX2) (a b : Nat), 0 < a → 0 < b → a < 2 ^ 500 → b < 2 ^ 500 → (a = 1 → b = 1 → kk (.v (beD 1 1 0)) st) →
  (∀ x y n, ¬ (a = 1 ∧ b = 1) → Ge a b n → n ≤ 500 → x ^ n = a → y ^ n = b → kk (.v (beD x y n)) st) → g [.int a, .int b] st kk e
def mBe (q r : Nat) : MSs := (.cons (.ifs (.and (.val (.cmp .Eq (.var 0) (.c (.int 1)))) (.val (.cmp .Eq (.var 1) (.c (.int 1))))) (.cons (.ret (.tup (.cons (.tup (.cons (.c (.int 1)) (.cons (.c (.int 1)) .nil))) (.cons (.c (.int 0)) .nil)))) .nil) .nil) (.cons (.asg (.tup (.cons (.c (.int 1)) (.cons (.c (.int 4)) .nil))) (.tup 2 (.cons (.name 2) (.cons (.name 3) .nil)))) (.cons (.whil (.val (.cmp .LtE (.var 3) (.bi .max (.cons (.var 0) (.cons (.var 1) .nil))))) (.cons (.par [2, 3] (.cons (.bin .Add (.var 2) (.c (.int 1))) (.cons (.bin .Mult (.c (.int 2)) (.var 3)) .nil))) .nil)) (.cons (.whil (.or (.not (.val (.call q 2 0 (.cons (.var 0) (.cons (.var 2) .nil)) .nil))) (.not (.val (.call q 2 0 (.cons (.var 1) (.cons (.var 2) .nil)) .nil)))) (.cons (.dec 2 (.c (.int 1))) .nil)) (.cons (.ret (.tup (.cons (.tup (.cons (.call r 2 0 (.cons (.var 0) (.cons (.var 2) .nil)) .nil) (.cons (.call r 2 0 (.cons (.var 1) (.cons (.var 2) .nil)) .nil) .nil))) (.cons (.var 2) .nil)))) .nil)))))
theorem no_high {a b n w : Nat} (ha : 0 < a) (hb : 0 < b) (hne : ¬ (a = 1 ∧ b = 1)) (h : a < 2 ^ (w + 1) ∧ b < 2 ^ (w + 1)) (hn : 0 < n) (h1 : IsP a n) (h2 : IsP b n) : n ≤ w := by
  refine Nat.le_of_not_lt fun z => ?_
  have hp : 2 ^ (w + 1) ≤ 2 ^ n := Nat.pow_le_pow_right (by decide) z
  rcases Nat.lt_or_ge a 2 with y | y
  · have hb2 : 2 ≤ b := by omega
    have := h2.small hb2 hn
    omega
  · have := h1.small y hn
    omega
theorem body_be (Γ : Nat → Gam) (q r : Nat) (hq : SpIsP (Γ q)) (hr : SpWr (Γ r)) : SpBe (gBody 4 (wSs Γ (mBe q r))) := by
  intro st kk e a b ha hb la lb h1 h2
  have big : (2 : Nat) ^ 500 < 2 ^ 600 := by decide
  have tail : ¬ (a = 1 ∧ b = 1) → wSs Γ (.cons (.asg (.tup (.cons (.c (.int 1)) (.cons (.c (.int 4)) .nil))) (.tup 2 (.cons (.name 2) (.cons (.name 3) .nil)))) (.cons (.whil (.val (.cmp .LtE (.var 3) (.bi .max (.cons (.var 0) (.cons (.var 1) .nil))))) (.cons (.par [2, 3] (.cons (.bin .Add (.var 2) (.c (.int 1))) (.cons (.bin .Mult (.c (.int 2)) (.var 3)) .nil))) .nil)) (.cons (.whil (.or (.not (.val (.call q 2 0 (.cons (.var 0) (.cons (.var 2) .nil)) .nil))) (.not (.val (.call q 2 0 (.cons (.var 1) (.cons (.var 2) .nil)) .nil)))) (.cons (.dec 2 (.c (.int 1))) .nil)) (.cons (.ret (.tup (.cons (.tup (.cons (.call r 2 0 (.cons (.var 0) (.cons (.var 2) .nil)) .nil) (.cons (.call r 2 0 (.cons (.var 1) (.cons (.var 2) .nil)) .nil) .nil))) (.cons (.var 2) .nil)))) .nil)))) [some (.v (.int a)), some (.v (.int b)), none, none] st (endOf kk e) := by
    intro hne
    refine szs rfl ⟨rfl, rfl, ?_⟩
    refine ⟨fun m en s => s = st ∧ ∃ w : Nat, en = [some (.v (.int a)), some (.v (.int b)), some (.v (.int w)), some (.v (.int ((2 ^ (w + 1) : Nat) : Int)))] ∧ 1 ≤ w ∧ w ≤ 500 ∧ 501 - w ≤ m, ⟨_, rfl, 1, rfl, by decide, by decide, Nat.le_refl _⟩, ?_⟩
    rintro m en s ⟨rfl, w, rfl, w1, w2, w3⟩
    refine ⟨_, rfl, ifB (fun h0 => ?_) (fun h0 => ?_)⟩
    · have h0 : ((2 ^ (w + 1) : Nat) : Int) ≤ (if (b : Int) > (a : Int) then (b : Int) else (a : Int)) := of_decide_eq_true h0
      have h3 : 2 ^ (w + 1) < 2 ^ 500 := by split at h0 <;> omega
      have h4 : w + 1 < 500 := (Nat.pow_lt_pow_iff_right (by decide)).mp h3
      refine ⟨mul2, rfl, m - 1, by omega, rfl, w + 1, ?_, by omega, by omega, by omega⟩
      have e2 : 2 ^ (w + 1 + 1) = 2 * 2 ^ (w + 1) := by rw [Nat.pow_succ, Nat.mul_comm]
      rw [e2]
      rfl
    · have h0 : ¬ ((2 ^ (w + 1) : Nat) : Int) ≤ (if (b : Int) > (a : Int) then (b : Int) else (a : Int)) := of_decide_eq_false h0
      have h3 : a < 2 ^ (w + 1) ∧ b < 2 ^ (w + 1) := by split at h0 <;> omega
      refine ⟨fun m en s' => s' = s ∧ ∃ (v : Nat) (x : Option T), en = [some (.v (.int a)), some (.v (.int b)), some (.v (.int v)), x] ∧ 1 ≤ v ∧ v ≤ 500 ∧ (∀ n, 0 < n → IsP a n → IsP b n → n ≤ v) ∧ v ≤ m, ⟨_, rfl, w, _, rfl, w1, w2, fun n hn i1 i2 => no_high ha hb hne h3 hn i1 i2, Nat.le_refl _⟩, ?_⟩
      rintro m2 en s' ⟨rfl, v, x, rfl, v1, v2, v3, v4⟩
      have down : ¬ (IsP a v ∧ IsP b v) → ∃ b', D.int 1 = .int b' ∧ ∃ m', m' < m2 ∧ (s' = s' ∧ ∃ (v' : Nat) (x' : Option T), [some (T.v (.int (a : Int))), some (.v (.int b)), some (.v (.int ((v : Int) - b'))), x] = [some (.v (.int a)), some (.v (.int b)), some (.v (.int v')), x'] ∧ 1 ≤ v' ∧ v' ≤ 500 ∧ (∀ n, 0 < n → IsP a n → IsP b n → n ≤ v') ∧ v' ≤ m') := by
        intro no
        have hv : v ≠ 1 := fun z => no (by rw [z]; exact ⟨IsP.one a, IsP.one b⟩)
        refine ⟨1, rfl, m2 - 1, by omega, rfl, v - 1, x, ?_, by omega, by omega, fun n hn i1 i2 => ?_, by omega⟩
        · have e1 : ((v - 1 : Nat) : Int) = (v : Int) - 1 := by omega
          rw [e1]
        · have := v3 n hn i1 i2
          rcases Nat.lt_or_ge n v with z | z
          · omega
          · have : n = v := by omega
            subst this
            exact absurd ⟨i1, i2⟩ no
      refine ⟨rfl, rfl, hq _ _ _ a v (by omega) v1 (by omega) fun b1 hb1 => ⟨_, rfl, ifB (fun h5 => ?_) (fun h5 => ?_)⟩⟩
      · refine ifP rfl (down fun z => ?_)
        rw [hb1.mpr z.1] at h5
        cases h5
      · have p1 : IsP a v := hb1.mp (by simpa using h5)
        refine ⟨rfl, rfl, hq _ _ _ b v (by omega) v1 (by omega) fun b2 hb2 => ⟨_, rfl, ifB (fun h6 => ?_) (fun h6 => ?_)⟩⟩
        · refine down fun z => ?_
          rw [hb2.mpr z.2] at h6
          cases h6
        · have p2 : IsP b v := hb2.mp (by simpa using h6)
          have G : Ge a b v := ⟨by omega, p1, p2, v3⟩
          obtain ⟨x1, rfl⟩ := p1
          obtain ⟨y1, rfl⟩ := p2
          exact ⟨rfl, rfl, hr _ _ _ x1 v (by omega) v1 (by omega) ⟨rfl, rfl, hr _ _ _ y1 v (by omega) v1 (by omega) (szs rfl (szs rfl (h2 x1 y1 v hne G v2 rfl rfl)))⟩⟩
  refine ⟨.inl rfl, _, rfl, ifB (fun h3 => ?_) (fun h3 => ?_)⟩
  · have h3 := eqT h3
    refine ⟨.inl rfl, _, rfl, ifB (fun h4 => ?_) (fun h4 => ?_)⟩
    · have h4 := eqT h4
      exact szs rfl (szs rfl (h1 (by omega) (by omega)))
    · have h4 := eqF h4
      exact tail fun z => h4 (by omega)
  · have h3 := eqF h3
    exact ifN noF (tail fun z => h3 (by omega))
end Ev
set_option Elab.async false
set_option linter.all false
set_option autoImplicit false
set_option maxRecDepth 100000
set_option maxHeartbeats 0
set_option exponentiation.threshold 3000
/-! Ev, part Y: base_for, root_for, four_for; what may be shown by repr. -/
namespace Ev
open PySem PySem.Spec PyProof.Rows L2
def SpBf (g : Gam) : Prop := ∀ (st : List D) (kk : KT2) (e : KX2) (a : Int) (b : Nat), a ≠ 0 → 0 < b → a.natAbs < 2 ^ 500 → b < 2 ^ 500 → (a.natAbs = 1 → b = 1 → kk (.v (beD 1 1 0)) st) →
  (∀ x y n, ¬ (a.natAbs = 1 ∧ b = 1) → Ge a.natAbs b n → n ≤ 500 → x ^ n = a.natAbs → y ^ n = b → kk (.v (beD x y n)) st) → g [nD a b] st kk e
def mBf (q : Nat) : MSs := (.cons (.ret (.call q 2 0 (.cons (.bi .abs (.cons (.ix (.var 0) (.c (.int 0))) .nil)) (.cons (.ix (.var 0) (.c (.int 1))) .nil)) .nil)) .nil)
theorem body_bf (Γ : Nat → Gam) (q : Nat) (hq : SpBe (Γ q)) : SpBf (gBody 1 (wSs Γ (mBf q))) := by
  intro st kk e a b a0 b0 la lb h1 h2
  refine ⟨_, rfl, _, rfl, rfl, rfl, ?_⟩
  show Γ q [.int (if a < 0 then -a else a), .int b] _ _ _
  rw [abs_nat]
  exact hq _ _ _ _ _ (by omega) b0 la lb h1 h2
def rootD (a : Int) (x y : Nat) : D := .tup [.int (if 0 < a then (x : Int) else -(x : Int)), .int y]
def SpRf (g : Gam) : Prop := ∀ (st : List D) (kk : KT2) (e : KX2) (a : Int) (b n : Nat), a ≠ 0 → 0 < b → a.natAbs < 2 ^ 500 → b < 2 ^ 500 → 0 < n → n < 2 ^ 600 → (((a < 0 ∧ n % 2 = 0) ∨ ¬ (IsP a.natAbs n ∧ IsP b n)) → kk (.v .non) st) →
  (∀ x y, x ^ n = a.natAbs → y ^ n = b → ¬ (a < 0 ∧ n % 2 = 0) → kk (.v (rootD a x y)) st) → g [nD a b, .int n] st kk e
def mRf (q r : Nat) : MSs := (.cons (.asg (.call q 1 0 (.cons (.var 0) .nil) .nil) (.tup 2 (.cons (.name 2) (.cons (.name 3) .nil)))) (.cons (.ifs (.or (.val (.cmp .NotEq (.bin .Mod (.var 3) (.var 1)) (.c (.int 0)))) (.and (.val (.cmp .Lt (.ix (.var 0) (.c (.int 0))) (.c (.int 0)))) (.val (.cmp .Eq (.bin .Mod (.var 1) (.c (.int 2))) (.c (.int 0)))))) (.cons (.ret (.c .non)) .nil) .nil) (.cons (.set 4 (.call r 2 0 (.cons (.var 2) (.cons (.bin .FloorDiv (.var 3) (.var 1)) .nil)) .nil)) (.cons (.ret (.ite (.val (.cmp .Gt (.ix (.var 0) (.c (.int 0))) (.c (.int 0)))) (.var 4) (.tup (.cons (.neg (.ix (.var 4) (.c (.int 0)))) (.cons (.ix (.var 4) (.c (.int 1))) .nil))))) .nil))))
theorem neF {a b : Int} (h : (!deq (.int a) (.int b)) = false) : a = b := by rw [Bool.not_eq_false'] at h; exact eqT h
theorem neT {a b : Int} (h : (!deq (.int a) (.int b)) = true) : ¬ a = b := by rw [Bool.not_eq_true'] at h; exact eqF h
theorem body_rf (Γ : Nat → Gam) (q r : Nat) (hq : SpBf (Γ q)) (hr : SpRs (Γ r)) : SpRf (gBody 5 (wSs Γ (mRf q r))) := by
  intro st kk e a b n a0 b0 la lb n0 n1 h1 h2
  have big : (2 : Nat) ^ 500 < 2 ^ 700 := by decide
  have big2 : (2 : Nat) ^ 600 < 2 ^ 700 := by decide
  have tail : ∀ x y w : Nat, x < 2 ^ 700 → y < 2 ^ 700 → w ≤ 500 → x ^ w = a.natAbs → y ^ w = b → (n ∣ w ↔ IsP a.natAbs n ∧ IsP b n) → wSs Γ (.cons (.ifs (.or (.val (.cmp .NotEq (.bin .Mod (.var 3) (.var 1)) (.c (.int 0)))) (.and (.val (.cmp .Lt (.ix (.var 0) (.c (.int 0))) (.c (.int 0)))) (.val (.cmp .Eq (.bin .Mod (.var 1) (.c (.int 2))) (.c (.int 0)))))) (.cons (.ret (.c .non)) .nil) .nil) (.cons (.set 4 (.call r 2 0 (.cons (.var 2) (.cons (.bin .FloorDiv (.var 3) (.var 1)) .nil)) .nil)) (.cons (.ret (.ite (.val (.cmp .Gt (.ix (.var 0) (.c (.int 0))) (.c (.int 0)))) (.var 4) (.tup (.cons (.neg (.ix (.var 4) (.c (.int 0)))) (.cons (.ix (.var 4) (.c (.int 1))) .nil))))) .nil))) [some (.v (nD a b)), some (.v (.int n)), some (.v (.tup [.int x, .int y])), some (.v (.int w)), none] st (endOf kk e) := by
    intro x y w lx ly lw ex ey dv
    refine ⟨by omega, .inl rfl, _, rfl, ifB (fun h3 => ?_) (fun h3 => ?_)⟩
    · have h3 : ¬ ((w : Int) % (n : Int)) = 0 := neT h3
      exact h1 (.inr fun z => h3 (by obtain ⟨c, hc⟩ := dv.mpr z; rw [hc]; simp))
    · have h3 : ((w : Int) % (n : Int)) = 0 := neF h3
      have hd : n ∣ w := by
        have h4 : ((w % n : Nat) : Int) = 0 := h3
        exact Nat.dvd_of_mod_eq_zero (by omega)
      have go : ¬ (a < 0 ∧ n % 2 = 0) → wSs Γ (.cons (.set 4 (.call r 2 0 (.cons (.var 2) (.cons (.bin .FloorDiv (.var 3) (.var 1)) .nil)) .nil)) (.cons (.ret (.ite (.val (.cmp .Gt (.ix (.var 0) (.c (.int 0))) (.c (.int 0)))) (.var 4) (.tup (.cons (.neg (.ix (.var 4) (.c (.int 0)))) (.cons (.ix (.var 4) (.c (.int 1))) .nil))))) .nil)) [some (.v (nD a b)), some (.v (.int n)), some (.v (.tup [.int x, .int y])), some (.v (.int w)), none] st (endOf kk e) := by
        intro ne
        have hk := h2 (x ^ (w / n)) (y ^ (w / n)) (by rw [← Nat.pow_mul, Nat.div_mul_cancel hd]; exact ex) (by rw [← Nat.pow_mul, Nat.div_mul_cancel hd]; exact ey) ne
        refine ⟨cdivN n0 (by omega), rfl, rfl, hr _ _ _ x y (w / n) lx ly (by have := Nat.div_le_self w n; omega) ⟨_, rfl, _, rfl, ifB (fun h5 => ?_) (fun h5 => ?_)⟩⟩
        · have h5 : 0 < a := of_decide_eq_true h5
          unfold rootD at hk
          rw [if_pos h5] at hk
          exact hk
        · have h5 : ¬ 0 < a := of_decide_eq_false h5
          unfold rootD at hk
          rw [if_neg h5] at hk
          exact ⟨_, rfl, _, rfl, _, rfl, szs rfl hk⟩
      refine ⟨_, rfl, _, rfl, ifB (fun h4 => ?_) (fun h4 => ?_)⟩
      · have h4 : a < 0 := of_decide_eq_true h4
        refine ⟨by decide, .inl rfl, _, rfl, ifB (fun h5 => ?_) (fun h5 => ?_)⟩
        · have h5 : ((n : Int) % 2) = 0 := eqT h5
          exact h1 (.inl ⟨h4, by omega⟩)
        · have h5 : ¬ ((n : Int) % 2) = 0 := eqF h5
          exact go fun z => h5 (by omega)
      · have h4 : ¬ a < 0 := of_decide_eq_false h4
        exact ifN noF (go fun z => h4 z.1)
  refine ⟨rfl, rfl, hq _ _ _ a b a0 b0 la lb (fun z1 z2 => ⟨rfl, rfl, tail 1 1 0 (by decide) (by decide) (by decide) (by rw [z1]) (by rw [z2]) ?_⟩) (fun x y w ne G lw ex ey => ⟨rfl, rfl, tail x y w ?_ ?_ lw ex ey (G.dvd (by omega) b0 n0)⟩)⟩
  · rw [z1, z2]
    exact ⟨fun _ => ⟨⟨1, Nat.one_pow n⟩, ⟨1, Nat.one_pow n⟩⟩, fun _ => Nat.dvd_zero n⟩
  · have := le_pow (a := x) (p := w) G.pos
    omega
  · have := le_pow (a := y) (p := w) G.pos
    omega
/-! ### four_for -/
def ft (a : Int) (b : Nat) : Nat := a.natAbs / Nat.gcd a.natAbs (4 * b)
def fb (a : Int) (b : Nat) : Nat := 4 * b / Nat.gcd a.natAbs (4 * b)
def SpFr (g : Gam) : Prop := ∀ (st : List D) (kk : KT2) (e : KX2) (a : Int) (b : Nat), a ≠ 0 → 0 < b → a.natAbs < 2 ^ 400 → b < 2 ^ 400 → (0 < a → kk (.v .non) st) → (a < 0 → ¬ (IsP (ft a b) 4 ∧ IsP (fb a b) 4) → kk (.v .non) st) →
  (a < 0 → ∀ x y, x ^ 4 = ft a b → y ^ 4 = fb a b → kk (.v (.tup [.int (x : Nat), .int (y : Nat)])) st) → g [nD a b] st kk e
theorem f_pos {a : Int} {b : Nat} (a0 : a ≠ 0) (b0 : 0 < b) : 0 < ft a b ∧ 0 < fb a b ∧ ft a b ≤ a.natAbs ∧ fb a b ≤ 4 * b := by
  have h1 := Nat.gcd_dvd_left a.natAbs (4 * b)
  have h2 := Nat.gcd_dvd_right a.natAbs (4 * b)
  have hg : 0 < Nat.gcd a.natAbs (4 * b) := Nat.gcd_pos_of_pos_right _ (by omega)
  exact ⟨Nat.div_pos (Nat.le_of_dvd (by omega) h1) hg, Nat.div_pos (Nat.le_of_dvd (by omega) h2) hg, Nat.div_le_self _ _, Nat.div_le_self _ _⟩
def mFr (q r : Nat) : MSs := (.cons (.ret (.ite (.val (.cmp .Lt (.ix (.var 0) (.c (.int 0))) (.c (.int 0)))) (.call q 2 0 (.cons (.call r 2 0 (.cons (.neg (.ix (.var 0) (.c (.int 0)))) (.cons (.bin .Mult (.c (.int 4)) (.ix (.var 0) (.c (.int 1)))) .nil)) .nil) (.cons (.c (.int 4)) .nil)) .nil) (.c .non))) .nil)
theorem body_fr (Γ : Nat → Gam) (q r : Nat) (hq : SpRf (Γ q)) (hr : SpLow (Γ r)) : SpFr (gBody 1 (wSs Γ (mFr q r))) := by
  intro st kk e a b a0 b0 la lb h1 h2 h3
  have big : (2 : Nat) ^ 400 * 4 < 2 ^ 500 := by decide
  have big3 : (2 : Nat) ^ 400 * 4 < 2 ^ 700 := by decide
  refine ⟨_, rfl, _, rfl, ifB (fun h4 => ?_) (fun h4 => ?_)⟩
  · have h4 : a < 0 := of_decide_eq_true h4
    obtain ⟨f1, f2, f3, f4⟩ := f_pos a0 b0
    refine ⟨_, rfl, _, rfl, _, rfl, mulL (by decide), rfl, rfl, ?_⟩
    have ea : -a = ((a.natAbs : Nat) : Int) := by omega
    show Γ r [.int (-a), .int ((4 * b : Nat) : Int)] _ _ _
    rw [ea]
    refine hr _ _ _ _ (4 * b) (by omega) (by omega) ⟨rfl, rfl, ?_⟩
    have en : ((a.natAbs : Nat) : Int).natAbs = a.natAbs := Int.natAbs_natCast _
    rw [en]
    show Γ q [nD ((ft a b : Nat) : Int) (fb a b), .int ((4 : Nat) : Int)] _ _ _
    refine hq _ _ _ _ _ 4 (by omega) f2 (by rw [Int.natAbs_natCast]; omega) (by omega) (by decide) (by decide) (fun z => ?_) (fun x y ex ey _ => ?_)
    · rw [Int.natAbs_natCast] at z
      exact h2 h4 (z.resolve_left fun y => by omega)
    · rw [Int.natAbs_natCast] at ex
      have := h3 h4 x y ex ey
      unfold rootD
      rw [if_pos (by omega)]
      exact this
  · have h4 : ¬ a < 0 := of_decide_eq_false h4
    exact h1 (by omega)
/-! ### repr -/
mutual
def sm : D → Prop
  | .non => True
  | .bl _ => True
  | .int i => i.natAbs < 2 ^ 200
  | .tup xs => smL xs
  | .lst xs => smL xs
  | _ => False
def smL : List D → Prop
  | [] => True
  | x :: xs => sm x ∧ smL xs
end
mutual
def cnt : D → Nat
  | .tup xs => cntL xs
  | .lst xs => cntL xs
  | _ => 1
def cntL : List D → Nat
  | [] => 1
  | x :: xs => cnt x + cntL xs
end
structure SmP (p : PyData) (c : Nat) : Prop where
  sh : p.showable = true
  cl : p.canLay0 = true
  is : p.intsShort 1921 = true
  hd : p.hasDict = false
  wt : p.weight + 1 ≤ 300 * c
  dp : p.depth ≤ c
structure SmPL (p : List PyData) (c : Nat) : Prop where
  sh : PyData.showableAll p = true
  cl : PyData.canLayAll0 p = true
  is : PyData.intsShortAll 1921 p = true
  hd : PyData.hasDictAll p = false
  wt : PyData.weightAll p + 1 ≤ 300 * c
  dp : PyData.depthAll p + 1 ≤ c
theorem int_sm {i : Int} (h : i.natAbs < 2 ^ 200) : SmP (.int i) 1 := by
  have hl : i.natAbs.log2 < 200 := log2_le h (by decide)
  refine ⟨?_, ?_, ?_, ?_, ?_, ?_⟩
  · rw [PyData.showable]
    exact decide_eq_true (by omega)
  · rw [PyData.canLay0]
  · rw [PyData.intsShort, PyData.shown]
    exact decide_eq_true (int_text_len_1921 (by omega))
  · rw [PyData.hasDict]
  · rw [PyData.weight]
    split <;> omega
  · rw [PyData.depth]
    exact Nat.zero_le _
mutual
theorem sm_ok : ∀ d : D, sm d → ∃ p, dat d = some p ∧ SmP p (cnt d)
  | .non, _ => ⟨.none, by rw [dat], by rw [PyData.showable], by rw [PyData.canLay0], by rw [PyData.intsShort], by rw [PyData.hasDict], by rw [PyData.weight]; simp [cnt], by rw [PyData.depth]; exact Nat.zero_le _⟩
  | .bl b, _ => ⟨.bool b, by rw [dat], by rw [PyData.showable], by rw [PyData.canLay0], by rw [PyData.intsShort], by rw [PyData.hasDict], by rw [PyData.weight]; simp [cnt], by rw [PyData.depth]; exact Nat.zero_le _⟩
  | .int i, h => ⟨.int i, by rw [dat], int_sm (by simpa [sm] using h)⟩
  | .tup xs, h => by
    obtain ⟨p, h1, h2⟩ := smL_ok xs (by simpa [sm] using h)
    refine ⟨.tuple p, by rw [dat, h1]; rfl, by rw [PyData.showable]; exact h2.sh, by rw [PyData.canLay0]; exact h2.cl, by rw [PyData.intsShort]; exact h2.is, by rw [PyData.hasDict]; exact h2.hd, by rw [PyData.weight, cnt]; exact h2.wt, by rw [PyData.depth, cnt]; exact h2.dp⟩
  | .lst xs, h => by
    obtain ⟨p, h1, h2⟩ := smL_ok xs (by simpa [sm] using h)
    refine ⟨.list p, by rw [dat, h1]; rfl, by rw [PyData.showable]; exact h2.sh, by rw [PyData.canLay0]; exact h2.cl, by rw [PyData.intsShort]; exact h2.is, by rw [PyData.hasDict]; exact h2.hd, by rw [PyData.weight, cnt]; exact h2.wt, by rw [PyData.depth, cnt]; exact h2.dp⟩
  | .str _, h => by simp [sm] at h
  | .dct _, h => by simp [sm] at h
  | .box _, h => by simp [sm] at h
  | .obj _ _, h => by simp [sm] at h
  | .ty _, h => by simp [sm] at h
  | .cl _, h => by simp [sm] at h
  | .scr _, h => by simp [sm] at h
theorem smL_ok : ∀ d : List D, smL d → ∃ p, datL d = some p ∧ SmPL p (cntL d)
  | [], _ => ⟨[], by rw [datL], by rw [PyData.showableAll], by rw [PyData.canLayAll0], by rw [PyData.intsShortAll], by rw [PyData.hasDictAll], by rw [PyData.weightAll]; simp [cntL], by rw [PyData.depthAll]; simp [cntL]⟩
  | x :: xs, h => by
    have h' : sm x ∧ smL xs := by simpa [smL] using h
    obtain ⟨p, h1, h2⟩ := sm_ok x h'.1
    obtain ⟨ps, h3, h4⟩ := smL_ok xs h'.2
    have w1 := h2.wt
    have w2 := h4.wt
    have d1 := h2.dp
    have d2 := h4.dp
    refine ⟨p :: ps, by rw [datL, h1, h3], by rw [PyData.showableAll, h2.sh, h4.sh]; rfl, by rw [PyData.canLayAll0, h2.cl, h4.cl]; rfl, by rw [PyData.intsShortAll, h2.is, h4.is]; rfl, by rw [PyData.hasDictAll, h2.hd, h4.hd]; rfl, ?_, ?_⟩
    · rw [PyData.weightAll, cntL]
      omega
    · rw [PyData.depthAll, cntL]
      have : 1 ≤ cntL xs := by omega
      omega
end
theorem showB_of {p : PyData} (h : p.showable = true) : showB p = true := by
  cases p with
  | int i =>
    have z : i.natAbs.log2 < 1920 := of_decide_eq_true h
    exact decide_eq_true (Nat.lt_trans z (by decide))
  | _ => exact h
theorem okR {d : D} (h : sm d) (hc : cnt d ≤ 25) : okRepr d := by
  obtain ⟨p, h1, h2⟩ := sm_ok d h
  have w := h2.wt
  have dp := h2.dp
  refine ⟨p, h1, showB_of h2.sh, by omega, ?_, h2.hd⟩
  have q := PyData.shown_le 1921 (by decide) p (PyData.leavesShort_of_canLay0 1921 p h2.cl h2.is)
  rw [sizeLine_eq]
  have : (1921 + 2) * p.weight ≤ 1923 * 7500 := Nat.mul_le_mul_left 1923 (by omega)
  omega
end Ev
set_option Elab.async false
set_option linter.all false
set_option autoImplicit false
set_option maxRecDepth 100000
set_option maxHeartbeats 0
set_option exponentiation.threshold 3000
/-! Ev, part Z: what the first laws draw: jars, numbers. -/
namespace Ev
open PySem PySem.Spec PyProof.Rows L2
def JG (st : List D) (n : Nat) : Prop := ∃ a b g, st[n]? = some (keg a b g) ∧ 0 ≤ a
def Sm (n : Nat) (st st' : List D) : Prop := st = st' ∨ ∃ a b g, 0 ≤ a ∧ st' = st.set n (keg a b g)
theorem Sm.refl {n : Nat} {a : List D} : Sm n a a := .inl rfl
theorem Sm.trans {n : Nat} {a b c : List D} (h : Sm n a b) (h' : Sm n b c) : Sm n a c := by
  rcases h with rfl | ⟨x, y, z, h1, rfl⟩
  · exact h'
  · rcases h' with rfl | ⟨x', y', z', h2, rfl⟩
    · exact .inr ⟨x, y, z, h1, rfl⟩
    · exact .inr ⟨x', y', z', h2, by rw [List.set_set]⟩
theorem Sm.jg {n : Nat} {a b : List D} (h : Sm n a b) (k : JG a n) : JG b n := by
  rcases h with rfl | ⟨x, y, z, h1, rfl⟩
  · exact k
  · obtain ⟨_, _, _, q, _⟩ := k
    exact ⟨x, y, z, List.getElem?_set_self (List.getElem?_eq_some_iff.mp q).1, h1⟩
def SpDip (g : Gam) : Prop := ∀ (st : List D) (kk : KT2) (e : KX2) (n : Nat) (c : Int), JG st n → 0 < c → c < 2 ^ 64 → (∀ d st', 0 ≤ d → d < c → Sm n st st' → kk (.v (.int d)) st') → g [.box n, .int c] st kk e
def mDip : MSs := (.cons (.asg (.bin .Add (.ix (.var 0) (.c (.int 2))) (.c (.int 1))) (.sub 0 (.c (.int 2)))) (.cons (.ifs (.val (.cmp .Gt (.ix (.var 0) (.c (.int 0))) (.c (.int 0)))) (.cons (.asg (.bi .divmod (.cons (.ix (.var 0) (.c (.int 0))) (.cons (.var 1) .nil))) (.tup 2 (.cons (.sub 0 (.c (.int 0))) (.cons (.name 2) .nil)))) (.cons (.retv 2) .nil)) .nil) (.cons (.asg (.bin .Mod (.bi .int (.cons (.bin .Add (.bin .Mult (.ix (.var 0) (.c (.int 1))) (.c (.int 48271))) (.bin .Mult (.c (.int 70019)) (.ix (.var 0) (.c (.int 2))))) .nil)) (.c (.int 2147483399))) (.sub 0 (.c (.int 1)))) (.cons (.ret (.bin .Mod (.bi .int (.cons (.bin .FloorDiv (.ix (.var 0) (.c (.int 1))) (.c (.int 512))) .nil)) (.var 1))) .nil))))
theorem body_dip (Γ : Nat → Gam) : SpDip (gBody 3 (wSs Γ mDip)) := by
  intro st kk e n c ⟨a, b, g, hn, ha⟩ hc hc2 h
  have hl : n < st.length := (List.getElem?_eq_some_iff.mp hn).1
  have gs : ∀ {s : List D} {x : D}, n < s.length → (s.set n x)[n]? = some x := fun h => List.getElem?_set_self h
  have l1 : ∀ {x : D}, n < (st.set n x).length := fun {x} => by rw [List.length_set]; exact hl
  refine ⟨_, _, hn, rfl, _, _, hn, rfl, ?_⟩
  refine ⟨_, _, gs hl, rfl, _, rfl, ifB (fun h0 => ?_) (fun h0 => ?_)⟩
  · refine ⟨_, _, gs hl, rfl, cdiv hc hc2, rfl, _, _, gs hl, rfl, rfl, ?_⟩
    exact kset2 (kk := kk _) (h _ _ (Int.emod_nonneg _ (by omega)) (Int.emod_lt_of_pos _ hc) (.inr ⟨_, _, _, Int.ediv_nonneg ha (by omega), rfl⟩))
  · refine ⟨_, _, gs hl, rfl, mulR (by decide), _, _, gs hl, rfl, mulL (by decide), by decide, _, _, gs hl, rfl, ?_⟩
    refine ⟨_, _, gs l1, rfl, cdiv (by decide) (by decide), hc, ?_⟩
    exact kset2 (kk := kk _) (h _ _ (Int.emod_nonneg _ (by omega)) (Int.emod_lt_of_pos _ hc) (.inr ⟨_, _, _, ha, rfl⟩))
def SpOne (g : Gam) : Prop := ∀ (st : List D) (kk : KT2) (e : KX2) (n : Nat) (xs : List D), JG st n → Nat.ble 1 xs.length = true → Nat.ble xs.length 1000 = true → (∀ d st', d ∈ xs → Sm n st st' → kk (.v d) st') → g [.box n, .lst xs] st kk e
def mOne (q : Nat) : MSs := (.cons (.ret (.ix (.var 1) (.call q 2 0 (.cons (.var 0) (.cons (.bi .len (.cons (.var 1) .nil)) .nil)) .nil))) .nil)
theorem body_one (Γ : Nat → Gam) (q : Nat) (hq : SpDip (Γ q)) : SpOne (gBody 2 (wSs Γ (mOne q))) := by
  intro st kk e n xs g h1 h2 h
  have h1 := Nat.le_of_ble_eq_true h1
  have h2 := Nat.le_of_ble_eq_true h2
  refine ⟨rfl, rfl, hq _ _ _ _ _ g (by omega) (by omega) fun i st' i1 i2 s1 => ?_⟩
  obtain ⟨x, hx, ex⟩ := atI_ok i1 i2
  exact ⟨x, ex, h x st' hx s1⟩
/-! ### in lowest terms -/
structure Lowd (t : Int) (b : Nat) (x : Int) (y : Nat) : Prop where
  x0 : x ≠ 0
  y0 : 0 < y
  co : Nat.gcd x.natAbs y = 1
  xl : x.natAbs ≤ t.natAbs
  yl : y ≤ b
theorem lowd {t : Int} {b : Nat} (t0 : t ≠ 0) (b0 : 0 < b) : Lowd t b (t / (Nat.gcd t.natAbs b : Nat)) (b / Nat.gcd t.natAbs b) := by
  have hg : 0 < Nat.gcd t.natAbs b := Nat.gcd_pos_of_pos_right _ b0
  obtain ⟨c, hc⟩ := Int.ofNat_dvd_left.mpr (Nat.gcd_dvd_left t.natAbs b)
  have e1 : t / ((Nat.gcd t.natAbs b : Nat) : Int) = c := by
    exact Int.ediv_eq_of_eq_mul_right (by omega) hc
  have e2 : c.natAbs = t.natAbs / Nat.gcd t.natAbs b := by
    have z := congrArg Int.natAbs hc
    rw [Int.natAbs_mul, Int.natAbs_natCast] at z
    exact (Nat.div_eq_of_eq_mul_right hg z).symm
  refine ⟨?_, Nat.div_pos (Nat.gcd_le_right _ b0) hg, ?_, ?_, Nat.div_le_self _ _⟩
  · rw [e1]
    intro z
    rw [z, Int.mul_zero] at hc
    exact t0 hc
  · rw [e1, e2]
    exact Nat.coprime_div_gcd_div_gcd hg
  · rw [e1, e2]
    exact Nat.div_le_self _ _
def SpPlain (g : Gam) : Prop := ∀ (st : List D) (kk : KT2) (e : KX2) (n : Nat), JG st n → (∀ (x y : Nat) st', 0 < x → x ≤ 9 → 0 < y → y ≤ 9 → Nat.gcd x y = 1 → Sm n st st' → kk (.v (.tup [.int x, .int y])) st') → g [.box n] st kk e
def mPlain (q r pp : Nat) : MSs := (.cons (.ret (.call pp 2 0 (.cons (.bin .Add (.c (.int 1)) (.call q 2 0 (.cons (.var 0) (.cons (.c (.int 9)) .nil)) .nil)) (.cons (.call r 2 0 (.cons (.var 0) (.cons (.lst (.cons (.c (.int 1)) (.cons (.c (.int 1)) (.cons (.c (.int 1)) (.cons (.c (.int 2)) (.cons (.c (.int 3)) (.cons (.c (.int 4)) (.cons (.bin .Add (.c (.int 1)) (.call q 2 0 (.cons (.var 0) (.cons (.c (.int 9)) .nil)) .nil)) .nil)))))))) .nil)) .nil) .nil)) .nil)) .nil)
theorem body_plain (Γ : Nat → Gam) (q r pp : Nat) (hq : SpDip (Γ q)) (hr : SpOne (Γ r)) (hp : SpLow (Γ pp)) : SpPlain (gBody 1 (wSs Γ (mPlain q r pp))) := by
  intro st kk e n g h
  refine ⟨rfl, rfl, hq _ _ _ _ _ g (by decide) (by decide) fun d s1 d1 d2 m1 => ?_⟩
  refine ⟨rfl, rfl, hq _ _ _ _ _ (m1.jg g) (by decide) (by decide) fun d' s2 d3 d4 m2 => szs rfl ?_⟩
  refine ⟨rfl, rfl, hr _ _ _ _ _ ((m1.trans m2).jg g) rfl rfl fun x s3 hx m3 => ?_⟩
  have hb : ∃ b : Nat, x = .int (b : Int) ∧ 0 < b ∧ b ≤ 9 := by
    simp only [List.mem_cons, List.not_mem_nil, or_false] at hx
    rcases hx with z | z | z | z | z | z | z
    · exact ⟨1, z, by decide, by decide⟩
    · exact ⟨1, z, by decide, by decide⟩
    · exact ⟨1, z, by decide, by decide⟩
    · exact ⟨2, z, by decide, by decide⟩
    · exact ⟨3, z, by decide, by decide⟩
    · exact ⟨4, z, by decide, by decide⟩
    · refine ⟨(1 + d').toNat, ?_, by omega, by omega⟩
      rw [z, Int.toNat_of_nonneg (by omega)]
      rfl
  obtain ⟨b, rfl, b0, b9⟩ := hb
  have L := lowd (t := 1 + d) (b := b) (by omega) b0
  have big : (9 : Nat) < 2 ^ 700 := by decide
  refine ⟨rfl, rfl, hp _ _ _ (1 + d) b b0 (by omega) ?_⟩
  have xp : 0 ≤ (1 + d) / ((Nat.gcd (1 + d).natAbs b : Nat) : Int) := Int.ediv_nonneg (by omega) (by omega)
  obtain ⟨u, hu⟩ := Int.eq_ofNat_of_zero_le xp
  have h1 := L.x0
  have h2 := L.xl
  have h3 := L.co
  rw [hu] at h1 h2 h3 ⊢
  rw [Int.natAbs_natCast] at h2 h3
  exact h u _ s3 (by omega) (by omega) L.y0 (Nat.le_trans L.yl b9) h3 (m1.trans (m2.trans m3))
end Ev
set_option Elab.async false
set_option linter.all false
set_option autoImplicit false
set_option maxRecDepth 100000
set_option maxHeartbeats 0
set_option exponentiation.threshold 3000
/-! Ev, part Zb: numbers that the first laws draw. -/
namespace Ev
open PySem PySem.Spec PyProof.Rows L2
abbrev pw (n : Int) : Int := (10 : Int) ^ n.toNat
theorem pk {n : Int} (h : 0 ≤ n ∧ n ≤ 1000000) : 0 ≤ n ∧ n ≤ 1000000 ∧ (10 : Int).natAbs < 2 ^ 64 := ⟨h.1, h.2, by decide⟩
def SpGreat (g : Gam) : Prop := ∀ (st : List D) (kk : KT2) (e : KX2) (n : Nat), JG st n → (∀ (v : Nat) st', 0 < v → v ≤ 10 ^ 30 → Sm n st st' → kk (.v (.int (v : Int))) st') → g [.box n] st kk e
def mGreat (q r : Nat) : MSs := (.cons (.set 1 (.bin .Add (.bin .Add (.bin .Add (.c (.int 1)) (.bin .Mult (.call q 2 0 (.cons (.var 0) (.cons (.bin .Pow (.c (.int 10)) (.c (.int 9))) .nil)) .nil) (.bin .Pow (.c (.int 10)) (.c (.int 20))))) (.bin .Mult (.call q 2 0 (.cons (.var 0) (.cons (.bin .Pow (.c (.int 10)) (.c (.int 9))) .nil)) .nil) (.bin .Pow (.c (.int 10)) (.c (.int 10))))) (.call q 2 0 (.cons (.var 0) (.cons (.bin .Pow (.c (.int 10)) (.c (.int 9))) .nil)) .nil))) (.cons (.ret (.call r 2 0 (.cons (.var 0) (.cons (.lst (.cons (.var 1) (.cons (.bin .Add (.c (.int 1)) (.call q 2 0 (.cons (.var 0) (.cons (.c (.int 12)) .nil)) .nil)) (.cons (.bin .Add (.c (.int 1)) (.call q 2 0 (.cons (.var 0) (.cons (.c (.int 2000)) .nil)) .nil)) (.cons (.bin .Pow (.c (.int 10)) (.c (.int 30))) (.cons (.bin .Add (.c (.int 1)) (.call q 2 0 (.cons (.var 0) (.cons (.c (.int 9)) .nil)) .nil)) .nil)))))) .nil)) .nil)) .nil))
theorem body_great (Γ : Nat → Gam) (q r : Nat) (hq : SpDip (Γ q)) (hr : SpOne (Γ r)) : SpGreat (gBody 2 (wSs Γ (mGreat q r))) := by
  intro st kk e n g h
  refine ⟨pk (by decide), rfl, rfl, hq _ _ _ _ _ g (by decide) (by decide) fun d1 s1 a1 b1 m1 => ⟨pk (by decide), mulL (by have b1 : d1 < 1000000000 := b1; omega), ?_⟩⟩
  refine ⟨pk (by decide), rfl, rfl, hq _ _ _ _ _ (m1.jg g) (by decide) (by decide) fun d2 s2 a2 b2 m2 => ⟨pk (by decide), mulL (by have b2 : d2 < 1000000000 := b2; omega), ?_⟩⟩
  refine ⟨pk (by decide), rfl, rfl, hq _ _ _ _ _ ((m1.trans m2).jg g) (by decide) (by decide) fun d3 s3 a3 b3 m3 => ?_⟩
  refine ⟨rfl, rfl, hq _ _ _ _ _ ((m1.trans (m2.trans m3)).jg g) (by decide) (by decide) fun d4 s4 a4 b4 m4 => ?_⟩
  refine ⟨rfl, rfl, hq _ _ _ _ _ ((m1.trans (m2.trans (m3.trans m4))).jg g) (by decide) (by decide) fun d5 s5 a5 b5 m5 => ⟨pk (by decide), ?_⟩⟩
  refine ⟨rfl, rfl, hq _ _ _ _ _ ((m1.trans (m2.trans (m3.trans (m4.trans m5)))).jg g) (by decide) (by decide) fun d6 s6 a6 b6 m6 => szs rfl ?_⟩
  have M := m1.trans (m2.trans (m3.trans (m4.trans (m5.trans m6))))
  refine ⟨rfl, rfl, hr _ _ _ _ _ (M.jg g) rfl rfl fun x s7 hx m7 => ?_⟩
  have b1 : d1 < 1000000000 := b1
  have b2 : d2 < 1000000000 := b2
  have b3 : d3 < 1000000000 := b3
  have p30 : (10 : Nat) ^ 30 = 1000000000000000000000000000000 := by decide
  have hv : ∃ v : Int, x = .int v ∧ 0 < v ∧ v ≤ 1000000000000000000000000000000 := by
    simp only [List.mem_cons, List.not_mem_nil, or_false] at hx
    rcases hx with z | z | z | z | z
    · refine ⟨1 + d1 * 100000000000000000000 + d2 * 10000000000 + d3, z, by omega, by omega⟩
    · exact ⟨1 + d4, z, by omega, by omega⟩
    · exact ⟨1 + d5, z, by omega, by omega⟩
    · exact ⟨1000000000000000000000000000000, z, by omega, by omega⟩
    · exact ⟨1 + d6, z, by omega, by omega⟩
  obtain ⟨v, rfl, v0, v1⟩ := hv
  obtain ⟨u, rfl⟩ := Int.eq_ofNat_of_zero_le (Int.le_of_lt v0)
  exact h u s7 (by omega) (by omega) (M.trans m7)
/-! ### numbers -/
structure RawN (a : Int) (b : Nat) : Prop where
  a0 : a ≠ 0
  b0 : 0 < b
  co : Nat.gcd a.natAbs b = 1
def SpNumb (g : Gam) : Prop := ∀ (st : List D) (kk : KT2) (e : KX2) (n : Nat), JG st n → (∀ (a : Int) (b : Nat) st', RawN a b → Sm n st st' → kk (.v (nD a b)) st') → g [.box n] st kk e
def mNumb (q r rs pl pp pw gr : Nat) : MSs := (.cons (.par [1, 2] (.cons (.call q 2 0 (.cons (.var 0) (.cons (.c (.int 7)) .nil)) .nil) (.cons (.call r 2 0 (.cons (.var 0) (.cons (.lst (.cons (.c (.int 1)) (.cons (.c (.int 1)) (.cons (.neg (.c (.int 1))) .nil)))) .nil)) .nil) .nil))) (.cons (.ifs (.val (.cmp .Lt (.var 1) (.c (.int 4)))) (.cons (.set 3 (.call rs 2 0 (.cons (.call pl 1 0 (.cons (.var 0) .nil) .nil) (.cons (.call r 2 0 (.cons (.var 0) (.cons (.lst (.cons (.c (.int 1)) (.cons (.c (.int 2)) (.cons (.c (.int 3)) (.cons (.c (.int 4)) (.cons (.c (.int 5)) (.cons (.c (.int 6)) (.cons (.c (.int 6)) (.cons (.c (.int 7)) (.cons (.c (.int 8)) (.cons (.c (.int 9)) (.cons (.c (.int 10)) (.cons (.c (.int 12)) (.cons (.c (.int 15)) (.cons (.c (.int 30)) .nil))))))))))))))) .nil)) .nil) .nil)) .nil)) (.cons (.ret (.tup (.cons (.bin .Mult (.var 2) (.ix (.var 3) (.c (.int 0)))) (.cons (.ix (.var 3) (.c (.int 1))) .nil)))) .nil)) .nil) (.cons (.ifs (.val (.cmp .Eq (.var 1) (.c (.int 4)))) (.cons (.set 3 (.call rs 2 0 (.cons (.call pl 1 0 (.cons (.var 0) .nil) .nil) (.cons (.call r 2 0 (.cons (.var 0) (.cons (.lst (.cons (.c (.int 1)) (.cons (.c (.int 1)) (.cons (.c (.int 3)) (.cons (.c (.int 5)) .nil))))) .nil)) .nil) .nil)) .nil)) (.cons (.ret (.call pp 2 0 (.cons (.bin .Mult (.neg (.c (.int 4))) (.call pw 2 0 (.cons (.ix (.var 3) (.c (.int 0))) (.cons (.c (.int 4)) .nil)) .nil)) (.cons (.call pw 2 0 (.cons (.ix (.var 3) (.c (.int 1))) (.cons (.c (.int 4)) .nil)) .nil) .nil)) .nil)) .nil)) .nil) (.cons (.ifs (.val (.cmp .Eq (.var 1) (.c (.int 5)))) (.cons (.ret (.call r 2 0 (.cons (.var 0) (.cons (.lst (.cons (.tup (.cons (.c (.int 1)) (.cons (.c (.int 1)) .nil))) (.cons (.tup (.cons (.neg (.c (.int 1))) (.cons (.c (.int 1)) .nil))) (.cons (.tup (.cons (.c (.int 2)) (.cons (.c (.int 1)) .nil))) (.cons (.tup (.cons (.neg (.c (.int 4))) (.cons (.c (.int 1)) .nil))) (.cons (.tup (.cons (.neg (.c (.int 1))) (.cons (.c (.int 4)) .nil))) (.cons (.tup (.cons (.neg (.c (.int 64))) (.cons (.c (.int 1)) .nil))) (.cons (.tup (.cons (.c (.int 64)) (.cons (.c (.int 729)) .nil))) (.cons (.tup (.cons (.c (.int 1)) (.cons (.c (.int 2)) .nil))) (.cons (.tup (.cons (.neg (.c (.int 27))) (.cons (.c (.int 8)) .nil))) .nil)))))))))) .nil)) .nil)) .nil) .nil) (.cons (.ret (.call pp 2 0 (.cons (.bin .Mult (.var 2) (.call gr 1 0 (.cons (.var 0) .nil) .nil)) (.cons (.call gr 1 0 (.cons (.var 0) .nil) .nil) .nil)) .nil)) .nil)))))
theorem pick_le {xs : List Nat} {k : Nat} (hk : xs.all (fun x => Nat.ble x k) = true) {d : D} (h : d ∈ xs.map fun x : Nat => D.int (x : Int)) : ∃ n : Nat, d = .int (n : Int) ∧ n ≤ k := by
  obtain ⟨x, hx, rfl⟩ := List.mem_map.mp h
  exact ⟨x, rfl, Nat.le_of_ble_eq_true (List.all_eq_true.mp hk x hx)⟩
theorem co_pow {x y n : Nat} (h : Nat.gcd x y = 1) : Nat.gcd (x ^ n) (y ^ n) = 1 := Nat.Coprime.pow n n h
def fives : List (Int × Nat) := [(1, 1), (-1, 1), (2, 1), (-4, 1), (-1, 4), (-64, 1), (64, 729), (1, 2), (-27, 8)]
def rawB (p : Int × Nat) : Bool := decide (p.1 ≠ 0) && (decide (0 < p.2) && decide (Nat.gcd p.1.natAbs p.2 = 1))
theorem rawB_ok {p : Int × Nat} (h : rawB p = true) : RawN p.1 p.2 := by
  simp only [rawB, Bool.and_eq_true, decide_eq_true_eq] at h
  exact ⟨h.1, h.2.1, h.2.2⟩
theorem body_numb (Γ : Nat → Gam) (q r rs pl pp pw gr : Nat) (hq : SpDip (Γ q)) (hr : SpOne (Γ r)) (hrs : SpRs (Γ rs)) (hpl : SpPlain (Γ pl)) (hpp : SpLow (Γ pp)) (hpw : SpPow (Γ pw)) (hgr : SpGreat (Γ gr)) : SpNumb (gBody 4 (wSs Γ (mNumb q r rs pl pp pw gr))) := by
  intro st kk e n g h
  have big9 : (9 : Nat) < 2 ^ 700 := by decide
  refine ⟨rfl, rfl, hq _ _ _ _ _ g (by decide) (by decide) fun way s1 a1 b1 m1 => ⟨_, rfl, szs rfl ?_⟩⟩
  refine ⟨rfl, rfl, hr _ _ _ _ _ (m1.jg g) rfl rfl fun sg s2 hsg m2 => ⟨rfl, ?_⟩⟩
  have hs : ∃ s : Int, sg = .int s ∧ (s = 1 ∨ s = -1) := by
    simp only [List.mem_cons, List.not_mem_nil, or_false] at hsg
    rcases hsg with z | z | z
    · exact ⟨1, z, .inl rfl⟩
    · exact ⟨1, z, .inl rfl⟩
    · exact ⟨-1, z, .inr rfl⟩
  obtain ⟨s, rfl, hs⟩ := hs
  have M2 := m1.trans m2
  refine ⟨_, rfl, ifB (fun w1 => ?_) (fun w1 => ?_)⟩
  · refine ⟨rfl, rfl, hpl _ _ _ _ (M2.jg g) fun x y s3 x0 x9 y0 y9 co m3 => szs rfl ?_⟩
    refine ⟨rfl, rfl, hr _ _ _ _ _ ((M2.trans m3).jg g) rfl rfl fun d s4 hd m4 => ?_⟩
    obtain ⟨k, rfl, hk⟩ := pick_le (xs := [1, 2, 3, 4, 5, 6, 6, 7, 8, 9, 10, 12, 15, 30]) (k := 30) rfl hd
    refine ⟨rfl, rfl, hrs _ _ _ x y k (by omega) (by omega) (by omega) ?_⟩
    refine ⟨_, rfl, mulL (by omega), _, rfl, szs rfl ?_⟩
    have xp : 0 < x ^ k := Nat.pow_pos x0
    refine h (s * ((x ^ k : Nat) : Int)) (y ^ k) s4 ⟨?_, Nat.pow_pos y0, ?_⟩ (M2.trans (m3.trans m4))
    · rcases hs with z | z <;> subst z <;> omega
    · have e1 : (s * ((x ^ k : Nat) : Int)).natAbs = x ^ k := by rcases hs with z | z <;> subst z <;> omega
      rw [e1]
      exact co_pow co
  · refine ⟨.inl rfl, _, rfl, ifB (fun w2 => ?_) (fun w2 => ?_)⟩
    · refine ⟨rfl, rfl, hpl _ _ _ _ (M2.jg g) fun x y s3 x0 x9 y0 y9 co m3 => szs rfl ?_⟩
      refine ⟨rfl, rfl, hr _ _ _ _ _ ((M2.trans m3).jg g) rfl rfl fun d s4 hd m4 => ?_⟩
      obtain ⟨k, rfl, hk⟩ := pick_le (xs := [1, 1, 3, 5]) (k := 5) rfl hd
      have lx : x ^ k ≤ 9 ^ 5 := Nat.le_trans (Nat.pow_le_pow_left x9 k) (Nat.pow_le_pow_right (by decide) hk)
      have ly : y ^ k ≤ 9 ^ 5 := Nat.le_trans (Nat.pow_le_pow_left y9 k) (Nat.pow_le_pow_right (by decide) hk)
      have b5 : (9 : Nat) ^ 5 < 2 ^ 700 := by decide
      have b54 : ((9 : Nat) ^ 5) ^ 4 < 2 ^ 700 := by decide
      have ly4 : (y ^ k) ^ 4 ≤ (9 ^ 5) ^ 4 := Nat.pow_le_pow_left ly 4
      have xp : 0 < (x ^ k) ^ 4 := Nat.pow_pos (Nat.pow_pos x0)
      refine ⟨rfl, rfl, hrs _ _ _ x y k (by omega) (by omega) (by omega) ?_⟩
      refine ⟨_, rfl, _, rfl, rfl, rfl, hpw _ _ _ (x ^ k) 4 (by omega) (by decide) ⟨mulL (by decide), _, rfl, rfl, rfl, hpw _ _ _ (y ^ k) 4 (by omega) (by decide) ?_⟩⟩
      have L := lowd (t := -4 * (((x ^ k) ^ 4 : Nat) : Int)) (b := (y ^ k) ^ 4) (by omega) (Nat.pow_pos (Nat.pow_pos y0))
      exact ⟨rfl, rfl, hpp _ _ _ _ _ (Nat.pow_pos (Nat.pow_pos y0)) (by omega) (h _ _ s4 ⟨L.x0, L.y0, L.co⟩ (M2.trans (m3.trans m4)))⟩
    · refine ⟨.inl rfl, _, rfl, ifB (fun w3 => ?_) (fun w3 => ?_)⟩
      · repeat (first | refine szs rfl ?_ | refine ⟨_, rfl, szs rfl ?_⟩)
        refine ⟨rfl, rfl, hr _ _ _ _ (fives.map fun p : Int × Nat => nD p.1 p.2) (M2.jg g) rfl rfl fun d s4 hd m4 => ?_⟩
        obtain ⟨p, hp, rfl⟩ := List.mem_map.mp hd
        exact h _ _ s4 (rawB_ok (List.all_eq_true.mp (show fives.all rawB = true by decide +kernel) p hp)) (M2.trans m4)
      · refine ⟨rfl, rfl, hgr _ _ _ _ (M2.jg g) fun v s3 v0 v1 m3 => ⟨mulL (by omega), rfl, rfl, hgr _ _ _ _ ((M2.trans m3).jg g) fun w s4 w0 w1 m4 => ?_⟩⟩
        have b30 : (10 : Nat) ^ 30 < 2 ^ 700 := by decide
        have L := lowd (t := s * (v : Int)) (b := w) (by rcases hs with z | z <;> subst z <;> omega) w0
        exact ⟨rfl, rfl, hpp _ _ _ _ _ w0 (by omega) (h _ _ s4 ⟨L.x0, L.y0, L.co⟩ (M2.trans (m3.trans m4)))⟩
end Ev
set_option Elab.async false
set_option linter.all false
set_option autoImplicit false
set_option maxRecDepth 100000
set_option maxHeartbeats 0
set_option exponentiation.threshold 3000
/-! Ev, part Zc: numbers kept, jars, the law's own bases and fours. -/
namespace Ev
open PySem PySem.Spec PyProof.Rows L2
def SpKept (g : Gam) : Prop := ∀ (st : List D) (kk : KT2) (e : KX2) (n : Nat), JG st n → (∀ (a : Int) (b : Nat) st', GoodN a b → Sm n st st' → kk (.v (nD a b)) st') → g [.box n] st kk e
def mKept (nb r : Nat) : MSs := (.cons (.set 1 (.call nb 1 0 (.cons (.var 0) .nil) .nil)) (.cons (.ifs (.and (.val (.cmp .LtE (.bi .abs (.cons (.ix (.var 1) (.c (.int 0))) .nil)) (.bin .Pow (.c (.int 10)) (.c (.int 30))))) (.val (.cmp .LtE (.ix (.var 1) (.c (.int 1))) (.bin .Pow (.c (.int 10)) (.c (.int 30)))))) (.cons (.retv 1) .nil) .nil) (.cons (.ret (.call r 2 0 (.cons (.var 0) (.cons (.lst (.cons (.tup (.cons (.c (.int 8)) (.cons (.c (.int 1)) .nil))) (.cons (.tup (.cons (.neg (.c (.int 8))) (.cons (.c (.int 27)) .nil))) (.cons (.tup (.cons (.c (.int 5)) (.cons (.c (.int 3)) .nil))) .nil)))) .nil)) .nil)) .nil)))
def others : List (Int × Nat) := [(8, 1), (-8, 27), (5, 3)]
def goodB (p : Int × Nat) : Bool := decide (p.1 ≠ 0) && (decide (p.1.natAbs ≤ 10 ^ 30) && (decide (0 < p.2) && (decide (p.2 ≤ 10 ^ 30) && decide (Nat.gcd p.1.natAbs p.2 = 1))))
theorem goodB_ok {p : Int × Nat} (h : goodB p = true) : GoodN p.1 p.2 := by
  simp only [goodB, Bool.and_eq_true, decide_eq_true_eq] at h
  exact ⟨h.1, h.2.1, h.2.2.1, h.2.2.2.1, h.2.2.2.2⟩
theorem body_kept (Γ : Nat → Gam) (nb r : Nat) (hn : SpNumb (Γ nb)) (hr : SpOne (Γ r)) : SpKept (gBody 2 (wSs Γ (mKept nb r))) := by
  intro st kk e n g h
  have p30 : (10 : Nat) ^ 30 = 1000000000000000000000000000000 := by decide
  refine ⟨rfl, rfl, hn _ _ _ _ g fun a b s1 R m1 => ?_⟩
  have tail : wSs Γ (.cons (.ret (.call r 2 0 (.cons (.var 0) (.cons (.lst (.cons (.tup (.cons (.c (.int 8)) (.cons (.c (.int 1)) .nil))) (.cons (.tup (.cons (.neg (.c (.int 8))) (.cons (.c (.int 27)) .nil))) (.cons (.tup (.cons (.c (.int 5)) (.cons (.c (.int 3)) .nil))) .nil)))) .nil)) .nil)) .nil) [some (.v (.box n)), some (.v (nD a b))] s1 (endOf kk e) := by
    repeat (first | refine szs rfl ?_ | refine ⟨_, rfl, szs rfl ?_⟩)
    refine ⟨rfl, rfl, hr _ _ _ _ (others.map fun p : Int × Nat => nD p.1 p.2) (m1.jg g) rfl rfl fun d s4 hd m4 => ?_⟩
    obtain ⟨p, hp, rfl⟩ := List.mem_map.mp hd
    exact h _ _ s4 (goodB_ok (List.all_eq_true.mp (show others.all goodB = true by decide +kernel) p hp)) (m1.trans m4)
  refine ⟨_, rfl, pk (by decide), _, rfl, ifB (fun h1 => ?_) (fun h1 => ?_)⟩
  · have h1 : (if a < 0 then -a else a) ≤ 1000000000000000000000000000000 := of_decide_eq_true h1
    rw [abs_nat] at h1
    refine ⟨_, rfl, pk (by decide), _, rfl, ifB (fun h2 => ?_) (fun h2 => ?_)⟩
    · have h2 : (b : Int) ≤ 1000000000000000000000000000000 := of_decide_eq_true h2
      exact h a b s1 ⟨R.a0, by omega, R.b0, by omega, R.co⟩ m1
    · exact tail
  · exact ifN noF tail
/-! ### jars -/
def SpJar (g : Gam) : Prop := ∀ (st : List D) (kk : KT2) (e : KX2) (ns : List Int) (j : Int), 0 ≤ j → (∀ a b g, 0 ≤ a → kk (.o (keg a b g)) st) → g [.scr ns, .int j] st kk e
def mJar : MSs := (.cons (.set 2 (.ite (.val (.cmp .Lt (.var 1) (.bi .len (.cons (.var 0) .nil)))) (.ix (.var 0) (.var 1)) (.bin .Add (.bin .Mult (.c (.int 41)) (.var 1)) (.c (.int 7))))) (.cons (.set 3 (.bin .Add (.c (.int 60101)) (.bin .Mult (.c (.int 7919)) (.var 1)))) (.cons (.forr (.any (.bin .Add (.sl (.var 0) .none (.some (.c (.int 5)))) (.lst (.cons (.var 2) .nil)))) (.name 4) (.cons (.set 3 (.bin .Mod (.bi .int (.cons (.bin .Add (.bin .Mult (.var 3) (.c (.int 22031))) (.var 4)) .nil)) (.c (.int 2147482661)))) .nil)) (.cons (.ret (.lst (.cons (.ite (.or (.val (.cmp .Lt (.var 2) (.c (.int 0)))) (.val (.cmp .GtE (.var 2) (.bin .Pow (.c (.int 10)) (.c (.int 18)))))) (.bi .abs (.cons (.var 2) .nil)) (.c (.int 0))) (.cons (.var 3) (.cons (.c (.int 0)) .nil))))) .nil))))
theorem body_jar (Γ : Nat → Gam) : SpJar (gBody 5 (wSs Γ mJar)) := by
  intro st kk e ns j hj h
  have tail : ∀ o : Int, wSs Γ (.cons (.set 3 (.bin .Add (.c (.int 60101)) (.bin .Mult (.c (.int 7919)) (.var 1)))) (.cons (.forr (.any (.bin .Add (.sl (.var 0) .none (.some (.c (.int 5)))) (.lst (.cons (.var 2) .nil)))) (.name 4) (.cons (.set 3 (.bin .Mod (.bi .int (.cons (.bin .Add (.bin .Mult (.var 3) (.c (.int 22031))) (.var 4)) .nil)) (.c (.int 2147482661)))) .nil)) (.cons (.ret (.lst (.cons (.ite (.or (.val (.cmp .Lt (.var 2) (.c (.int 0)))) (.val (.cmp .GtE (.var 2) (.bin .Pow (.c (.int 10)) (.c (.int 18)))))) (.bi .abs (.cons (.var 2) .nil)) (.c (.int 0))) (.cons (.var 3) (.cons (.c (.int 0)) .nil))))) .nil))) [some (.v (.scr ns)), some (.v (.int j)), some (.v (.int o)), none, none] st (endOf kk e) := by
    intro o
    have lc : ((cut ns none (some 5)).map D.int).length + 1 ≤ sizeLine := by
      have : (cut ns none (some 5)).length ≤ 5 := by
        unfold cut HT.sIx
        rw [List.length_take]
        simp
        omega
      rw [List.length_map, sizeLine_eq]
      omega
    refine ⟨mulL (by decide), _, rfl, szs rfl ⟨lc, ?_⟩⟩
    refine for_inv (fun rem en s => (∃ l : List Int, rem = l.map D.int) ∧ s = st ∧ ∃ z x, en = [some (.v (.scr ns)), some (.v (.int j)), some (.v (.int o)), some (.v (.int z)), x]) ?_ ?_ _ _ _ ⟨⟨cut ns none (some 5) ++ [o], by rw [List.map_append]; rfl⟩, rfl, _, _, rfl⟩
    · rintro d ds en s N ⟨⟨l, e1⟩, rfl, z, x, rfl⟩ hN
      cases l with
      | nil => cases e1
      | cons i l =>
        cases e1
        exact ⟨mulR (by decide), by decide, hN _ _ ⟨⟨l, rfl⟩, rfl, _, _, rfl⟩⟩
    · rintro en s ⟨_, rfl, z, x, rfl⟩
      have ab : 0 ≤ (if o < 0 then -o else o) := by split <;> omega
      refine ⟨_, rfl, ifB (fun h1 => ?_) (fun h1 => ?_)⟩
      · exact szs rfl (h _ _ _ ab)
      · refine ⟨pk (by decide), _, rfl, ifB (fun h2 => ?_) (fun h2 => ?_)⟩
        · exact szs rfl (h _ _ _ ab)
        · exact szs rfl (h _ _ _ (Int.le_refl 0))
  refine ⟨_, rfl, ifB (fun h1 => ?_) (fun h1 => ?_)⟩
  · have h1 := of_decide_eq_true h1
    obtain ⟨x, _, ex⟩ := atI_ok hj h1
    exact ⟨x, ex, tail x⟩
  · exact ⟨mulL (by decide), tail _⟩
/-! ### _law_base -/
theorem okT2 (x y : Int) : okD (.tup [.int x, .int y]) = true := by
  have e : dat (.tup [.int x, .int y]) = some (.tuple [.int x, .int y]) := by
    rw [dat, datL, datL, datL, dat, dat]
    rfl
  unfold okD
  rw [e]
  show SeqAt.shaped _ = true
  unfold SeqAt.shaped
  rw [PyData.canLay0, PyData.canLayAll0, PyData.canLayAll0, PyData.canLayAll0, PyData.canLay0, PyData.canLay0, PyData.depth, PyData.depthAll, PyData.depthAll, PyData.depthAll, PyData.depth, PyData.depth]
  rfl
theorem deqT2 (x y u v : Int) : deq (.tup [.int x, .int y]) (.tup [.int u, .int v]) = decide (x = u ∧ y = v) := by
  rw [deq, deqL, deqL, deqL, deqI, deqI]
  by_cases h1 : x = u <;> by_cases h2 : y = v <;> simp [h1, h2]
def SpLb (g : Gam) : Prop := ∀ (st : List D) (kk : KT2) (e : KX2) (a b : Nat), 0 < a → 0 < b → a ≤ 10 ^ 30 → b ≤ 10 ^ 30 → (a = 1 → b = 1 → kk (.v (beD 1 1 0)) st) →
  (∀ x y n, ¬ (a = 1 ∧ b = 1) → Ge a b n → n ≤ 500 → x ^ n = a → y ^ n = b → kk (.v (beD x y n)) st) → g [.tup [.int a, .int b]] st kk e
def mLb (q r : Nat) : MSs := (.cons (.ifs (.val (.cmp .Eq (.var 0) (.tup (.cons (.c (.int 1)) (.cons (.c (.int 1)) .nil))))) (.cons (.ret (.tup (.cons (.tup (.cons (.c (.int 1)) (.cons (.c (.int 1)) .nil))) (.cons (.c (.int 0)) .nil)))) .nil) .nil) (.cons (.set 1 (.tup (.cons (.var 0) (.cons (.c (.int 1)) .nil)))) (.cons (.forr (.range2 (.cons (.c (.int 2)) (.cons (.c (.int 100)) .nil))) (.name 2) (.cons (.set 3 (.tup (.cons (.call q 2 0 (.cons (.ix (.var 0) (.c (.int 0))) (.cons (.var 2) .nil)) .nil) (.cons (.call q 2 0 (.cons (.ix (.var 0) (.c (.int 1))) (.cons (.var 2) .nil)) .nil) .nil)))) (.cons (.ifs (.val (.cmp .Eq (.call r 2 0 (.cons (.var 3) (.cons (.var 2) .nil)) .nil) (.var 0))) (.cons (.set 1 (.tup (.cons (.var 3) (.cons (.var 2) .nil)))) .nil) .nil) .nil))) (.cons (.retv 1) .nil))))
theorem range_eq : rangeD 2 1 98 = (List.range' 2 98).map fun i : Nat => D.int (i : Int) := by rfl
theorem body_lb (Γ : Nat → Gam) (q r : Nat) (hq : SpFl (Γ q)) (hr : SpRs (Γ r)) : SpLb (gBody 4 (wSs Γ (mLb q r))) := by
  intro st kk e a b a0 b0 la lb h1 h2
  have p30 : (10 : Nat) ^ 30 < 2 ^ 100 := by decide
  have p200 : (2 : Nat) ^ 100 < 2 ^ 600 := by decide
  have p300 : (2 : Nat) ^ 100 < 2 ^ 700 := by decide
  refine szs rfl ⟨.inr ⟨okT2 _ _, okT2 _ _⟩, _, rfl, ifB (fun h3 => ?_) (fun h3 => ?_)⟩
  · have h3 : deq (.tup [.int (a : Int), .int (b : Int)]) (.tup [.int 1, .int 1]) = true := h3
    rw [deqT2] at h3
    have h3 := of_decide_eq_true h3
    exact szs rfl (szs rfl (h1 (by omega) (by omega)))
  · have h3 : deq (.tup [.int (a : Int), .int (b : Int)]) (.tup [.int 1, .int 1]) = false := h3
    rw [deqT2] at h3
    have h3 := of_decide_eq_false h3
    have hne : ¬ (a = 1 ∧ b = 1) := fun z => h3 (by omega)
    refine szs rfl ⟨⟨⟨by decide, by decide⟩, ⟨by decide, by decide⟩⟩, ?_⟩
    show forL _ _ (rangeD 2 1 98) _ _ _
    rw [range_eq]
    refine for_inv (fun rem en s => s = st ∧ ∃ (c m x y w : Nat) (z1 z2 : Option T), rem = (List.range' c m).map (fun i : Nat => D.int (i : Int)) ∧ c + m = 100 ∧ en = [some (.v (.tup [.int a, .int b])), some (.v (beD x y w)), z1, z2] ∧ x ^ w = a ∧ y ^ w = b ∧ 0 < w ∧ w < c ∧ (∀ n, 0 < n → n < c → IsP a n → IsP b n → n ≤ w)) ?_ ?_ _ _ _ ⟨rfl, 2, 98, a, b, 1, _, _, rfl, rfl, rfl, Nat.pow_one a, Nat.pow_one b, by decide, by decide, fun n n0 n1 _ _ => by omega⟩
    · rintro d ds en s N ⟨rfl, c, m, x, y, w, z1, z2, e1, cm, rfl, ex, ey, w0, wc, top⟩ hN
      cases m with
      | zero => cases e1
      | succ m =>
        rw [List.range'_succ, List.map_cons] at e1
        cases e1
        refine ⟨_, rfl, rfl, rfl, hq _ _ _ a c (by omega) (by omega) (by omega) fun u fu => ⟨_, rfl, rfl, rfl, hq _ _ _ b c (by omega) (by omega) (by omega) fun v fv => szs rfl ?_⟩⟩
        have lu := le_pow (a := u) (p := c) (by omega)
        have lv := le_pow (a := v) (p := c) (by omega)
        have fu1 := fu.lo
        have fv1 := fv.lo
        refine ⟨rfl, rfl, hr _ _ _ u v c (by omega) (by omega) (by omega) ⟨.inr ⟨okT2 _ _, okT2 _ _⟩, _, rfl, ifB (fun h4 => ?_) (fun h4 => ?_)⟩⟩
        · have h4 : deq (.tup [.int ((u ^ c : Nat) : Int), .int ((v ^ c : Nat) : Int)]) (.tup [.int (a : Int), .int (b : Int)]) = true := h4
          rw [deqT2] at h4
          have h4 := of_decide_eq_true h4
          exact szs rfl (hN _ _ ⟨rfl, c + 1, m, u, v, c, _, _, rfl, by omega, rfl, by omega, by omega, by omega, by omega, fun n _ n1 _ _ => by omega⟩)
        · have h4 : deq (.tup [.int ((u ^ c : Nat) : Int), .int ((v ^ c : Nat) : Int)]) (.tup [.int (a : Int), .int (b : Int)]) = false := h4
          rw [deqT2] at h4
          have h4 := of_decide_eq_false h4
          refine hN _ _ ⟨rfl, c + 1, m, x, y, w, _, _, rfl, by omega, rfl, ex, ey, w0, by omega, fun n n0 n1 i1 i2 => ?_⟩
          rcases Nat.lt_or_ge n c with z | z
          · exact top n n0 z i1 i2
          · have en : n = c := by omega
            subst en
            have g1 := (fu.isP (by omega)).mp i1
            have g2 := (fv.isP (by omega)).mp i2
            exact absurd ⟨by omega, by omega⟩ h4
    · rintro en s ⟨rfl, c, m, x, y, w, z1, z2, e1, cm, rfl, ex, ey, w0, wc, top⟩
      have hm : m = 0 := by
        cases m with
        | zero => rfl
        | succ m => rw [List.range'_succ, List.map_cons] at e1; cases e1
      have hc : c = 100 := by omega
      subst hc
      refine h2 x y w hne ⟨w0, ⟨x, ex⟩, ⟨y, ey⟩, fun n n0 i1 i2 => ?_⟩ (by omega) ex ey
      have := no_high (w := 99) a0 b0 hne ⟨by omega, by omega⟩ n0 i1 i2
      exact top n n0 (by omega) i1 i2
/-! ### _law_is_four -/
def SpLf (g : Gam) : Prop := ∀ (st : List D) (kk : KT2) (e : KX2) (a : Int) (b : Nat), a ≠ 0 → 0 < b → a.natAbs < 2 ^ 400 → b < 2 ^ 400 → (0 < a → kk (.v (.bl false)) st) → (a < 0 → ∀ t : Bool, (t = true ↔ IsP (ft a b) 4 ∧ IsP (fb a b) 4) → kk (.v (.bl t)) st) → g [nD a b] st kk e
def mLf (pp r q : Nat) : MSs := (.cons (.ifs (.val (.cmp .Gt (.ix (.var 0) (.c (.int 0))) (.c (.int 0)))) (.cons (.ret (.c (.bl false))) .nil) .nil) (.cons (.set 1 (.call pp 2 0 (.cons (.neg (.ix (.var 0) (.c (.int 0)))) (.cons (.bin .Mult (.c (.int 4)) (.ix (.var 0) (.c (.int 1)))) .nil)) .nil)) (.cons (.ret (.cmp .Eq (.call r 2 0 (.cons (.tup (.cons (.call q 2 0 (.cons (.ix (.var 1) (.c (.int 0))) (.cons (.c (.int 4)) .nil)) .nil) (.cons (.call q 2 0 (.cons (.ix (.var 1) (.c (.int 1))) (.cons (.c (.int 4)) .nil)) .nil) .nil))) (.cons (.c (.int 4)) .nil)) .nil) (.var 1))) .nil)))
theorem body_lf (Γ : Nat → Gam) (pp r q : Nat) (hp : SpLow (Γ pp)) (hr : SpRs (Γ r)) (hq : SpFl (Γ q)) : SpLf (gBody 2 (wSs Γ (mLf pp r q))) := by
  intro st kk e a b a0 b0 la lb h1 h2
  have big : (2 : Nat) ^ 400 * 4 < 2 ^ 600 := by decide
  have big3 : (2 : Nat) ^ 600 < 2 ^ 700 := by decide
  refine ⟨_, rfl, _, rfl, ifB (fun h4 => ?_) (fun h4 => ?_)⟩
  · exact h1 (of_decide_eq_true h4)
  · have h4 : ¬ 0 < a := of_decide_eq_false h4
    have h4 : a < 0 := by omega
    obtain ⟨f1, f2, f3, f4⟩ := f_pos a0 b0
    refine ⟨_, rfl, _, rfl, _, rfl, mulL (by decide), rfl, rfl, ?_⟩
    have ea : -a = ((a.natAbs : Nat) : Int) := by omega
    show Γ pp [.int (-a), .int ((4 * b : Nat) : Int)] _ _ _
    rw [ea]
    refine hp _ _ _ _ (4 * b) (by omega) (by omega) ?_
    have en : ((a.natAbs : Nat) : Int).natAbs = a.natAbs := Int.natAbs_natCast _
    rw [en]
    refine ⟨_, rfl, rfl, rfl, hq _ _ _ (ft a b) 4 (by omega) (by decide) (by decide) fun u fu => ⟨_, rfl, rfl, rfl, hq _ _ _ (fb a b) 4 (by omega) (by decide) (by decide) fun v fv => szs rfl ?_⟩⟩
    have lu := le_pow (a := u) (p := 4) (by decide)
    have lv := le_pow (a := v) (p := 4) (by decide)
    have fu1 := fu.lo
    have fv1 := fv.lo
    refine ⟨rfl, rfl, hr _ _ _ u v 4 (by omega) (by omega) (by decide) ⟨.inr ⟨okT2 _ _, okT2 _ _⟩, h2 h4 _ ?_⟩⟩
    show deq (.tup [.int ((u ^ 4 : Nat) : Int), .int ((v ^ 4 : Nat) : Int)]) (.tup [.int ((ft a b : Nat) : Int), .int ((fb a b : Nat) : Int)]) = true ↔ _
    rw [deqT2, decide_eq_true_eq, fu.isP (by decide), fv.isP (by decide)]
    constructor
    · rintro ⟨y1, y2⟩
      exact ⟨by omega, by omega⟩
    · rintro ⟨y1, y2⟩
      exact ⟨by omega, by omega⟩
end Ev
set_option Elab.async false
set_option linter.all false
set_option autoImplicit false
set_option maxRecDepth 100000
/-! primes, greatest common divisors, odd parts -/
namespace Ev
structure Pr (p : Nat) : Prop where
  two : 2 ≤ p
  div : ∀ d, d ∣ p → d = 1 ∨ d = p
theorem Pr.cop {p a : Nat} (h : Pr p) (n : ¬ p ∣ a) : Nat.Coprime p a := by
  rcases h.div _ (Nat.gcd_dvd_left p a) with e | e
  · exact e
  · exact absurd (e ▸ Nat.gcd_dvd_right p a) n
theorem Pr.mul {p a b : Nat} (h : Pr p) (d : p ∣ a * b) : p ∣ a ∨ p ∣ b := by
  by_cases n : p ∣ a
  · exact .inl n
  · exact .inr ((h.cop n).dvd_of_dvd_mul_left d)
theorem Pr.pow {p a : Nat} (h : Pr p) : ∀ {n : Nat}, p ∣ a ^ n → p ∣ a
  | 0, d => by
    rw [Nat.pow_zero] at d
    have := Nat.le_of_dvd (by omega) d
    have := h.two
    omega
  | n + 1, d => by
    rw [Nat.pow_succ] at d
    rcases h.mul d with z | z
    · exact h.pow z
    · exact z
theorem pr_ex : ∀ (n : Nat), 2 ≤ n → ∃ p, Pr p ∧ p ∣ n ∧ ∀ d, 2 ≤ d → d ∣ n → p ≤ d := by
  intro n hn
  have key : ∀ k, 2 ≤ k → k ≤ n → (∀ d, 2 ≤ d → d < k → ¬ d ∣ n) → ∃ p, Pr p ∧ p ∣ n ∧ ∀ d, 2 ≤ d → d ∣ n → p ≤ d := by
    intro k
    induction hk : n - k generalizing k with
    | zero =>
      intro h1 h2 h3
      have e : k = n := by omega
      subst e
      refine ⟨k, ⟨h1, fun d hd => ?_⟩, Nat.dvd_refl _, fun d d1 d2 => ?_⟩
      · by_cases z : d < k
        · left
          have : 0 < d := Nat.pos_of_dvd_of_pos hd (by omega)
          by_cases z2 : d = 1
          · exact z2
          · exact absurd hd (h3 d (by omega) z)
        · right
          have := Nat.le_of_dvd (by omega) hd
          omega
      · by_cases z : d < k
        · exact absurd d2 (h3 d d1 z)
        · omega
    | succ m ih =>
      intro h1 h2 h3
      by_cases hd : k ∣ n
      · refine ⟨k, ⟨h1, fun d dd => ?_⟩, hd, fun d d1 d2 => ?_⟩
        · have : 0 < d := Nat.pos_of_dvd_of_pos dd (by omega)
          have := Nat.le_of_dvd (by omega) dd
          by_cases z : d < k
          · by_cases z2 : d = 1
            · exact .inl z2
            · exact absurd (Nat.dvd_trans dd hd) (h3 d (by omega) z)
          · right; omega
        · by_cases z : d < k
          · exact absurd d2 (h3 d d1 z)
          · omega
      · have hne : k ≠ n := fun e => hd (e ▸ Nat.dvd_refl _)
        refine ih (k + 1) (by omega) (by omega) (by omega) fun d d1 d2 => ?_
        by_cases z : d = k
        · subst z; exact hd
        · exact h3 d d1 (by omega)
  exact key 2 (by omega) hn (fun d h1 h2 => by omega)
theorem pr_dvd {n : Nat} (h : 2 ≤ n) : ∃ p, Pr p ∧ p ∣ n := let ⟨p, a, b, _⟩ := pr_ex n h; ⟨p, a, b⟩
theorem pr_gcd {a b : Nat} (h : 0 < a) : 1 < Nat.gcd a b ↔ ∃ p, Pr p ∧ p ∣ a ∧ p ∣ b := by
  constructor
  · intro g
    obtain ⟨p, h1, h2⟩ := pr_dvd (n := Nat.gcd a b) (by omega)
    exact ⟨p, h1, Nat.dvd_trans h2 (Nat.gcd_dvd_left _ _), Nat.dvd_trans h2 (Nat.gcd_dvd_right _ _)⟩
  · rintro ⟨p, h1, h2, h3⟩
    have := Nat.le_of_dvd (Nat.gcd_pos_of_pos_left b h) (Nat.dvd_gcd h2 h3)
    have := h1.two
    omega
theorem pr_two : Pr 2 := ⟨by omega, fun d h => by
  have := Nat.le_of_dvd (by omega) h
  have : 0 < d := Nat.pos_of_dvd_of_pos h (by omega)
  omega⟩
theorem Pr.uniq {p q : Nat} (h : Pr p) (g : Pr q) (d : p ∣ q) : p = q := by
  rcases g.div p d with e | e
  · have := h.two; omega
  · exact e
theorem Pr.coq {p q : Nat} (h : Pr p) (g : Pr q) (n : p ≠ q) : Nat.Coprime p q := h.cop fun d => n (h.uniq g d)
/-- the odd part -/
structure Odp (n r : Nat) : Prop where
  odd : r % 2 = 1
  pow : ∃ k, n = r * 2 ^ k
theorem Odp.pos {n r : Nat} (h : Odp n r) : 0 < r := by have := h.odd; omega
theorem Odp.dvd {n r : Nat} (h : Odp n r) : r ∣ n := by obtain ⟨k, e⟩ := h.pow; exact ⟨_, e⟩
theorem Odp.pr {n r p : Nat} (h : Odp n r) (hp : Pr p) (h2 : p ≠ 2) : p ∣ r ↔ p ∣ n := by
  constructor
  · exact fun d => Nat.dvd_trans d h.dvd
  · intro d
    obtain ⟨k, e⟩ := h.pow
    rw [e] at d
    rcases hp.mul d with z | z
    · exact z
    · exact absurd (hp.uniq pr_two (hp.pow z)) h2
theorem Odp.no2 {n r : Nat} (h : Odp n r) : ¬ 2 ∣ r := fun ⟨q, e⟩ => by have := h.odd; omega
theorem Odp.uniq {n r s : Nat} (h : Odp n r) (g : Odp n s) : r = s := by
  obtain ⟨k, e⟩ := h.pow
  obtain ⟨l, f⟩ := g.pow
  have c1 : Nat.Coprime r (2 ^ l) := (Nat.Coprime.pow_right l (Nat.coprime_comm.mp (pr_two.cop h.no2)))
  have c2 : Nat.Coprime s (2 ^ k) := (Nat.Coprime.pow_right k (Nat.coprime_comm.mp (pr_two.cop g.no2)))
  have d1 : r ∣ s := c1.dvd_of_dvd_mul_right (show r ∣ s * 2 ^ l from ⟨2 ^ k, by rw [← f, e]⟩)
  have d2 : s ∣ r := c2.dvd_of_dvd_mul_right (show s ∣ r * 2 ^ k from ⟨2 ^ l, by rw [← e, f]⟩)
  exact Nat.dvd_antisymm d1 d2
theorem odp_ex : ∀ n, 0 < n → ∃ r, Odp n r := by
  intro n
  induction n using Nat.strongRecOn with
  | ind n ih =>
    intro h
    by_cases z : n % 2 = 1
    · exact ⟨n, z, 0, by simp⟩
    · obtain ⟨r, h1, k, h2⟩ := ih (n / 2) (by omega) (by omega)
      refine ⟨r, h1, k + 1, ?_⟩
      rw [Nat.pow_succ, ← Nat.mul_assoc, ← h2]
      omega
/-! ### base, exponent -/
/-- the exponent of a / b, 0 for 1 -/
def Exq (a b e : Nat) : Prop := (a = 1 ∧ b = 1 ∧ e = 0) ∨ (¬ (a = 1 ∧ b = 1) ∧ Ge a b e)
theorem Exq.dvd {a b e n : Nat} (h : Exq a b e) (ha : 1 ≤ a) (hb : 1 ≤ b) (hn : 0 < n) : n ∣ e ↔ IsP a n ∧ IsP b n := by
  rcases h with ⟨rfl, rfl, rfl⟩ | ⟨_, g⟩
  · exact ⟨fun _ => ⟨⟨1, Nat.one_pow n⟩, ⟨1, Nat.one_pow n⟩⟩, fun _ => Nat.dvd_zero n⟩
  · exact g.dvd ha hb hn
theorem Exq.uniq {a b e f : Nat} (h : Exq a b e) (g : Exq a b f) : e = f := by
  rcases h with ⟨h1, h2, h3⟩ | ⟨h1, h2⟩ <;> rcases g with ⟨g1, g2, g3⟩ | ⟨g1, g2⟩
  · omega
  · exact absurd ⟨h1, h2⟩ g1
  · exact absurd ⟨g1, g2⟩ h1
  · exact h2.uniq g2
theorem Exq.le {a b e : Nat} (h : Exq a b e) (ha : 1 ≤ a) (hb : 1 ≤ b) {m : Nat} (h1 : a < 2 ^ m) (h2 : b < 2 ^ m) : e < m ∨ e = 0 := by
  rcases h with ⟨_, _, rfl⟩ | ⟨hne, g⟩
  · exact .inr rfl
  · left
    have key : ∀ x, 1 ≤ x → x ≠ 1 → x < 2 ^ m → IsP x e → e < m := fun x x1 x2 x3 x4 => by
      have := IsP.small (a := x) (by omega) g.pos x4
      exact (Nat.pow_lt_pow_iff_right (a := 2) (by omega)).mp (by omega)
    by_cases z : a = 1
    · exact key b hb (fun y => hne ⟨z, y⟩) h2 g.pb
    · exact key a ha z h1 g.pa
/-! ### splitting -/
/-- a number is a four: by top and bottom of its opposite's fourth part -/
def Fr4 (t b : Nat) : Prop := IsP t 4 ∧ IsP b 4
/-- the equation with n splits: neg, the exponent, whether it is a four -/
def Spl (neg : Bool) (e : Nat) (four : Prop) (n : Nat) : Prop := (∃ p, Pr p ∧ p ∣ n ∧ p ∣ e ∧ (neg = true → p ≠ 2)) ∨ (4 ∣ n ∧ neg = true ∧ four)
theorem spl_gcd {neg : Bool} {e n m : Nat} {four : Prop} (hn : 0 < n) (hm : if neg = true then Odp n m else m = n) : Spl neg e four n ↔ 1 < Nat.gcd m e ∨ (4 ∣ n ∧ neg = true ∧ four) := by
  have hm0 : 0 < m := by
    cases neg
    · rw [if_neg (by decide)] at hm; omega
    · rw [if_pos rfl] at hm; exact hm.pos
  rw [pr_gcd hm0]
  unfold Spl
  have : (∃ p, Pr p ∧ p ∣ n ∧ p ∣ e ∧ (neg = true → p ≠ 2)) ↔ ∃ p, Pr p ∧ p ∣ m ∧ p ∣ e := by
    cases neg
    · rw [if_neg (by decide)] at hm
      subst hm
      exact ⟨fun ⟨p, h1, h2, h3, _⟩ => ⟨p, h1, h2, h3⟩, fun ⟨p, h1, h2, h3⟩ => ⟨p, h1, h2, h3, fun z => by cases z⟩⟩
    · rw [if_pos rfl] at hm
      constructor
      · rintro ⟨p, h1, h2, h3, h4⟩
        exact ⟨p, h1, (hm.pr h1 (h4 rfl)).mpr h2, h3⟩
      · rintro ⟨p, h1, h2, h3⟩
        have h4 : p ≠ 2 := fun z => hm.no2 (z ▸ h2)
        exact ⟨p, h1, (hm.pr h1 h4).mp h2, h3, fun _ => h4⟩
  rw [this]
theorem Spl.mul {neg : Bool} {e n m : Nat} {four : Prop} (h : Spl neg e four n) (d : n ∣ m) : Spl neg e four m := by
  rcases h with ⟨p, h1, h2, h3, h4⟩ | ⟨h1, h2⟩
  · exact .inl ⟨p, h1, Nat.dvd_trans h2 d, h3, h4⟩
  · exact .inr ⟨Nat.dvd_trans h1 d, h2⟩
theorem not_spl_one {neg : Bool} {e : Nat} {four : Prop} : ¬ Spl neg e four 1 := by
  rintro (⟨p, h1, h2, _⟩ | ⟨h1, _⟩)
  · have := Nat.le_of_dvd (by omega) h2
    have := h1.two
    omega
  · have := Nat.le_of_dvd (by omega) h1
    omega
/-- always whole -/
def Alw (neg : Bool) (e : Nat) (four : Prop) : Prop := ∀ n, 0 < n → ¬ Spl neg e four n
theorem pr_of_none {e : Nat} (h : ∀ p, Pr p → ¬ p ∣ e) : e = 1 := by
  by_cases z : e = 0
  · subst z; exact absurd (Nat.dvd_zero 2) (h 2 pr_two)
  · by_cases z1 : e = 1
    · exact z1
    · obtain ⟨p, h1, h2⟩ := pr_dvd (n := e) (by omega)
      exact absurd h2 (h p h1)
theorem alw_pos {e : Nat} {four : Prop} : Alw false e four ↔ e = 1 := by
  constructor
  · intro h
    refine pr_of_none fun p h1 h2 => h p (by have := h1.two; omega) (.inl ⟨p, h1, Nat.dvd_refl _, h2, fun z => by cases z⟩)
  · rintro rfl n hn (⟨p, h1, h2, h3, _⟩ | ⟨_, h2, _⟩)
    · have := Nat.le_of_dvd (by omega) h3
      have := h1.two
      omega
    · cases h2
theorem alw_neg {e : Nat} {four : Prop} : Alw true e four ↔ (0 < e ∧ Odp e 1) ∧ ¬ four := by
  constructor
  · intro h
    have e0 : 0 < e := by
      rcases Nat.eq_zero_or_pos e with z | z
      · subst z
        have p3 : Pr 3 := ⟨by omega, fun d hd => by
          have := Nat.le_of_dvd (by omega) hd
          have : 0 < d := Nat.pos_of_dvd_of_pos hd (by omega)
          have : d ≠ 2 := fun z => by subst z; exact absurd hd (by decide)
          omega⟩
        exact absurd (.inl ⟨3, p3, Nat.dvd_refl _, Nat.dvd_zero 3, fun _ => by omega⟩) (h 3 (by omega))
      · exact z
    obtain ⟨r, hr⟩ := odp_ex e e0
    have r1 : r = 1 := pr_of_none fun p h1 h2 => by
      have p2 : p ≠ 2 := fun z => hr.no2 (z ▸ h2)
      exact h p (by have := h1.two; omega) (.inl ⟨p, h1, Nat.dvd_refl _, (hr.pr h1 p2).mp h2, fun _ => p2⟩)
    subst r1
    exact ⟨⟨e0, hr⟩, fun f => h 4 (by omega) (.inr ⟨Nat.dvd_refl _, rfl, f⟩)⟩
  · rintro ⟨⟨e0, o⟩, nf⟩ n hn (⟨p, h1, h2, h3, h4⟩ | ⟨_, _, f⟩)
    · have := (o.pr h1 (h4 rfl)).mpr h3
      have := Nat.le_of_dvd (by omega) this
      have := h1.two
      omega
    · exact nf f
end Ev
set_option Elab.async false
set_option linter.all false
set_option autoImplicit false
set_option maxRecDepth 100000
/-! the primes of an integer; counting -/
namespace Ev
/-- the ascending list of the primes of v -/
structure Pds (v : Nat) (L : List Nat) : Prop where
  asc : L.Pairwise (· < ·)
  mem : ∀ p, p ∈ L ↔ Pr p ∧ p ∣ v
/-- between two turns of trial division -/
structure PdI (v : Nat) (f : List Nat) (l s : Nat) : Prop where
  s2 : 2 ≤ s
  l1 : 1 ≤ l
  dv : l ∣ v
  lo : ∀ p, Pr p → p < s → ¬ p ∣ l
  hi : ∀ p, Pr p → s ≤ p → (p ∣ l ↔ p ∣ v)
  asc : f.Pairwise (· < ·)
  lt : ∀ p ∈ f, p < s
  mem : ∀ p, p < s → (p ∈ f ↔ Pr p ∧ p ∣ v)
theorem pdI0 {v : Nat} (h : 1 ≤ v) : PdI v [] v 2 where
  s2 := Nat.le_refl _
  l1 := h
  dv := Nat.dvd_refl _
  lo := fun p hp h => by have := hp.two; omega
  hi := fun _ _ _ => Iff.rfl
  asc := List.Pairwise.nil
  lt := fun p h => by cases h
  mem := fun p h => ⟨fun z => (nomatch z), fun z => (by have := z.1.two; omega)⟩
theorem PdI.no {v l s : Nat} {f : List Nat} (I : PdI v f l s) (h : ¬ s ∣ l) : PdI v f l (s + 1) where
  s2 := by have := I.s2; omega
  l1 := I.l1
  dv := I.dv
  lo := fun p hp hs => by
    by_cases z : p = s
    · subst z; exact h
    · exact I.lo p hp (by omega)
  hi := fun p hp hs => I.hi p hp (by omega)
  asc := I.asc
  lt := fun p hp => by have := I.lt p hp; omega
  mem := fun p hs => by
    by_cases z : p = s
    · subst z
      refine ⟨fun q => absurd (I.lt p q) (by omega), fun ⟨q1, q2⟩ => absurd ((I.hi p q1 (Nat.le_refl _)).mpr q2) h⟩
    · exact I.mem p (by omega)
theorem PdI.pr {v l s : Nat} {f : List Nat} (I : PdI v f l s) (h : s ∣ l) : Pr s := by
  obtain ⟨p, h1, h2⟩ := pr_dvd I.s2
  have : p = s := by
    have h3 := Nat.le_of_dvd (by have := I.s2; omega) h2
    by_cases z : p < s
    · exact absurd (Nat.dvd_trans h2 h) (I.lo p h1 z)
    · omega
  exact this ▸ h1
theorem PdI.yes {v l l' s k : Nat} {f : List Nat} (I : PdI v f l s) (h : s ∣ l) (e : l = l' * s ^ k) (h' : ¬ s ∣ l') : PdI v (f ++ [s]) l' (s + 1) := by
  have ps := I.pr h
  have l1 := I.l1
  have d : l' ∣ l := ⟨_, e⟩
  have l'1 : 1 ≤ l' := Nat.pos_of_dvd_of_pos d l1
  have other : ∀ p, Pr p → p ≠ s → (p ∣ l' ↔ p ∣ l) := fun p hp hne => by
    refine ⟨fun z => Nat.dvd_trans z d, fun z => ?_⟩
    rw [e] at z
    rcases hp.mul z with y | y
    · exact y
    · exact absurd (hp.uniq ps (hp.pow y)) hne
  refine ⟨by have := I.s2; omega, l'1, Nat.dvd_trans d I.dv, fun p hp hs => ?_, fun p hp hs => ?_, ?_, fun p hp => ?_, fun p hs => ?_⟩
  · by_cases z : p = s
    · subst z; exact h'
    · exact fun y => I.lo p hp (by omega) (Nat.dvd_trans y d)
  · rw [other p hp (by omega)]
    exact I.hi p hp (by omega)
  · rw [List.pairwise_append]
    refine ⟨I.asc, by simp, fun a ha b hb => ?_⟩
    rw [List.mem_singleton] at hb
    rw [hb]
    exact I.lt a ha
  · rcases List.mem_append.mp hp with z | z
    · have := I.lt p z; omega
    · rw [List.mem_singleton] at z; omega
  · rw [List.mem_append, List.mem_singleton]
    by_cases z : p = s
    · subst z
      exact ⟨fun _ => ⟨ps, Nat.dvd_trans h I.dv⟩, fun _ => .inr rfl⟩
    · rw [I.mem p (by omega)]
      exact ⟨fun q => q.resolve_right z, .inl⟩
theorem PdI.fin {v l s : Nat} {f : List Nat} (I : PdI v f l s) (h : l < s * s) : Pds v (f ++ if 1 < l then [l] else []) := by
  have prl : 1 < l → Pr l ∧ s ≤ l := fun h1 => by
    obtain ⟨p, p1, p2, p3⟩ := pr_ex l h1
    have ps : s ≤ p := by
      by_cases z : p < s
      · exact absurd p2 (I.lo p p1 z)
      · omega
    obtain ⟨q, hq⟩ := p2
    have q1 : q = 1 := by
      by_cases z : 2 ≤ q
      · have := p3 q z ⟨p, by rw [hq, Nat.mul_comm]⟩
        have h4 : s * s ≤ p * q := Nat.mul_le_mul ps (by omega)
        omega
      · have : q ≠ 0 := fun z => by subst z; omega
        omega
    subst q1
    rw [Nat.mul_one] at hq
    subst hq
    exact ⟨p1, ps⟩
  constructor
  · split
    · rename_i h1
      rw [List.pairwise_append]
      refine ⟨I.asc, by simp, fun a ha b hb => ?_⟩
      rw [List.mem_singleton] at hb
      have := I.lt a ha
      have := (prl h1).2
      omega
    · rw [List.append_nil]; exact I.asc
  · intro p
    rw [List.mem_append]
    have hm : p ∈ (if 1 < l then [l] else []) ↔ 1 < l ∧ p = l := by
      split
      · rename_i h1; simp [h1]
      · rename_i h1; simp [h1]
    rw [hm]
    constructor
    · rintro (z | ⟨z1, rfl⟩)
      · exact (I.mem p (I.lt p z)).mp z
      · exact ⟨(prl z1).1, I.dv⟩
    · rintro ⟨z1, z2⟩
      by_cases hs : p < s
      · exact .inl ((I.mem p hs).mpr ⟨z1, z2⟩)
      · right
        have hpl := (I.hi p z1 (by omega)).mpr z2
        have hle := Nat.le_of_dvd I.l1 hpl
        have h1 : 1 < l := by have := z1.two; omega
        exact ⟨h1, z1.uniq (prl h1).1 hpl⟩
/-! ### products -/
def prd : List Nat → Nat
  | [] => 1
  | x :: xs => x * prd xs
theorem prd_cop {x : Nat} : ∀ {L : List Nat}, (∀ y ∈ L, Nat.Coprime x y) → Nat.Coprime x (prd L)
  | [], _ => Nat.coprime_one_right x
  | y :: L, h => Nat.Coprime.mul_right (h y List.mem_cons_self) (prd_cop fun z hz => h z (List.mem_cons_of_mem _ hz))
theorem prd_dvd {N : Nat} : ∀ {L : List Nat}, L.Pairwise Nat.Coprime → (∀ x ∈ L, x ∣ N) → prd L ∣ N
  | [], _, _ => Nat.one_dvd N
  | x :: L, hp, hd => by
    rw [List.pairwise_cons] at hp
    exact Nat.Coprime.mul_dvd_of_dvd_of_dvd (prd_cop hp.1) (hd x List.mem_cons_self) (prd_dvd hp.2 fun y hy => hd y (List.mem_cons_of_mem _ hy))
theorem prd_two : ∀ {L : List Nat}, (∀ x ∈ L, 2 ≤ x) → 2 ^ L.length ≤ prd L
  | [], _ => Nat.le_refl _
  | x :: L, h => by
    rw [List.length_cons, Nat.pow_succ, Nat.mul_comm]
    exact Nat.mul_le_mul (h x List.mem_cons_self) (prd_two fun y hy => h y (List.mem_cons_of_mem _ hy))
theorem Pds.cop {v : Nat} {L : List Nat} (h : Pds v L) : L.Pairwise Nat.Coprime :=
  h.asc.imp_of_mem fun {a b} ha hb hab => ((h.mem a).mp ha).1.coq ((h.mem b).mp hb).1 (by omega)
theorem Pds.len {v : Nat} {L : List Nat} (h : Pds v L) (hv : 0 < v) : 2 ^ L.length ≤ v :=
  Nat.le_trans (prd_two fun x hx => ((h.mem x).mp hx).1.two) (Nat.le_of_dvd hv (prd_dvd h.cop fun x hx => ((h.mem x).mp hx).2))
theorem asc_uniq : ∀ {a b : List Nat}, a.Pairwise (· < ·) → b.Pairwise (· < ·) → (∀ i, i ∈ a ↔ i ∈ b) → a = b
  | [], [], _, _, _ => rfl
  | [], y :: b, _, _, h => by have := (h y).mpr List.mem_cons_self; cases this
  | x :: a, [], _, _, h => by have := (h x).mp List.mem_cons_self; cases this
  | x :: a, y :: b, h1, h2, h => by
    rw [List.pairwise_cons] at h1 h2
    have e : x = y := by
      rcases List.mem_cons.mp ((h x).mp List.mem_cons_self) with z | z
      · exact z
      · have := h2.1 x z
        rcases List.mem_cons.mp ((h y).mpr List.mem_cons_self) with w | w
        · omega
        · have := h1.1 y w; omega
    subst e
    refine congrArg (x :: ·) (asc_uniq h1.2 h2.2 fun i => ?_)
    have hi := h i
    rw [List.mem_cons, List.mem_cons] at hi
    constructor
    · intro m
      rcases hi.mp (.inr m) with z | z
      · have := h1.1 i m; omega
      · exact z
    · intro m
      rcases hi.mpr (.inr m) with z | z
      · have := h2.1 i m; omega
      · exact z
theorem Pds.uniq {v : Nat} {L M : List Nat} (h : Pds v L) (g : Pds v M) : L = M := asc_uniq h.asc g.asc fun i => by rw [h.mem, g.mem]
/-! ### counting -/
open Classical in
noncomputable def cp (P : Nat → Prop) : Nat → Nat
  | 0 => 0
  | m + 1 => cp P m + if P (m + 1) then 1 else 0
theorem cp_congr {P Q : Nat → Prop} : ∀ {m : Nat}, (∀ n, 0 < n → n ≤ m → (P n ↔ Q n)) → cp P m = cp Q m
  | 0, _ => rfl
  | m + 1, h => by
    unfold cp
    rw [cp_congr (m := m) fun n h1 h2 => h n h1 (by omega)]
    have e := h (m + 1) (by omega) (Nat.le_refl _)
    by_cases z : P (m + 1)
    · rw [if_pos z, if_pos (e.mp z)]
    · rw [if_neg z, if_neg fun y => z (e.mpr y)]
theorem cp_le {P : Nat → Prop} : ∀ m, cp P m ≤ m
  | 0 => Nat.le_refl _
  | m + 1 => by
    unfold cp
    have := cp_le (P := P) m
    split <;> omega
theorem cp_two {P Q : Nat → Prop} : ∀ m, cp P m = cp (fun n => P n ∧ Q n) m + cp (fun n => P n ∧ ¬ Q n) m
  | 0 => rfl
  | m + 1 => by
    unfold cp
    rw [cp_two (P := P) (Q := Q) m]
    by_cases h1 : P (m + 1) <;> by_cases h2 : Q (m + 1) <;> simp [h1, h2] <;> omega
theorem cp_true : ∀ m, cp (fun _ => True) m = m
  | 0 => rfl
  | m + 1 => by unfold cp; rw [cp_true m]; simp
theorem cp_not {P : Nat → Prop} (m : Nat) : cp P m + cp (fun n => ¬ P n) m = m := by
  have h := cp_two (P := fun _ => True) (Q := P) m
  rw [cp_true] at h
  rw [cp_congr (Q := P) (fun n _ _ => ⟨fun z => z.2, fun z => ⟨trivial, z⟩⟩), cp_congr (P := fun n => True ∧ ¬ P n) (Q := fun n => ¬ P n) (fun n _ _ => ⟨fun z => z.2, fun z => ⟨trivial, z⟩⟩)] at h
  omega
theorem cp_mono {P : Nat → Prop} {m n : Nat} (h : m ≤ n) : cp P m ≤ cp P n := by
  induction h with
  | refl => exact Nat.le_refl _
  | step _ ih => exact Nat.le_trans ih (Nat.le_add_right _ _)
theorem cp_imp {P Q : Nat → Prop} {m : Nat} (h : ∀ n, 0 < n → P n → Q n) : cp P m ≤ cp Q m := by
  have e := cp_two (P := Q) (Q := P) m
  rw [cp_congr (P := fun n => Q n ∧ P n) (Q := P) fun n hn _ => ⟨fun z => z.2, fun z => ⟨h n hn z, z⟩⟩] at e
  omega
theorem succ_div {m l : Nat} (hl : 0 < l) : (m + 1) / l = m / l + if l ∣ m + 1 then 1 else 0 := by
  split
  · rename_i h
    obtain ⟨q, hq⟩ := h
    have q0 : 0 < q := Nat.pos_of_ne_zero fun z => by subst z; omega
    have e1 : (m + 1) / l = q := by rw [hq]; exact Nat.mul_div_cancel_left q hl
    have e2 : m / l = q - 1 := by
      apply Nat.div_eq_of_lt_le
      · have : (q - 1) * l + l = l * q := by rw [← Nat.succ_mul, Nat.mul_comm]; congr 1; omega
        omega
      · have : (q - 1 + 1) * l = l * q := by rw [Nat.mul_comm]; congr 1; omega
        omega
    omega
  · rename_i h
    show (m + 1) / l = m / l
    apply Nat.div_eq_of_lt_le
    · have := Nat.div_mul_le_self m l; omega
    · have h2 := Nat.lt_div_mul_add hl (a := m)
      have h3 : (m / l + 1) * l = m / l * l + l := Nat.succ_mul _ _
      have : m + 1 ≠ (m / l + 1) * l := fun z => h ⟨m / l + 1, by rw [z, Nat.mul_comm]⟩
      omega
theorem cp_mul {Q : Nat → Prop} {l : Nat} (hl : 0 < l) : ∀ m, cp (fun n => l ∣ n ∧ Q (n / l)) m = cp Q (m / l)
  | 0 => by rw [Nat.zero_div]; rfl
  | m + 1 => by
    have ih := cp_mul (Q := Q) hl m
    by_cases h : l ∣ m + 1
    · have e : (m + 1) / l = m / l + 1 := by rw [succ_div hl, if_pos h]
      rw [e]
      show cp _ m + _ = cp Q (m / l) + _
      rw [ih]
      congr 1
      by_cases z : Q (m / l + 1)
      · rw [if_pos ⟨h, by rw [e]; exact z⟩, if_pos z]
      · rw [if_neg fun y => z (by have y2 : Q ((m + 1) / l) := y.2; rw [e] at y2; exact y2), if_neg z]
    · have e : (m + 1) / l = m / l := by rw [succ_div hl, if_neg h]; rfl
      rw [e, ← ih]
      show cp _ m + _ = _
      rw [if_neg fun y => h y.1]
      rfl
theorem cp_dvd {l : Nat} (hl : 0 < l) (m : Nat) : cp (fun n => l ∣ n) m = m / l := by
  rw [← cp_true (m / l), ← cp_mul hl m]
  exact cp_congr fun n _ _ => ⟨fun z => ⟨z, trivial⟩, fun z => z.1⟩
/-! ### multiples of some of a few -/
def ie (S : List (Int × Nat)) (m : Nat) : Int := (S.map fun x => x.1 * ((m / x.2 : Nat) : Int)).sum
structure Ie (L : List Nat) (S : List (Int × Nat)) : Prop where
  eq : ∀ m, ie S m = (cp (fun n => ∀ l ∈ L, ¬ l ∣ n) m : Nat)
  len : S.length = 2 ^ L.length
  pos : ∀ x ∈ S, 0 < x.2 ∧ x.2 ∣ prd L ∧ (x.1 = 1 ∨ x.1 = -1)
theorem ie0 : Ie [] [(1, 1)] := by
  refine ⟨fun m => ?_, rfl, fun x hx => ?_⟩
  · have e : cp (fun n => ∀ l ∈ ([] : List Nat), ¬ l ∣ n) m = m := by
      rw [← cp_true m, cp_true m]
      conv => rhs; rw [← cp_true m]
      exact cp_congr fun n _ _ => ⟨fun _ => trivial, fun _ l h => by cases h⟩
    rw [e]
    simp [ie]
  · rw [List.mem_singleton] at hx
    subst hx
    exact ⟨by decide, ⟨1, rfl⟩, .inl rfl⟩
theorem prd_app (L : List Nat) (l : Nat) : prd (L ++ [l]) = prd L * l := by
  induction L with
  | nil => simp [prd]
  | cons x L ih => simp only [List.cons_append, prd, ih, Nat.mul_assoc]
theorem Ie.step {L : List Nat} {S : List (Int × Nat)} {l : Nat} (h : Ie L S) (hl : 0 < l) (hc : ∀ x ∈ L, Nat.Coprime x l) : Ie (L ++ [l]) (S ++ S.map fun x => (-x.1, x.2 * l)) := by
  refine ⟨fun m => ?_, ?_, fun x hx => ?_⟩
  · have e1 : ie (S ++ S.map fun x => (-x.1, x.2 * l)) m = ie S m - ie S (m / l) := by
      unfold ie
      rw [List.map_append, List.sum_append, List.map_map]
      have : (S.map ((fun x : Int × Nat => x.1 * ((m / x.2 : Nat) : Int)) ∘ fun x => (-x.1, x.2 * l))).sum = - (S.map fun x => x.1 * ((m / l / x.2 : Nat) : Int)).sum := by
        clear hc h
        induction S with
        | nil => rfl
        | cons x S ih =>
          simp only [List.map_cons, List.sum_cons, ih, Function.comp]
          rw [Nat.div_div_eq_div_mul, Nat.mul_comm l x.2, Int.neg_mul]
          omega
      rw [this]
      omega
    rw [e1, h.eq, h.eq]
    have e2 := cp_two (P := fun n => ∀ x ∈ L, ¬ x ∣ n) (Q := fun n => l ∣ n) m
    have e3 : cp (fun n => (∀ x ∈ L, ¬ x ∣ n) ∧ l ∣ n) m = cp (fun n => ∀ x ∈ L, ¬ x ∣ n) (m / l) := by
      rw [← cp_mul hl m]
      refine cp_congr fun n hn _ => ?_
      rw [and_comm]
      refine and_congr_right fun ⟨q, hq⟩ => ?_
      subst hq
      rw [Nat.mul_div_cancel_left q hl]
      refine forall_congr' fun x => forall_congr' fun hx => not_congr ?_
      exact ⟨fun z => (hc x hx).dvd_of_dvd_mul_left z, fun z => Nat.dvd_trans z ⟨l, Nat.mul_comm _ _⟩⟩
    have e4 : cp (fun n => (∀ x ∈ L, ¬ x ∣ n) ∧ ¬ l ∣ n) m = cp (fun n => ∀ x ∈ L ++ [l], ¬ x ∣ n) m := by
      refine cp_congr fun n _ _ => ⟨fun ⟨z1, z2⟩ x hx => ?_, fun z => ⟨fun x hx => z x (List.mem_append_left _ hx), z l (List.mem_append_right _ List.mem_cons_self)⟩⟩
      rcases List.mem_append.mp hx with y | y
      · exact z1 x y
      · rw [List.mem_singleton] at y; subst y; exact z2
    omega
  · rw [List.length_append, List.length_map, List.length_append, List.length_singleton, Nat.pow_succ, h.len]
    omega
  · rw [prd_app]
    rcases List.mem_append.mp hx with z | z
    · obtain ⟨z1, z2, z3⟩ := h.pos x z
      exact ⟨z1, Nat.dvd_trans z2 ⟨l, rfl⟩, z3⟩
    · obtain ⟨y, hy, rfl⟩ := List.mem_map.mp z
      obtain ⟨z1, z2, z3⟩ := h.pos y hy
      exact ⟨Nat.mul_pos z1 hl, Nat.mul_dvd_mul z2 (Nat.dvd_refl _), by rcases z3 with z | z <;> simp [z]⟩
/-- how many are multiples of some -/
theorem Ie.fin {L : List Nat} {S : List (Int × Nat)} (h : Ie L S) (m : Nat) : (m : Int) - ie S m = (cp (fun n => ∃ l ∈ L, l ∣ n) m : Nat) := by
  rw [h.eq]
  have e := cp_not (P := fun n => ∃ l ∈ L, l ∣ n) m
  rw [cp_congr (P := fun n => ¬ ∃ l ∈ L, l ∣ n) (Q := fun n => ∀ l ∈ L, ¬ l ∣ n) fun n _ _ => ⟨fun z l hl hd => z ⟨l, hl, hd⟩, fun z ⟨l, hl, hd⟩ => z l hl hd⟩] at e
  omega
/-! ### powers of two -/
theorem cp_pow2 : ∀ (m k : Nat), m < 2 ^ k → (k = 0 ∨ 2 ^ (k - 1) ≤ m) → cp (fun n => ∃ j, n = 2 ^ j) m = k
  | 0, k, h1, h2 => by
    rcases h2 with z | z
    · subst z; rfl
    · have := Nat.pow_pos (n := k - 1) (show 0 < 2 by omega); omega
  | m + 1, k, h1, h2 => by
    have hk : k ≠ 0 := fun z => by subst z; rw [Nat.pow_zero] at h1; omega
    replace h2 := h2.resolve_left hk
    unfold cp
    by_cases e : 2 ^ (k - 1) = m + 1
    · rw [cp_pow2 m (k - 1) (by omega) (by
        by_cases z : k - 1 = 0
        · exact .inl z
        · right
          have : 2 ^ (k - 1) = 2 * 2 ^ (k - 1 - 1) := by rw [← Nat.pow_succ']; congr 1; omega
          have := Nat.pow_pos (n := k - 1 - 1) (show 0 < 2 by omega)
          omega)]
      rw [if_pos ⟨k - 1, e.symm⟩]
      omega
    · rw [cp_pow2 m k (by omega) (.inr (by omega)), if_neg, Nat.add_zero]
      rintro ⟨j, hj⟩
      rw [hj] at h1 h2
      have a := (Nat.pow_lt_pow_iff_right (a := 2) (by omega)).mp h1
      have b := (Nat.pow_le_pow_iff_right (a := 2) (by omega)).mp h2
      have : j = k - 1 := by omega
      subst this
      exact e hj.symm
end Ev
set_option Elab.async false
set_option linter.all false
set_option autoImplicit false
set_option maxRecDepth 100000
/-! steps of a number; the next one, the one with a place -/
namespace Ev
/-- the multiples of the steps are the n that split -/
structure Stp (neg : Bool) (e : Nat) (four : Prop) (S : List Nat) : Prop where
  spl : ∀ n, 0 < n → (Spl neg e four n ↔ ∃ s ∈ S, s ∣ n)
  cop : S.Pairwise Nat.Coprime
  two : ∀ s ∈ S, 2 ≤ s
  len : 2 ^ S.length ≤ 2 * e
  le : ∀ s ∈ S, s ≤ e ∨ s = 4
theorem stp_pos {e : Nat} {four : Prop} {L : List Nat} (h : Pds e L) (e0 : 0 < e) : Stp false e four L where
  spl := fun n hn => by
    constructor
    · rintro (⟨p, h1, h2, h3, _⟩ | ⟨_, h2, _⟩)
      · exact ⟨p, (h.mem p).mpr ⟨h1, h3⟩, h2⟩
      · cases h2
    · rintro ⟨s, h1, h2⟩
      obtain ⟨h3, h4⟩ := (h.mem s).mp h1
      exact .inl ⟨s, h3, h2, h4, fun z => by cases z⟩
  cop := h.cop
  two := fun s hs => ((h.mem s).mp hs).1.two
  len := by have := h.len e0; omega
  le := fun s hs => .inl (Nat.le_of_dvd e0 ((h.mem s).mp hs).2)
theorem prd_filter {e : Nat} {L : List Nat} (f : Nat → Bool) (h : Pds e L) (e0 : 0 < e) : 2 ^ (L.filter f).length ≤ e :=
  Nat.le_trans (Nat.pow_le_pow_right (by omega) (List.length_filter_le _ _)) (h.len e0)
theorem stp_neg {e : Nat} {four : Prop} {L : List Nat} {F : List Nat} (h : Pds e L) (e0 : 0 < e) (hF : (four ∧ F = [4]) ∨ (¬ four ∧ F = [])) : Stp true e four (L.filter (fun p => decide (2 < p)) ++ F) where
  spl := fun n hn => by
    have mF : ∀ s, s ∈ F ↔ s = 4 ∧ four := fun s => by
      rcases hF with ⟨a, b⟩ | ⟨a, b⟩ <;> subst b <;> simp [a]
    have mL : ∀ s, s ∈ L.filter (fun p => decide (2 < p)) ↔ Pr s ∧ s ∣ e ∧ s ≠ 2 := fun s => by
      rw [List.mem_filter, h.mem, decide_eq_true_iff]
      constructor
      · rintro ⟨⟨a, b⟩, c⟩; exact ⟨a, b, by omega⟩
      · rintro ⟨a, b, c⟩; exact ⟨⟨a, b⟩, by have := a.two; omega⟩
    constructor
    · rintro (⟨p, h1, h2, h3, h4⟩ | ⟨h1, _, h3⟩)
      · exact ⟨p, List.mem_append_left _ ((mL p).mpr ⟨h1, h3, h4 rfl⟩), h2⟩
      · exact ⟨4, List.mem_append_right _ ((mF 4).mpr ⟨rfl, h3⟩), h1⟩
    · rintro ⟨s, h1, h2⟩
      rcases List.mem_append.mp h1 with z | z
      · obtain ⟨a, b, c⟩ := (mL s).mp z
        exact .inl ⟨s, a, h2, b, fun _ => c⟩
      · obtain ⟨rfl, b⟩ := (mF s).mp z
        exact .inr ⟨h2, rfl, b⟩
  cop := by
    rw [List.pairwise_append]
    refine ⟨h.cop.filter _, ?_, fun a ha b hb => ?_⟩
    · rcases hF with ⟨a, b⟩ | ⟨a, b⟩ <;> subst b <;> simp
    · have hb4 : b = 4 := by rcases hF with ⟨_, z⟩ | ⟨_, z⟩ <;> subst z <;> simp at hb; exact hb
      subst hb4
      rw [List.mem_filter, decide_eq_true_iff] at ha
      have pa := ((h.mem a).mp ha.1).1
      have : Nat.Coprime a 2 := pa.coq pr_two (by omega)
      exact Nat.Coprime.mul_right this this
  two := fun s hs => by
    rcases List.mem_append.mp hs with z | z
    · rw [List.mem_filter] at z; exact ((h.mem s).mp z.1).1.two
    · rcases hF with ⟨_, y⟩ | ⟨_, y⟩ <;> subst y <;> simp at z; omega
  len := by
    have := prd_filter (fun p => decide (2 < p)) h e0
    rw [List.length_append, Nat.pow_add, Nat.mul_comm]
    have : 2 ^ F.length ≤ 2 := by rcases hF with ⟨_, y⟩ | ⟨_, y⟩ <;> subst y <;> decide
    exact Nat.mul_le_mul this (by assumption)
  le := fun s hs => by
    rcases List.mem_append.mp hs with z | z
    · rw [List.mem_filter] at z; exact .inl (Nat.le_of_dvd e0 ((h.mem s).mp z.1).2)
    · right
      rcases hF with ⟨_, y⟩ | ⟨_, y⟩ <;> subst y <;> simp at z; exact z
/-- the next one -/
structure Nxt (P : Nat → Prop) (n r : Nat) : Prop where
  gt : n < r
  hit : P r
  gap : ∀ x, n < x → x < r → ¬ P x
theorem Nxt.uniq {P : Nat → Prop} {n r s : Nat} (h : Nxt P n r) (g : Nxt P n s) : r = s := by
  by_cases a : r < s
  · exact absurd h.hit (g.gap r h.gt a)
  · by_cases b : s < r
    · exact absurd g.hit (h.gap s g.gt b)
    · omega
theorem nxt_steps {P : Nat → Prop} {S : List Nat} {n m : Nat} (hS : ∀ x, 0 < x → (P x ↔ ∃ s ∈ S, s ∣ x)) (h2 : ∀ s ∈ S, 2 ≤ s) (hm : ∃ s ∈ S, m = (n / s + 1) * s) (hl : ∀ s ∈ S, m ≤ (n / s + 1) * s) : Nxt P n m := by
  have nx : ∀ s, 2 ≤ s → n < (n / s + 1) * s := fun s hs => by
    have := Nat.lt_div_mul_add (a := n) (b := s) (by omega)
    rw [Nat.succ_mul]
    omega
  obtain ⟨s, hs, e⟩ := hm
  have gt : n < m := by rw [e]; exact nx s (h2 s hs)
  refine ⟨gt, (hS m (by omega)).mpr ⟨s, hs, ⟨n / s + 1, by rw [e, Nat.mul_comm]⟩⟩, fun x x1 x2 hx => ?_⟩
  obtain ⟨t, ht, q, hq⟩ := (hS x (by omega)).mp hx
  have := hl t ht
  have h3 : n / t + 1 ≤ q := by
    have : n / t < q := by
      refine (Nat.div_lt_iff_lt_mul (by have := h2 t ht; omega)).mpr ?_
      rw [Nat.mul_comm, ← hq]; exact x1
    omega
  have h4 : (n / t + 1) * t ≤ x := by rw [hq, Nat.mul_comm t q]; exact Nat.mul_le_mul_right t h3
  omega
/-- the one with a place -/
structure Nth (P : Nat → Prop) (k r : Nat) : Prop where
  pos : 0 < r
  hit : P r
  cnt : cp P r = k
theorem nth_of {P : Nat → Prop} {k r : Nat} (hk : 0 < k) (h1 : k ≤ cp P r) (h2 : cp P (r - 1) < k) : Nth P k r := by
  cases r with
  | zero => unfold cp at h1; omega
  | succ r =>
    have e : r + 1 - 1 = r := by omega
    rw [e] at h2
    unfold cp at h1
    by_cases z : P (r + 1)
    · rw [if_pos z] at h1
      refine ⟨by omega, z, ?_⟩
      unfold cp
      rw [if_pos z]
      omega
    · rw [if_neg z] at h1
      omega
theorem Nth.lt {P : Nat → Prop} {k r : Nat} (h : Nth P k r) : cp P (r - 1) + 1 = k := by
  obtain ⟨h1, h2, h3⟩ := h
  cases r with
  | zero => omega
  | succ r =>
    unfold cp at h3
    rw [if_pos h2] at h3
    exact h3
theorem Nth.uniq {P : Nat → Prop} {k r s : Nat} (h : Nth P k r) (g : Nth P k s) : r = s := by
  have key : ∀ {r s}, Nth P k r → Nth P k s → ¬ r < s := fun {r s} h g z => by
    have a := cp_mono (P := P) (show r ≤ s - 1 by omega)
    have b := h.cnt
    have c := g.lt
    omega
  have := key h g
  have := key g h
  omega
theorem cp_low {P : Nat → Prop} {s : Nat} (hs : 0 < s) (h : ∀ n, 0 < n → s ∣ n → P n) (m : Nat) : m / s ≤ cp P m := by
  rw [← cp_dvd hs m]
  exact cp_imp fun n h1 h2 => h n h1 h2
/-! ### 1 and -1 -/
theorem spl_one {four : Prop} {n : Nat} (hn : 0 < n) : Spl false 0 four n ↔ n ≠ 1 := by
  constructor
  · rintro h rfl; exact not_spl_one h
  · intro h
    obtain ⟨p, h1, h2⟩ := pr_dvd (n := n) (by omega)
    exact .inl ⟨p, h1, h2, Nat.dvd_zero p, fun z => by cases z⟩
theorem spl_mone {four : Prop} {n : Nat} (hn : 0 < n) (nf : ¬ four) : Spl true 0 four n ↔ ¬ ∃ j, n = 2 ^ j := by
  constructor
  · rintro (⟨p, h1, h2, _, h4⟩ | ⟨_, _, f⟩) ⟨j, rfl⟩
    · exact h4 rfl (h1.uniq pr_two (h1.pow h2))
    · exact nf f
  · intro h
    obtain ⟨r, hr⟩ := odp_ex n hn
    have r1 : r ≠ 1 := fun z => by
      obtain ⟨k, e⟩ := hr.pow
      subst z
      exact h ⟨k, by rw [e, Nat.one_mul]⟩
    obtain ⟨p, h1, h2⟩ := pr_dvd (n := r) (by have := hr.pos; omega)
    exact .inl ⟨p, h1, Nat.dvd_trans h2 hr.dvd, Nat.dvd_zero p, fun _ z => hr.no2 (z ▸ h2)⟩
theorem cp_one {four : Prop} (m : Nat) : cp (Spl false 0 four) m = m - 1 := by
  rw [cp_congr (Q := fun n => ¬ n = 1) fun n hn _ => spl_one hn]
  have e := cp_not (P := fun n => n = 1) m
  have : cp (fun n => n = 1) m = if m = 0 then 0 else 1 := by
    clear e
    induction m with
    | zero => rfl
    | succ m ih =>
      unfold cp
      rw [ih]
      by_cases z : m = 0
      · subst z; simp
      · rw [if_neg z, if_neg (by omega), if_neg (by omega)]
  rw [this] at e
  split at e <;> omega
theorem cp_mone {four : Prop} (nf : ¬ four) (m k : Nat) (h1 : m < 2 ^ k) (h2 : k = 0 ∨ 2 ^ (k - 1) ≤ m) : cp (Spl true 0 four) m = m - k := by
  rw [cp_congr (Q := fun n => ¬ ∃ j, n = 2 ^ j) fun n hn _ => spl_mone hn nf]
  have e := cp_not (P := fun n => ∃ j, n = 2 ^ j) m
  rw [cp_pow2 m k h1 h2] at e
  omega
theorem pow2_le {m k : Nat} (h1 : m < 2 ^ k) (h2 : k = 0 ∨ 2 ^ (k - 1) ≤ m) : k ≤ m := by
  have := cp_le (P := fun n => ∃ j, n = 2 ^ j) m
  rw [cp_pow2 m k h1 h2] at this
  exact this
/-- some small n splits, with all its multiples -/
theorem small_spl {neg : Bool} {e : Nat} {four : Prop} (h : ¬ Alw neg e four) : ∃ s, 2 ≤ s ∧ (s ≤ e ∨ s ≤ 4) ∧ ∀ n, s ∣ n → Spl neg e four n := by
  have : ∃ n, 0 < n ∧ Spl neg e four n := Classical.byContradiction fun z => h fun n hn hs => z ⟨n, hn, hs⟩
  obtain ⟨n, hn, hs⟩ := this
  rcases hs with ⟨p, h1, h2, h3, h4⟩ | ⟨h1, h2, h3⟩
  · by_cases e0 : e = 0
    · subst e0
      have p3 : Pr 3 := ⟨by omega, fun d hd => by
        have := Nat.le_of_dvd (by omega) hd
        have : 0 < d := Nat.pos_of_dvd_of_pos hd (by omega)
        have : d ≠ 2 := fun z => by subst z; exact absurd hd (by decide)
        omega⟩
      exact ⟨3, by omega, .inr (by omega), fun n hn => .inl ⟨3, p3, hn, Nat.dvd_zero 3, fun _ => by omega⟩⟩
    · exact ⟨p, h1.two, .inl (Nat.le_of_dvd (by omega) h3), fun n hn => .inl ⟨p, h1, hn, h3, h4⟩⟩
  · exact ⟨4, by omega, .inr (by omega), fun n hn => .inr ⟨hn, h2, h3⟩⟩
end Ev
set_option Elab.async false
set_option linter.all false
set_option autoImplicit false
set_option maxRecDepth 100000
/-! a factor that makes a number always whole -/
namespace Ev
def prB (p : Nat) : Bool := decide (2 ≤ p) && (List.range p).all fun d => decide (d < 2) || decide (p % d ≠ 0)
theorem prB_ok {p : Nat} (h : prB p = true) : Pr p := by
  rw [prB, Bool.and_eq_true, decide_eq_true_iff, List.all_eq_true] at h
  refine ⟨h.1, fun d hd => ?_⟩
  have d1 := Nat.le_of_dvd (by omega) hd
  have d0 : 0 < d := Nat.pos_of_dvd_of_pos hd (by omega)
  by_cases z : d = p
  · exact .inr z
  · have := h.2 d (List.mem_range.mpr (by omega))
    rw [Bool.or_eq_true, decide_eq_true_iff, decide_eq_true_iff] at this
    rcases this with y | y
    · left; omega
    · exact absurd (Nat.mod_eq_zero_of_dvd hd) y
def prs : List Nat := (List.range 200).filter prB
theorem prs_big : 10 ^ 62 < prd (prs.filter fun p => decide (2 < p)) := by decide +kernel
theorem prs_pr : ∀ p ∈ prs.filter (fun p => decide (2 < p)), Pr p ∧ 2 < p ∧ p < 200 := fun p hp => by
  unfold prs at hp
  rw [List.mem_filter, List.mem_filter, List.mem_range, decide_eq_true_iff] at hp
  exact ⟨prB_ok hp.1.2, hp.2, hp.1.1⟩
theorem prs_cop : (prs.filter fun p => decide (2 < p)).Pairwise Nat.Coprime := by
  have h : (prs.filter fun p => decide (2 < p)).Pairwise (· < ·) := (List.pairwise_lt_range.filter _).filter _
  exact h.imp_of_mem fun {a b} ha hb hab => (prs_pr a ha).1.coq (prs_pr b hb).1 (by omega)
/-- an odd prime below 200 that divides neither -/
theorem new_pr {a b : Nat} (ha : 0 < a) (hb : 0 < b) (ha2 : a ≤ 10 ^ 30) (hb2 : b ≤ 10 ^ 30) : ∃ p, Pr p ∧ 2 < p ∧ p < 200 ∧ ¬ p ∣ a ∧ ¬ p ∣ b := by
  by_cases h : ∃ p ∈ prs.filter (fun p => decide (2 < p)), ¬ p ∣ a * b
  · obtain ⟨p, h1, h2⟩ := h
    obtain ⟨q1, q2, q3⟩ := prs_pr p h1
    exact ⟨p, q1, q2, q3, fun z => h2 (Nat.dvd_trans z ⟨b, rfl⟩), fun z => h2 (Nat.dvd_trans z ⟨a, Nat.mul_comm _ _⟩)⟩
  · have hd : prd (prs.filter fun p => decide (2 < p)) ∣ a * b := prd_dvd prs_cop fun x hx => Classical.byContradiction fun z => h ⟨x, hx, z⟩
    have h1 := Nat.le_of_dvd (Nat.mul_pos ha hb) hd
    have h2 := Nat.mul_le_mul ha2 hb2
    have h3 := prs_big
    have h4 : (10 : Nat) ^ 30 * 10 ^ 30 < 10 ^ 62 := by decide
    omega
theorem pr_sq {p x n : Nat} (hp : Pr p) (h : p ∣ x ^ n) (hn : n ≠ 0) : p ^ n ∣ x ^ n := (Nat.pow_dvd_pow_iff hn).mpr (hp.pow h)
/-- a top that has p once has no exponents above 1 -/
theorem once {p a n : Nat} (hp : Pr p) (h : ¬ p ∣ a) (hn : 0 < n) (hI : IsP (a * p) n) : n = 1 := by
  obtain ⟨x, hx⟩ := hI
  have h1 : p ∣ x ^ n := ⟨a, by rw [hx, Nat.mul_comm]⟩
  have h2 := pr_sq hp h1 (by omega)
  rw [hx] at h2
  by_cases z : n = 1
  · exact z
  · have h3 : p * p ∣ a * p := Nat.dvd_trans ⟨p ^ (n - 2), by rw [← Nat.pow_two, ← Nat.pow_add]; congr 1; omega⟩ h2
    exact absurd (Nat.dvd_of_mul_dvd_mul_right (by have := hp.two; omega) h3) h
end Ev
set_option Elab.async false
set_option linter.all false
set_option autoImplicit false
set_option maxRecDepth 100000
set_option exponentiation.threshold 3000
/-! Ev, part Na: odd parts, exponents, splitting by body. -/
namespace Ev
open PySem PySem.Spec PyProof.Rows L2
/-! ### numbers -/
theorem GoodN.big {a : Int} {b : Nat} (g : GoodN a b) : a.natAbs < 2 ^ 100 ∧ b < 2 ^ 100 := by
  have h1 : (10 : Nat) ^ 30 < 2 ^ 100 := by decide
  have := g.a1
  have := g.b1
  omega
def four (a : Int) (b : Nat) : Prop := a < 0 ∧ Fr4 (ft a b) (fb a b)
/-- the equation with n splits -/
def NS (a : Int) (b n : Nat) : Prop := ∃ e, Exq a.natAbs b e ∧ Spl (decide (a < 0)) e (four a b) n
def NAlw (a : Int) (b : Nat) : Prop := ∀ n, 0 < n → ¬ NS a b n
theorem ns_iff {a : Int} {b e n : Nat} (h : Exq a.natAbs b e) : NS a b n ↔ Spl (decide (a < 0)) e (four a b) n :=
  ⟨fun ⟨f, h1, h2⟩ => by rw [h.uniq h1]; exact h2, fun z => ⟨e, h, z⟩⟩
theorem nalw_iff {a : Int} {b e : Nat} (h : Exq a.natAbs b e) : NAlw a b ↔ Alw (decide (a < 0)) e (four a b) :=
  forall_congr' fun n => forall_congr' fun _ => not_congr (ns_iff h)
/-! ### base and exponent in one -/
structure Bse (a b x y n : Nat) : Prop where
  ex : Exq a b n
  le : n ≤ 500
  px : x ^ n = a
  py : y ^ n = b
  one : n = 0 → x = 1 ∧ y = 1
theorem Bse.uniq {a b x y n x' y' n' : Nat} (h : Bse a b x y n) (g : Bse a b x' y' n') : x = x' ∧ y = y' ∧ n = n' := by
  have e := h.ex.uniq g.ex
  subst e
  by_cases z : n = 0
  · obtain ⟨h1, h2⟩ := h.one z
    obtain ⟨g1, g2⟩ := g.one z
    exact ⟨h1.trans g1.symm, h2.trans g2.symm, rfl⟩
  · exact ⟨pow_inj z (h.px.trans g.px.symm), pow_inj z (h.py.trans g.py.symm), rfl⟩
theorem bf_all {g : Gam} (hg : SpBf g) (st : List D) (kk : KT2) (e : KX2) (a : Int) (b : Nat) (a0 : a ≠ 0) (b0 : 0 < b) (h1 : a.natAbs < 2 ^ 500) (h2 : b < 2 ^ 500) (h : ∀ x y n, Bse a.natAbs b x y n → kk (.v (beD x y n)) st) : g [nD a b] st kk e :=
  hg st kk e a b a0 b0 h1 h2 (fun e1 e2 => h 1 1 0 ⟨.inl ⟨e1, e2, rfl⟩, by omega, by rw [e1], by rw [e2], fun _ => ⟨rfl, rfl⟩⟩)
    fun x y n hne G hn ex ey => h x y n ⟨.inr ⟨hne, G⟩, hn, ex, ey, fun z => by have := G.pos; omega⟩
/-- what four_for tells -/
inductive FoR (a : Int) (b : Nat) : D → Prop where
  | non (h : ¬ four a b) : FoR a b .non
  | root (x y : Nat) (h : a < 0) (ex : x ^ 4 = ft a b) (ey : y ^ 4 = fb a b) : FoR a b (.tup [.int (x : Int), .int (y : Int)])
theorem FoR.none {a : Int} {b : Nat} {d : D} (h : FoR a b d) : isNone d = false ↔ four a b := by
  cases h with
  | non h => exact ⟨fun z => (by cases z), fun z => absurd z h⟩
  | root x y h1 h2 h3 => exact ⟨fun _ => ⟨h1, ⟨x, h2⟩, ⟨y, h3⟩⟩, fun _ => rfl⟩
theorem FoR.uniq {a : Int} {b : Nat} {d d' : D} (h : FoR a b d) (h' : FoR a b d') : d = d' := by
  cases h with
  | non h1 =>
    cases h' with
    | non _ => rfl
    | root x y ha ex ey => exact absurd ⟨ha, ⟨x, ex⟩, ⟨y, ey⟩⟩ h1
  | root x y ha ex ey =>
    cases h' with
    | non h1 => exact absurd ⟨ha, ⟨x, ex⟩, ⟨y, ey⟩⟩ h1
    | root x' y' _ ex' ey' => rw [pow_inj (n := 4) (by decide) (ex.trans ex'.symm), pow_inj (n := 4) (by decide) (ey.trans ey'.symm)]
theorem fr_all {g : Gam} (hg : SpFr g) (st : List D) (kk : KT2) (e : KX2) (a : Int) (b : Nat) (a0 : a ≠ 0) (b0 : 0 < b) (h1 : a.natAbs < 2 ^ 400) (h2 : b < 2 ^ 400) (h : ∀ d, FoR a b d → kk (.v d) st) : g [nD a b] st kk e :=
  hg st kk e a b a0 b0 h1 h2 (fun z => h _ (.non fun y => absurd y.1 (by omega))) (fun z y => h _ (.non fun w => y w.2)) fun z x y ex ey => h _ (.root x y z ex ey)
/-! ### odd_part -/
def SpOp (g : Gam) : Prop := ∀ (st : List D) (kk : KT2) (e : KX2) (n : Nat), 0 < n → (∀ r, Odp n r → kk (.v (.int (r : Int))) st) → g [.int n] st kk e
-- odd_part ["value"] 
def mOp : MSs := (.cons (.whil (.val (.cmp .Eq (.bin .Mod (.var 0) (.c (.int 2))) (.c (.int 0)))) (.cons (.set 0 (.bin .FloorDiv (.var 0) (.c (.int 2)))) .nil)) (.cons (.retv 0) .nil))
theorem body_op (Γ : Nat → Gam) : SpOp (gBody 1 (wSs Γ mOp)) := by
  intro st kk e n hn h
  refine ⟨fun m en s => s = st ∧ ∃ v k : Nat, en = [some (.v (.int v))] ∧ n = v * 2 ^ k ∧ v = m, ⟨n, rfl, n, 0, rfl, by simp, rfl⟩, ?_⟩
  rintro m en s ⟨rfl, v, k, rfl, h1, rfl⟩
  have v0 : 0 < v := Nat.pos_of_ne_zero fun z => by subst z; omega
  refine ⟨by decide, .inl rfl, _, rfl, ifB (fun h0 => ?_) (fun h0 => ?_)⟩
  · have h0 := eqT h0
    refine ⟨cdiv (by decide) (by decide), v / 2, by omega, rfl, v / 2, k + 1, by rfl, ?_, rfl⟩
    rw [Nat.pow_succ, Nat.mul_comm (2 ^ k), ← Nat.mul_assoc, h1]
    congr 1
    omega
  · have h0 := eqF h0
    exact h v ⟨by omega, k, h1⟩
/-! ### shared, is_split_by_four, does_split -/
theorem deq_int {x y : Int} {b : Bool} (h : b = decide (x = y)) : deq (.int x) (.int y) = b := by rw [deqI, h]
def SpSh (g : Gam) : Prop := ∀ (st : List D) (kk : KT2) (e : KX2) (a : Int) (b n : Nat), GoodN a b → 0 < n → (∀ x m, Exq a.natAbs b x → x ≤ 500 → (if decide (a < 0) = true then Odp n m else m = n) → kk (.v (.int (Nat.gcd m x : Nat))) st) → g [nD a b, .int n] st kk e
-- shared ["number", "n"] q=common_divisor/2 r=odd_part/1 s=base_for/1
def mSh (q r s : Nat) : MSs := (.cons (.ret (.call q 2 0 (.cons (.ite (.val (.cmp .Gt (.ix (.var 0) (.c (.int 0))) (.c (.int 0)))) (.var 1) (.call r 1 0 (.cons (.var 1) .nil) .nil)) (.cons (.ix (.call s 1 0 (.cons (.var 0) .nil) .nil) (.c (.int 1))) .nil)) .nil)) .nil)
theorem body_sh (Γ : Nat → Gam) (q r s : Nat) (hq : SpOp (Γ q)) (hr : SpBf (Γ r)) (hs : SpGcd (Γ s)) : SpSh (gBody 2 (wSs Γ (mSh s q r))) := by
  intro st kk e a b n g n0 h
  have big := g.big
  have b5 : (2 : Nat) ^ 100 < 2 ^ 500 := by decide
  refine ⟨_, rfl, _, rfl, ifB (fun h0 => ?_) (fun h0 => ?_)⟩
  · have h0 := of_decide_eq_true h0
    refine ⟨rfl, rfl, bf_all hr _ _ _ _ _ g.a0 g.b0 (by omega) (by omega) fun x y m hb => ⟨_, rfl, rfl, rfl, hs _ _ _ _ _ (h m n hb.ex hb.le ?_)⟩⟩
    rw [if_neg (by simp; omega)]
  · have h0 := of_decide_eq_false h0
    refine ⟨rfl, rfl, hq _ _ _ _ n0 fun r' o => ⟨rfl, rfl, bf_all hr _ _ _ _ _ g.a0 g.b0 (by omega) (by omega) fun x y m hb => ⟨_, rfl, rfl, rfl, hs _ _ _ _ _ (h m r' hb.ex hb.le ?_)⟩⟩⟩
    rw [if_pos (by have := g.a0; simp; omega)]
    exact o
def SpB4 (g : Gam) : Prop := ∀ (st : List D) (kk : KT2) (e : KX2) (a : Int) (b n : Nat), GoodN a b → (∀ t : Bool, (t = true ↔ 4 ∣ n ∧ four a b) → kk (.v (.bl t)) st) → g [nD a b, .int n] st kk e
-- is_split_by_four ["number", "n"] q=four_for/1
def mB4 (q : Nat) : MSs := (.cons (.ret (.and (.cmp .Eq (.bin .Mod (.var 1) (.c (.int 4))) (.c (.int 0))) (.cmp .IsNot (.call q 1 0 (.cons (.var 0) .nil) .nil) (.c .non)))) .nil)
theorem body_b4 (Γ : Nat → Gam) (q : Nat) (hq : SpFr (Γ q)) : SpB4 (gBody 2 (wSs Γ (mB4 q))) := by
  intro st kk e a b n g h
  have big := g.big
  have b5 : (2 : Nat) ^ 100 < 2 ^ 400 := by decide
  refine ⟨by decide, .inl rfl, mD (fun h0 => ?_) (fun h0 => ?_)⟩
  · have h0 := eqT h0
    refine ⟨rfl, rfl, fr_all hq _ _ _ _ _ g.a0 g.b0 (by omega) (by omega) fun d hd => h _ ?_⟩
    show (!isNone d) = true ↔ _
    rw [Bool.not_eq_true', hd.none]
    exact ⟨fun z => ⟨by omega, z⟩, fun z => z.2⟩
  · have h0 := eqF h0
    exact h _ ⟨fun z => (by cases z), fun z => (by omega)⟩
def SpDs (g : Gam) : Prop := ∀ (st : List D) (kk : KT2) (e : KX2) (a : Int) (b n : Nat), GoodN a b → 0 < n → (∀ t : Bool, (t = true ↔ NS a b n) → kk (.v (.bl t)) st) → g [nD a b, .int n] st kk e
-- does_split ["number", "n"] q=shared/2 r=is_split_by_four/2
def mDs (q r : Nat) : MSs := (.cons (.ret (.or (.cmp .Gt (.call q 2 0 (.cons (.var 0) (.cons (.var 1) .nil)) .nil) (.c (.int 1))) (.call r 2 0 (.cons (.var 0) (.cons (.var 1) .nil)) .nil))) .nil)
theorem body_ds (Γ : Nat → Gam) (q r : Nat) (hq : SpSh (Γ q)) (hr : SpB4 (Γ r)) : SpDs (gBody 2 (wSs Γ (mDs q r))) := by
  intro st kk e a b n g n0 h
  refine ⟨rfl, rfl, hq _ _ _ _ _ _ g n0 fun x m ex _ hm => mD (fun h0 => ?_) (fun h0 => ?_)⟩
  · have h0 := of_decide_eq_true h0
    refine h _ ⟨fun _ => ?_, fun _ => rfl⟩
    rw [ns_iff ex, spl_gcd n0 hm]
    left; omega
  · have h0 := of_decide_eq_false h0
    refine ⟨rfl, rfl, hr _ _ _ _ _ _ g fun t ht => h t ?_⟩
    rw [ns_iff ex, spl_gcd n0 hm, ht]
    constructor
    · rintro ⟨z1, z2⟩
      exact .inr ⟨z1, by simp [z2.1], z2⟩
    · rintro (z | ⟨z1, _, z2⟩)
      · omega
      · exact ⟨z1, z2⟩
/-! ### is_always -/
def SpAl (g : Gam) : Prop := ∀ (st : List D) (kk : KT2) (e : KX2) (a : Int) (b : Nat), a ≠ 0 → 0 < b → a.natAbs < 2 ^ 200 → b < 2 ^ 200 → (∀ t : Bool, (t = true ↔ NAlw a b) → kk (.v (.bl t)) st) → g [nD a b] st kk e
-- is_always ["number", "power"] q=base_for/1 r=odd_part/1 s=four_for/1
def mAl (q r s : Nat) : MSs := (.cons (.set 1 (.ix (.call q 1 0 (.cons (.var 0) .nil) .nil) (.c (.int 1)))) (.cons (.ifs (.val (.cmp .Gt (.ix (.var 0) (.c (.int 0))) (.c (.int 0)))) (.cons (.ret (.cmp .Eq (.var 1) (.c (.int 1)))) .nil) .nil) (.cons (.ret (.and (.cmp .Gt (.var 1) (.c (.int 0))) (.and (.cmp .Eq (.call r 1 0 (.cons (.var 1) .nil) .nil) (.c (.int 1))) (.cmp .Is (.call s 1 0 (.cons (.var 0) .nil) .nil) (.c .non))))) .nil)))
theorem body_al (Γ : Nat → Gam) (q r s : Nat) (hq : SpBf (Γ q)) (hr : SpOp (Γ r)) (hs : SpFr (Γ s)) : SpAl (gBody 2 (wSs Γ (mAl q r s))) := by
  intro st kk e a b a0 b0 ha hb h
  have b4 : (2 : Nat) ^ 200 < 2 ^ 400 := by decide
  have b5 : (2 : Nat) ^ 400 < 2 ^ 500 := by decide
  refine ⟨rfl, rfl, bf_all hq _ _ _ _ _ a0 b0 (by omega) (by omega) fun x y n hb' => ⟨_, rfl, _, rfl, _, rfl, ifB (fun h0 => ?_) (fun h0 => ?_)⟩⟩
  · have h0 := of_decide_eq_true h0
    refine ⟨.inl rfl, h _ ?_⟩
    show deq (.int (n : Int)) (.int 1) = true ↔ _
    rw [nalw_iff hb'.ex, show decide (a < 0) = false from decide_eq_false (by omega), alw_pos, deqI, decide_eq_true_iff]
    omega
  · have h0 := of_decide_eq_false h0
    have key : NAlw a b ↔ (0 < n ∧ Odp n 1) ∧ ¬ four a b := by
      rw [nalw_iff hb'.ex, show decide (a < 0) = true from decide_eq_true (by omega), alw_neg]
    refine mD (fun h1 => ?_) (fun h1 => ?_)
    · have h1 := of_decide_eq_true h1
      refine ⟨rfl, rfl, hr _ _ _ n (by omega) fun o ho => ⟨.inl rfl, mD (fun h2 => ?_) (fun h2 => ?_)⟩⟩
      · have h2 := eqT h2
        have o1 : o = 1 := by omega
        subst o1
        refine ⟨rfl, rfl, fr_all hs _ _ _ _ _ a0 b0 (by omega) (by omega) fun d hd => h _ ?_⟩
        show isNone d = true ↔ _
        rw [key]
        have := hd.none
        constructor
        · intro z
          exact ⟨⟨by omega, ho⟩, fun y => by rw [this.mpr y] at z; cases z⟩
        · intro z
          cases q : isNone d
          · exact absurd (this.mp q) z.2
          · rfl
      · have h2 := eqF h2
        refine h _ ⟨fun z => (by cases z), fun z => ?_⟩
        rw [key] at z
        have := ho.uniq z.1.2
        omega
    · have h1 := of_decide_eq_false h1
      refine h _ ⟨fun z => (by cases z), fun z => ?_⟩
      rw [key] at z
      omega
def SpAw (g : Gam) : Prop := ∀ (st : List D) (kk : KT2) (e : KX2) (a : Int) (b : Nat), GoodN a b → (∀ t : Bool, (t = true ↔ NAlw a b) → kk (.v (.bl t)) st) → g [nD a b] st kk e
-- is_always_whole ["number"] q=check_number/1 r=is_always/1
def mAw (q r : Nat) : MSs := (.cons (.expr (.call q 1 0 (.cons (.var 0) .nil) .nil)) (.cons (.ret (.call r 1 0 (.cons (.var 0) .nil) .nil)) .nil))
theorem body_aw (Γ : Nat → Gam) (q r : Nat) (hq : SpCkN (Γ q)) (hr : SpAl (Γ r)) : SpAw (gBody 1 (wSs Γ (mAw q r))) := by
  intro st kk e a b g h
  have b5 : (2 : Nat) ^ 100 < 2 ^ 200 := by decide
  have big := g.big
  exact ⟨rfl, rfl, hq _ _ _ _ _ g ⟨rfl, rfl, hr _ _ _ _ _ g.a0 g.b0 (by omega) (by omega) h⟩⟩
/-! ### check_degree -/
def SpCd (lo hi : Int) (g : Gam) : Prop := ∀ (st : List D) (kk : KT2) (e : KX2) (v : Int), lo ≤ v → v ≤ hi → kk (.v .non) st → g [.int v, .int hi, .int lo] st kk e
-- check_degree ["value", "most", "least"] q=is_between/3
def mCd (q : Nat) : MSs := (.cons (.ifs (.not (.val (.call q 3 0 (.cons (.var 0) (.cons (.var 2) (.cons (.var 1) .nil))) .nil))) (.cons .never .nil) .nil) .nil)
theorem body_cd (Γ : Nat → Gam) (q : Nat) (hq : SpBtw (Γ q)) (lo hi : Int) : SpCd lo hi (gBody 3 (wSs Γ (mCd q))) := by
  intro st kk e v h1 h2 h
  refine ⟨rfl, rfl, hq _ _ _ _ _ _ ⟨_, rfl, ?_⟩⟩
  rw [decide_eq_true (show lo ≤ v ∧ v ≤ hi from ⟨h1, h2⟩)]
  exact ifN noF h
end Ev
set_option Elab.async false
set_option linter.all false
set_option autoImplicit false
set_option maxRecDepth 100000
set_option exponentiation.threshold 3000
/-! Ev, part Nb: primes, steps, counts by body. -/
namespace Ev
open PySem PySem.Spec PyProof.Rows L2
def nats (L : List Nat) : List D := L.map fun p : Nat => D.int (p : Int)
theorem nats_len (L : List Nat) : (nats L).length = L.length := by unfold nats; rw [List.length_map]
theorem nats_app (L M : List Nat) : nats (L ++ M) = nats L ++ nats M := by unfold nats; rw [List.map_append]
/-! ### prime_divisors -/
def SpPd (g : Gam) : Prop := ∀ (st : List D) (kk : KT2) (e : KX2) (v : Nat), 1 ≤ v → v ≤ 1000000 → (∀ L, Pds v L → kk (.o (.lst (nats L))) st) → g [.int v] st kk e
-- prime_divisors ["value", "found", "left", "step"] 
def mPd : MSs := (.cons (.par [1, 2, 3] (.cons (.lst .nil) (.cons (.var 0) (.cons (.c (.int 2)) .nil)))) (.cons (.whil (.val (.cmp .LtE (.bin .Mult (.var 3) (.var 3)) (.var 2))) (.cons (.ifs (.val (.cmp .Eq (.bin .Mod (.var 2) (.var 3)) (.c (.int 0)))) (.cons (.app 1 (.var 3)) (.cons (.whil (.val (.cmp .Eq (.bin .Mod (.var 2) (.var 3)) (.c (.int 0)))) (.cons (.set 2 (.bin .FloorDiv (.var 2) (.var 3))) .nil)) .nil)) .nil) (.cons (.inc 3 (.c (.int 1))) .nil))) (.cons (.ret (.bin .Add (.var 1) (.ite (.val (.cmp .Gt (.var 2) (.c (.int 1)))) (.lst (.cons (.var 2) .nil)) (.lst .nil)))) .nil)))
theorem asc_len0 : ∀ {L : List Nat} {s lo : Nat}, L.Pairwise (· < ·) → (∀ p ∈ L, lo ≤ p) → (∀ p ∈ L, p < s) → lo ≤ s → L.length + lo ≤ s
  | [], s, lo, _, _, _, h => by show 0 + lo ≤ s; omega
  | x :: L, s, lo, h1, h2, h3, h4 => by
    rw [List.pairwise_cons] at h1
    have a := h2 x List.mem_cons_self
    have b := h3 x List.mem_cons_self
    have := asc_len0 (s := s) (lo := x + 1) h1.2 (fun p hp => h1.1 p hp) (fun p hp => h3 p (List.mem_cons_of_mem _ hp)) (by omega)
    rw [List.length_cons]
    omega
theorem asc_len {L : List Nat} {s : Nat} (h1 : L.Pairwise (· < ·)) (h2 : ∀ p ∈ L, p < s) : L.length ≤ s := asc_len0 (lo := 0) h1 (fun _ _ => Nat.zero_le _) h2 (Nat.zero_le _)
theorem PdI.len {v l s : Nat} {f : List Nat} (I : PdI v f l s) : f.length ≤ s := asc_len I.asc I.lt
theorem body_pd (Γ : Nat → Gam) : SpPd (gBody 4 (wSs Γ mPd)) := by
  intro st kk e v v1 v2 h
  have sz : sizeLine = 16777216 := sizeLine_eq
  refine szs rfl ⟨rfl, ?_⟩
  refine ⟨fun m en s' => s' = st ∧ ∃ (f : List Nat) (l s : Nat), en = [some (.v (.int v)), some (.o (.lst (nats f))), some (.v (.int l)), some (.v (.int s))] ∧ PdI v f l s ∧ s ≤ v + 2 ∧ v + 2 - s = m, ⟨v, rfl, [], v, 2, rfl, pdI0 v1, by omega, by omega⟩, ?_⟩
  rintro m en s' ⟨rfl, f, l, s, rfl, I, hs, hm⟩
  have lv : l ≤ v := Nat.le_of_dvd (by omega) I.dv
  have s2 := I.s2
  refine ⟨mulL (by omega), _, rfl, ifB (fun h0 => ?_) (fun h0 => ?_)⟩
  · have h0 : s * s ≤ l := by have := of_decide_eq_true h0; omega
    have hsl : s ≤ l := Nat.le_trans (Nat.le_mul_of_pos_left s (by omega)) h0
    refine ⟨by omega, .inl rfl, _, rfl, ifB (fun h1 => ?_) (fun h1 => ?_)⟩
    · have h1 := eqT h1
      have hd : s ∣ l := Nat.dvd_of_mod_eq_zero (by omega)
      have fl := I.len
      refine ⟨_, _, rfl, fApp_d (by rw [nats_len]; omega), ?_⟩
      refine ⟨fun m2 en2 s2' => s2' = s' ∧ ∃ (l2 k : Nat), en2 = [some (.v (.int v)), some (.o (.lst (nats (f ++ [s])))), some (.v (.int l2)), some (.v (.int s))] ∧ l = l2 * s ^ k ∧ l2 = m2, ⟨l, rfl, l, 0, by rw [nats_app]; rfl, by simp, rfl⟩, ?_⟩
      rintro m2 en2 s2' ⟨rfl, l2, k, rfl, h3, rfl⟩
      have l20 : 0 < l2 := Nat.pos_of_ne_zero fun z => by subst z; have := I.l1; omega
      refine ⟨by omega, .inl rfl, _, rfl, ifB (fun h4 => ?_) (fun h4 => ?_)⟩
      · have h4 := eqT h4
        obtain ⟨w, hw⟩ := Nat.dvd_of_mod_eq_zero (show l2 % s = 0 by omega)
        have e1 : l2 / s = w := by rw [hw]; exact Nat.mul_div_cancel_left w (by omega)
        refine ⟨cdiv (by omega) (by omega), l2 / s, Nat.div_lt_self l20 (by omega), rfl, l2 / s, k + 1, by rfl, ?_, rfl⟩
        rw [e1, h3, hw, Nat.pow_succ, Nat.mul_comm s w, Nat.mul_assoc, Nat.mul_comm s]
      · have h4 := eqF h4
        refine ⟨_, rfl, v + 2 - (s + 1), by omega, rfl, f ++ [s], l2, s + 1, rfl, I.yes hd h3 fun z => h4 ?_, by omega, rfl⟩
        have := Nat.mod_eq_zero_of_dvd z
        omega
    · have h1 := eqF h1
      refine ⟨_, rfl, v + 2 - (s + 1), by omega, rfl, f, l, s + 1, rfl, I.no fun z => h1 ?_, by omega, rfl⟩
      have := Nat.mod_eq_zero_of_dvd z
      omega
  · have h0 : l < s * s := by have := of_decide_eq_false h0; omega
    have F := I.fin h0
    have fl := I.len
    refine ⟨_, rfl, ifB (fun h1 => ?_) (fun h1 => ?_)⟩
    · have h1 : 1 < l := by have := of_decide_eq_true h1; omega
      rw [if_pos h1] at F
      refine szs rfl ⟨?_, ?_⟩
      · rw [nats_len]; show f.length + 1 ≤ _; omega
      · have := h _ F
        rw [nats_app] at this
        exact this
    · have h1 : ¬ 1 < l := by have := of_decide_eq_false h1; omega
      rw [if_neg h1, List.append_nil] at F
      refine szs rfl ⟨?_, ?_⟩
      · rw [nats_len]; show f.length + 0 ≤ _; omega
      · have := h _ F
        rw [← List.append_nil (nats f)] at this
        exact this
/-! ### is_one, powers_up_to -/
def SpI1 (g : Gam) : Prop := ∀ (st : List D) (kk : KT2) (e : KX2) (a : Int) (b : Nat), kk (.v (.bl (decide (a.natAbs = b)))) st → g [nD a b] st kk e
-- is_one ["number"] 
def mI1 : MSs := (.cons (.ret (.cmp .Eq (.bi .abs (.cons (.ix (.var 0) (.c (.int 0))) .nil)) (.ix (.var 0) (.c (.int 1))))) .nil)
theorem body_i1 (Γ : Nat → Gam) : SpI1 (gBody 1 (wSs Γ mI1)) := by
  intro st kk e a b h
  refine ⟨_, rfl, _, rfl, .inl rfl, ?_⟩
  show kk (.v (.bl (deq (.int (if a < 0 then -a else a)) (.int (b : Int))))) st
  rw [deqI, abs_nat]
  have : decide ((a.natAbs : Int) = (b : Int)) = decide (a.natAbs = b) := by
    congr 1
    exact propext ⟨fun z => by omega, fun z => by omega⟩
  rw [this]
  exact h
def SpPu (g : Gam) : Prop := ∀ (st : List D) (kk : KT2) (e : KX2) (m : Nat), (∀ k : Nat, m < 2 ^ k → (k = 0 ∨ 2 ^ (k - 1) ≤ m) → kk (.v (.int (k : Int))) st) → g [.int m] st kk e
-- powers_up_to ["many", "found", "power"] 
def mPu : MSs := (.cons (.asg (.tup (.cons (.c (.int 0)) (.cons (.c (.int 1)) .nil))) (.tup 2 (.cons (.name 1) (.cons (.name 2) .nil)))) (.cons (.whil (.val (.cmp .LtE (.var 2) (.var 0))) (.cons (.par [1, 2] (.cons (.bin .Add (.var 1) (.c (.int 1))) (.cons (.bin .Mult (.c (.int 2)) (.var 2)) .nil))) .nil)) (.cons (.retv 1) .nil)))
theorem body_pu (Γ : Nat → Gam) : SpPu (gBody 3 (wSs Γ mPu)) := by
  intro st kk e m h
  refine szs rfl ⟨rfl, rfl, ?_⟩
  refine ⟨fun w en s => s = st ∧ ∃ k : Nat, en = [some (.v (.int m)), some (.v (.int k)), some (.v (.int ((2 ^ k : Nat) : Int)))] ∧ (k = 0 ∨ 2 ^ (k - 1) ≤ m) ∧ 2 * m + 1 - 2 ^ k = w, ⟨_, rfl, 0, rfl, .inl rfl, rfl⟩, ?_⟩
  rintro w en s ⟨rfl, k, rfl, h1, h2⟩
  have hp := Nat.pow_pos (n := k) (show 0 < 2 by decide)
  refine ⟨_, rfl, ifB (fun h0 => ?_) (fun h0 => ?_)⟩
  · have h0 : 2 ^ k ≤ m := by have := of_decide_eq_true h0; omega
    have e1 : 2 ^ (k + 1) = 2 * 2 ^ k := by rw [Nat.pow_succ, Nat.mul_comm]
    refine ⟨mul2, rfl, 2 * m + 1 - 2 ^ (k + 1), by omega, rfl, k + 1, ?_, .inr (by simpa using h0), rfl⟩
    rw [e1, Int.natCast_mul]
    rfl
  · have h0 : m < 2 ^ k := by have := of_decide_eq_false h0; omega
    exact h k h0 h1
/-! ### steps_for -/
/-- the steps of a number -/
def Stf (a : Int) (b : Nat) (S : List Nat) : Prop := (a.natAbs = b ∧ S = [] ∧ 0 < a) ∨ (a.natAbs = b ∧ a < 0) ∨ (a.natAbs ≠ b ∧ ∃ e, Exq a.natAbs b e ∧ 0 < e ∧ e ≤ 500 ∧ Stp (decide (a < 0)) e (four a b) S)
theorem good_one {a : Int} {b : Nat} (g : GoodN a b) : a.natAbs = b ↔ a.natAbs = 1 ∧ b = 1 := by
  constructor
  · intro z
    have := g.co
    rw [z, Nat.gcd_self] at this
    omega
  · omega
def posD : D → Bool
  | .int i => decide (2 < i)
  | _ => false
theorem filt_nats (L : List Nat) : ((nats L).filter posD).map (fun d => (T.v d).d) = nats (L.filter fun p => decide (2 < p)) := by
  unfold nats
  induction L with
  | nil => rfl
  | cons x L ih =>
    have e : posD (.int (x : Int)) = decide (2 < x) := by
      show decide ((2 : Int) < (x : Int)) = _
      congr 1
      exact propext ⟨fun z => by omega, fun z => by omega⟩
    rw [List.map_cons, List.filter_cons, List.filter_cons, e]
    by_cases z : 2 < x
    · rw [if_pos (decide_eq_true z), if_pos (decide_eq_true z), List.map_cons, ih]; rfl
    · rw [if_neg (by simpa using z), if_neg (by simpa using z), ih]
def SpSf (g : Gam) : Prop := ∀ (st : List D) (kk : KT2) (e : KX2) (a : Int) (b : Nat), GoodN a b → (∀ S, Stf a b S → S.length ≤ 12 → kk (.o (.lst (nats S))) st) → g [nD a b] st kk e
-- steps_for ["number", "primes", "prime"] q=is_one/1 r=prime_divisors/1 s=base_for/1 t=four_for/1
def mSf (q r s t : Nat) : MSs := (.cons (.set 1 (.ite (.not (.val (.call q 1 0 (.cons (.var 0) .nil) .nil))) (.call r 1 0 (.cons (.ix (.call s 1 0 (.cons (.var 0) .nil) .nil) (.c (.int 1))) .nil) .nil) (.lst .nil))) (.cons (.ifs (.val (.cmp .Gt (.ix (.var 0) (.c (.int 0))) (.c (.int 0)))) (.cons (.retv 1) .nil) .nil) (.cons (.ret (.bin .Add (.lc (.any (.var 1)) (.one 2) (.val (.cmp .Gt (.var 2) (.c (.int 2)))) (.var 2) [2]) (.ite (.val (.cmp .IsNot (.call t 1 0 (.cons (.var 0) .nil) .nil) (.c .non))) (.lst (.cons (.c (.int 4)) .nil)) (.lst .nil)))) .nil)))
def tl : MSs → MSs
  | .cons _ r => r
  | .nil => .nil
theorem body_sf (Γ : Nat → Gam) (q r s t : Nat) (hq : SpI1 (Γ q)) (hr : SpPd (Γ r)) (hs : SpBf (Γ s)) (ht : SpFr (Γ t)) : SpSf (gBody 3 (wSs Γ (mSf q r s t))) := by
  intro st kk e a b g h
  have big := g.big
  have b5 : (2 : Nat) ^ 100 < 2 ^ 500 := by decide
  have b4 : (2 : Nat) ^ 100 < 2 ^ 400 := by decide
  have sz : sizeLine = 16777216 := sizeLine_eq
  have tail : ∀ (L : List Nat), L.length ≤ 11 → (0 < a → Stf a b L) → (a < 0 → ∀ F, ((four a b ∧ F = [4]) ∨ (¬ four a b ∧ F = [])) → Stf a b (L.filter (fun p => decide (2 < p)) ++ F)) → wSs Γ (tl (mSf q r s t)) [some (.v (nD a b)), some (.o (.lst (nats L))), none] st (endOf kk e) := by
    intro L hl k1 k2
    refine ⟨_, rfl, _, rfl, ifB (fun h0 => ?_) (fun h0 => ?_)⟩
    · have h0 := of_decide_eq_true h0
      exact h L (k1 h0) (by omega)
    · have h0 := of_decide_eq_false h0
      have h1 : a < 0 := by have := g.a0; omega
      refine lc_pure posD T.v (nats L) (by rw [nats_len]; omega) (fun d hd => ?_) ?_
      · obtain ⟨p, _, rfl⟩ := List.mem_map.mp hd
        exact ⟨_, rfl, rfl, fun K hK => ⟨_, rfl, hK⟩, fun _ K hK => hK⟩
      · rw [filt_nats]
        have fl : (L.filter fun p => decide (2 < p)).length ≤ 11 := Nat.le_trans (List.length_filter_le _ _) hl
        refine ⟨rfl, rfl, fr_all ht _ _ _ _ _ g.a0 g.b0 (by omega) (by omega) fun d hd => ⟨_, rfl, ifB (fun h2 => ?_) (fun h2 => ?_)⟩⟩
        · replace h2 : (!isNone d) = true := h2
          rw [Bool.not_eq_true', hd.none] at h2
          refine szs rfl ⟨by rw [nats_len]; show _ + 1 ≤ _; omega, ?_⟩
          have := h _ (k2 h1 [4] (.inl ⟨h2, rfl⟩)) (by rw [List.length_append]; show _ + 1 ≤ _; omega)
          rw [nats_app] at this
          exact this
        · have h2 : ¬ four a b := fun z => by
            replace h2 : (!isNone d) = false := h2
            rw [hd.none.mpr z] at h2
            cases h2
          refine szs rfl ⟨by rw [nats_len]; show _ + 0 ≤ _; omega, ?_⟩
          have := h _ (k2 h1 [] (.inr ⟨h2, rfl⟩)) (by rw [List.length_append]; show _ + 0 ≤ _; omega)
          rw [nats_app] at this
          exact this
  by_cases one : a.natAbs = b
  · refine ⟨rfl, rfl, hq _ _ _ _ _ ⟨_, rfl, ?_⟩⟩
    rw [decide_eq_true one]
    refine ifN noF (szs rfl ?_)
    exact tail [] (by decide) (fun z => .inl ⟨one, rfl, z⟩) fun z F _ => .inr (.inl ⟨one, z⟩)
  · refine ⟨rfl, rfl, hq _ _ _ _ _ ⟨_, rfl, ?_⟩⟩
    rw [decide_eq_false one]
    refine ifP rfl ⟨rfl, rfl, bf_all hs _ _ _ _ _ g.a0 g.b0 (by omega) (by omega) fun x y n hb => ⟨_, rfl, rfl, rfl, ?_⟩⟩
    have n0 : 0 < n := by
      rcases hb.ex with ⟨z1, z2, _⟩ | ⟨_, z⟩
      · exact absurd (z1.trans z2.symm) one
      · exact z.pos
    have nle := hb.le
    refine hr _ _ _ n (by omega) (by omega) fun L hL => ?_
    have ll : L.length ≤ 11 := by
      have h1 := hL.len n0
      have h3 : (2 : Nat) ^ 12 = 4096 := by decide
      have h2 : 2 ^ L.length < 2 ^ 12 := by omega
      have := (Nat.pow_lt_pow_iff_right (a := 2) (by omega)).mp h2
      omega
    refine tail L ll (fun z => .inr (.inr ⟨one, n, hb.ex, n0, nle, ?_⟩)) fun z F hF => .inr (.inr ⟨one, n, hb.ex, n0, nle, ?_⟩)
    · rw [show decide (a < 0) = false from decide_eq_false (by omega)]
      exact stp_pos hL n0
    · rw [show decide (a < 0) = true from decide_eq_true z]
      exact stp_neg hL n0 hF
/-! ### multiples, count_by -/
def sgD (x : Int × Nat) : D := .tup [.int x.1, .int x.2]
def SpMul (g : Gam) : Prop := ∀ (st : List D) (kk : KT2) (e : KX2) (S : List Nat) (m : Nat), S.Pairwise Nat.Coprime → (∀ s ∈ S, 2 ≤ s ∧ s ≤ 500) → S.length ≤ 12 → kk (.v (.int (cp (fun n => ∃ l ∈ S, l ∣ n) m : Nat))) st → g [.lst (nats S), .int m] st kk e
-- multiples ["steps", "many", "signed", "step", "sign", "product"] 
def mMul : MSs := (.cons (.set 2 (.lst (.cons (.tup (.cons (.c (.int 1)) (.cons (.c (.int 1)) .nil))) .nil))) (.cons (.forr (.any (.var 0)) (.name 3) (.cons (.set 2 (.bin .Add (.var 2) (.lc (.any (.var 2)) (.many [4, 5]) .yes (.tup (.cons (.neg (.var 4)) (.cons (.bin .Mult (.var 5) (.var 3)) .nil))) [4, 5]))) .nil)) (.cons (.ret (.bin .Sub (.var 1) (.bi .sum (.cons (.lc (.any (.var 2)) (.many [4, 5]) .yes (.bin .Mult (.var 4) (.bin .FloorDiv (.var 1) (.var 5))) [4, 5]) .nil)))) .nil)))
theorem prd_le {c : Nat} : ∀ {L : List Nat}, (∀ x ∈ L, x ≤ c) → prd L ≤ c ^ L.length
  | [], _ => Nat.le_refl _
  | x :: L, h => by
    rw [List.length_cons, Nat.pow_succ, Nat.mul_comm]
    exact Nat.mul_le_mul (h x List.mem_cons_self) (prd_le fun y hy => h y (List.mem_cons_of_mem _ hy))
theorem prd_pos : ∀ {L : List Nat}, (∀ x ∈ L, 2 ≤ x) → 0 < prd L
  | [], _ => by decide
  | x :: L, h => Nat.mul_pos (by have := h x List.mem_cons_self; omega) (prd_pos fun y hy => h y (List.mem_cons_of_mem _ hy))
def negD (l : Nat) : D → T
  | .tup [.int s, .int p] => .v (.tup [.int (-s), .int (p * l)])
  | d => .v d
def mulD (m : Nat) : D → T
  | .tup [.int s, .int p] => .v (.int (s * ((m : Int) / p)))
  | d => .v d
theorem body_mul (Γ : Nat → Gam) : SpMul (gBody 6 (wSs Γ mMul)) := by
  intro st kk e S m hc hs hl h
  have sz : sizeLine = 16777216 := sizeLine_eq
  have hb : (500 : Nat) ^ 12 < 2 ^ 120 := by decide
  have small : ∀ (L : List Nat) (T : List (Int × Nat)), Ie L T → (∀ x ∈ L, x ∈ S) → L.length ≤ 12 → ∀ x ∈ T, 0 < x.2 ∧ x.2 < 2 ^ 120 ∧ x.1.natAbs < 2 ^ 64 := fun L T I hL hn x hx => by
    obtain ⟨h1, h2, h3⟩ := I.pos x hx
    have p0 := prd_pos fun y hy => (hs y (hL y hy)).1
    have h4 := Nat.le_of_dvd p0 h2
    have h5 := prd_le fun y hy => (hs y (hL y hy)).2
    have h6 : 500 ^ L.length ≤ 500 ^ 12 := Nat.pow_le_pow_right (by omega) hn
    exact ⟨h1, by omega, by rcases h3 with z | z <;> rw [z] <;> decide⟩
  refine szs rfl (szs rfl ?_)
  refine for_inv (fun rem en s => s = st ∧ ∃ (L R : List Nat) (T : List (Int × Nat)) (y z w : Option Ev.T), S = L ++ R ∧ rem = nats R ∧ Ie L T ∧ en = [some (.v (.lst (nats S))), some (.v (.int m)), some (.o (.lst (T.map sgD))), y, z, w]) ?_ ?_ _ _ _ ⟨rfl, [], S, _, none, none, none, rfl, rfl, ie0, rfl⟩
  · rintro d ds en s' N ⟨rfl, L, R, T, y, z, w, e1, e2, I, rfl⟩ hN
    cases R with
    | nil => cases e2
    | cons l R =>
      obtain ⟨rfl, rfl⟩ := List.cons.inj e2
      have mem : ∀ x ∈ L, x ∈ S := fun x hx => by rw [e1]; exact List.mem_append_left _ hx
      have ml : l ∈ S := by rw [e1]; exact List.mem_append_right _ List.mem_cons_self
      have hll : L.length + (R.length + 1) ≤ 12 := by rw [e1, List.length_append] at hl; exact hl
      have sm := small L T I mem (by omega)
      have Tl : T.length ≤ 4096 := by
        rw [I.len]
        exact Nat.le_trans (Nat.pow_le_pow_right (by omega) (show _ ≤ 12 by omega)) (by decide)
      have J := I.step (l := l) (by have := hs l ml; omega) fun x hx => by
        rw [e1, List.pairwise_append] at hc
        exact hc.2.2 x hx l List.mem_cons_self
      refine lc_pure (fun _ => true) (negD l) (T.map sgD) (by rw [List.length_map]; omega) (fun d hd => ?_) ?_
      · obtain ⟨x, hx, rfl⟩ := List.mem_map.mp hd
        refine ⟨_, rfl, rfl, fun K hK => hK, fun _ K hK => ⟨x.1, rfl, mulR ?_, szs rfl hK⟩⟩
        have := (hs l ml).2
        show (l : Int).natAbs < 2 ^ 64
        omega
      · have e3 : ((T.map sgD).filter fun _ => true).map (fun d => (negD l d).d) = (T.map fun x => (-x.1, x.2 * l)).map sgD := by
          rw [List.filter_eq_self.mpr fun _ _ => rfl, List.map_map, List.map_map]
          refine List.map_congr_left fun x _ => ?_
          show D.tup [.int (-x.1), .int ((x.2 : Int) * (l : Int))] = D.tup [.int (-x.1), .int ((x.2 * l : Nat) : Int)]
          rw [Int.natCast_mul]
        rw [e3]
        refine ⟨by rw [List.length_map, List.length_map, List.length_map]; omega, hN _ _ ⟨rfl, L ++ [l], R, T ++ T.map (fun x => (-x.1, x.2 * l)), some (.v (.int (l : Int))), z, w, by rw [e1, List.append_assoc]; rfl, rfl, J, ?_⟩⟩
        rw [List.map_append]
        rfl
  · rintro en s' ⟨rfl, L, R, T, y, z, w, e1, e2, I, rfl⟩
    cases R with
    | cons l R => cases e2
    | nil =>
      rw [List.append_nil] at e1
      subst e1
      have sm := small S T I (fun _ h => h) hl
      have Tl : T.length ≤ 4096 := by
        rw [I.len]
        exact Nat.le_trans (Nat.pow_le_pow_right (by omega) (show _ ≤ 12 by omega)) (by decide)
      refine lc_pure (fun _ => true) (mulD m) (T.map sgD) (by rw [List.length_map]; omega) (fun d hd => ?_) ?_
      · obtain ⟨x, hx, rfl⟩ := List.mem_map.mp hd
        obtain ⟨s1, s2, s3⟩ := sm x hx
        refine ⟨_, rfl, rfl, fun K hK => hK, fun _ K hK => ⟨cdivN s1 ?_, mulL s3, hK⟩⟩
        exact Nat.lt_trans s2 (by decide)
      · refine ⟨T.map fun x => x.1 * ((m / x.2 : Nat) : Int), ?_, ?_⟩
        · rw [List.filter_eq_self.mpr fun _ _ => rfl, List.map_map, List.map_map]
          refine List.map_congr_left fun x _ => ?_
          show D.int (x.1 * ((m : Int) / (x.2 : Int))) = D.int (x.1 * ((m / x.2 : Nat) : Int))
          rw [Int.natCast_ediv]
        · have := I.fin m
          show kk (.v (.int ((m : Int) - ie T m))) s'
          rw [this]
          exact h
/-- how many n up to m split -/
def SpCb (g : Gam) : Prop := ∀ (st : List D) (kk : KT2) (e : KX2) (a : Int) (b m : Nat) (S : List Nat), GoodN a b → Stf a b S → S.length ≤ 12 → kk (.v (.int (cp (NS a b) m : Nat))) st → g [nD a b, .lst (nats S), .int m] st kk e
theorem no_four {a : Int} {b : Nat} (h1 : a.natAbs = 1) (h2 : b = 1) : ¬ four a b := by
  rintro ⟨_, _, r, hr⟩
  have e : fb a b = 4 := by unfold fb; rw [h1, h2]; decide
  rw [e] at hr
  have : r ≤ 1 ∨ 2 ≤ r := by omega
  rcases this with z | z
  · have := Nat.pow_le_pow_left z 4; omega
  · have := Nat.pow_le_pow_left z 4; omega
theorem ns_one {a : Int} {b : Nat} (g : GoodN a b) (h : a.natAbs = b) (n : Nat) : NS a b n ↔ Spl (decide (a < 0)) 0 (four a b) n := by
  obtain ⟨h1, h2⟩ := (good_one g).mp h
  exact ns_iff (.inl ⟨h1, h2, rfl⟩)
-- count_by ["number", "steps", "many"] q=is_one/1 r=multiples/2 s=powers_up_to/1
def mCb (q r s : Nat) : MSs := (.cons (.ifs (.not (.val (.call q 1 0 (.cons (.var 0) .nil) .nil))) (.cons (.ret (.call r 2 0 (.cons (.var 1) (.cons (.var 2) .nil)) .nil)) .nil) .nil) (.cons (.ret (.ite (.val (.cmp .Gt (.ix (.var 0) (.c (.int 0))) (.c (.int 0)))) (.bi .max (.cons (.c (.int 0)) (.cons (.bin .Sub (.var 2) (.c (.int 1))) .nil))) (.bin .Sub (.var 2) (.call s 1 0 (.cons (.var 2) .nil) .nil)))) .nil))
theorem body_cb (Γ : Nat → Gam) (q r s : Nat) (hq : SpI1 (Γ q)) (hr : SpMul (Γ r)) (hs : SpPu (Γ s)) : SpCb (gBody 3 (wSs Γ (mCb q r s))) := by
  intro st kk e a b m S g hS hl h
  refine ⟨rfl, rfl, hq _ _ _ _ _ ⟨_, rfl, ?_⟩⟩
  by_cases one : a.natAbs = b
  · rw [decide_eq_true one]
    refine ifN noF ?_
    obtain ⟨h1, h2⟩ := (good_one g).mp one
    refine ⟨_, rfl, _, rfl, ifB (fun h0 => ?_) (fun h0 => ?_)⟩
    · have h0 := of_decide_eq_true h0
      have e1 : cp (NS a b) m = m - 1 := by
        rw [cp_congr (Q := Spl false 0 (four a b)) fun n _ _ => by rw [ns_one g one, show decide (a < 0) = false from decide_eq_false (by omega)], cp_one]
      rw [e1] at h
      show kk (.v (.int (if (m : Int) - 1 > 0 then (m : Int) - 1 else 0))) st
      have : (if (m : Int) - 1 > 0 then (m : Int) - 1 else 0) = ((m - 1 : Nat) : Int) := by split <;> omega
      rw [this]
      exact h
    · have h0 := of_decide_eq_false h0
      refine ⟨rfl, rfl, hs _ _ _ m fun k k1 k2 => ?_⟩
      have e1 : cp (NS a b) m = m - k := by
        rw [cp_congr (Q := Spl true 0 (four a b)) fun n _ _ => by rw [ns_one g one, show decide (a < 0) = true from decide_eq_true (by have := g.a0; omega)], cp_mone (no_four h1 h2) m k k1 k2]
      have := pow2_le k1 k2
      rw [e1] at h
      show kk (.v (.int ((m : Int) - (k : Int)))) st
      have : (m : Int) - (k : Int) = ((m - k : Nat) : Int) := by omega
      rw [this]
      exact h
  · rw [decide_eq_false one]
    refine ifP rfl ?_
    rcases hS with ⟨z, _⟩ | ⟨z, _⟩ | ⟨_, x, ex, x0, xl, P⟩
    · exact absurd z one
    · exact absurd z one
    · refine ⟨rfl, rfl, hr _ _ _ S m P.cop (fun s hs => ⟨P.two s hs, ?_⟩) hl ?_⟩
      · rcases P.le s hs with z | z <;> omega
      · rw [cp_congr (Q := NS a b) fun n hn _ => by rw [ns_iff ex, P.spl n hn]]
        exact h
end Ev
set_option Elab.async false
set_option linter.all false
set_option autoImplicit false
set_option maxRecDepth 100000
set_option maxHeartbeats 0
set_option exponentiation.threshold 100000
/-! Ev, part Fa: greater powers and roots, what the laws k25 to k50 draw. -/
namespace Ev
open PySem PySem.Spec PyProof.Rows L2
/-! ### powers and roots of great integers -/
def SpPow2 (g : Gam) : Prop := ∀ (st : List D) (kk : KT2) (e : KX2) (b n : Nat), b ^ n < 2 ^ 20000 → n ≤ 700 → kk (.v (.int ((b ^ n : Nat) : Int))) st → g [.int b, .int n] st kk e
theorem body_pow2 (Γ : Nat → Gam) : SpPow2 (gBody 4 (wSs Γ mPow)) := by
  intro st kk e b n hb hn h
  refine ⟨⟨by omega, by omega⟩, ?_⟩
  refine for_inv (fun rem en s => s = st ∧ ∃ (i : Nat) (x : Option T), rem.length + i = n ∧ en = [some (.v (.int b)), some (.v (.int n)), some (.v (.int ((b ^ i : Nat) : Int))), x]) ?_ ?_ _ _ _ ⟨rfl, 0, none, ?_, rfl⟩
  · rintro d ds en s N ⟨rfl, i, x, hi, rfl⟩ hN
    have hi' : ds.length + 1 + i = n := hi
    refine ⟨?_, hN _ _ ⟨rfl, i + 1, _, by omega, rfl⟩⟩
    rcases Nat.eq_zero_or_pos b with z | z
    · subst z
      exact mulR (by decide)
    · have h1 : b ^ i ≤ b ^ n := Nat.pow_le_pow_right z (by omega)
      have h2 : b ≤ b ^ n := le_pow (by omega)
      exact mulN (k := 20000) (l := 20000) (Nat.lt_of_le_of_lt h1 hb) (Nat.lt_of_le_of_lt h2 hb) (by decide) (by decide) (by decide)
  · rintro en s ⟨rfl, i, x, hi, rfl⟩
    have hi' : i = n := by simpa using hi
    subst hi'
    exact h
  · show (rangeD 0 1 (n : Int).toNat).length + 0 = n
    rw [range_len]
    omega
def SpFl2 (g : Gam) : Prop := ∀ (st : List D) (kk : KT2) (e : KX2) (v p : Nat), v < 2 ^ 15000 → 1 ≤ p → p ≤ 700 → (∀ r, Fl v p r → kk (.v (.int (r : Int))) st) → g [.int v, .int p] st kk e
theorem body_fl2 (Γ : Nat → Gam) (q : Nat) (hq : SpPow2 (Γ q)) : SpFl2 (gBody 5 (wSs Γ (mFl q))) := by
  intro st kk e v p hv hp hp2 h
  have big : ∀ u : Nat, u ^ p ≤ 2 ^ p * (v + 1) → u ^ p < 2 ^ 20000 := fun u hu => by
    have h1 : (2 : Nat) ^ p ≤ 2 ^ 700 := Nat.pow_le_pow_right (by decide) hp2
    have h2 : 2 ^ p * (v + 1) ≤ 2 ^ 700 * 2 ^ 15000 := Nat.mul_le_mul h1 hv
    have h3 : (2 : Nat) ^ 700 * 2 ^ 15000 < 2 ^ 20000 := by rw [← Nat.pow_add]; exact Nat.pow_lt_pow_right (by decide) (by decide)
    omega
  refine szs rfl ⟨rfl, rfl, ?_⟩
  refine ⟨fun m en s => s = st ∧ ∃ l u : Nat, en = [some (.v (.int v)), some (.v (.int p)), some (.v (.int l)), some (.v (.int u)), none] ∧ l < u ∧ l ^ p ≤ v ∧ u ^ p ≤ 2 ^ p * (v + 1) ∧ u ≤ 2 * v + 2 ∧ 2 * v + 2 - u ≤ m, ⟨_, rfl, 0, 1, rfl, by decide, ?_, ?_, by omega, Nat.le_refl _⟩, ?_⟩
  · rw [Nat.zero_pow hp]
    exact Nat.zero_le _
  · rw [Nat.one_pow]
    exact Nat.mul_pos (Nat.pow_pos (by decide)) (by omega)
  rintro m en s ⟨rfl, l, u, rfl, h1, h2, h9, h3, h4⟩
  refine ⟨rfl, rfl, hq _ _ _ u p (big u h9) hp2 ⟨_, rfl, ifB (fun h0 => ?_) (fun h0 => ?_)⟩⟩
  · have h0 : u ^ p ≤ v := by have := of_decide_eq_true h0; omega
    have := le_pow (a := u) hp
    refine ⟨mul2, rfl, m - 1, by omega, rfl, u, 2 * u, rfl, by omega, h0, ?_, by omega, by omega⟩
    rw [Nat.mul_pow]
    exact Nat.mul_le_mul_left _ (by omega)
  · have h0 : v < u ^ p := by have := of_decide_eq_false h0; omega
    refine ⟨fun m en w => w = s ∧ ∃ (l u : Nat) (x : Option T), en = [some (.v (.int v)), some (.v (.int p)), some (.v (.int l)), some (.v (.int u)), x] ∧ l < u ∧ l ^ p ≤ v ∧ v < u ^ p ∧ u ^ p ≤ 2 ^ p * (v + 1) ∧ u - l ≤ m, ⟨_, rfl, l, u, _, rfl, h1, h2, h0, h9, Nat.le_refl _⟩, ?_⟩
    rintro m2 en w ⟨rfl, l, u, x, rfl, g1, g2, g3, g4, g5⟩
    refine ⟨_, rfl, ifB (fun h5 => ?_) (fun h5 => ?_)⟩
    · have h5 := of_decide_eq_true h5
      have h6 : l + 1 < u := by omega
      have h8 : ((l + u) / 2) ^ p ≤ u ^ p := Nat.pow_le_pow_left (by omega) p
      refine ⟨cdiv (by decide) (by decide), rfl, rfl, hq _ _ _ ((l + u) / 2) p (big _ (Nat.le_trans h8 g4)) hp2 ⟨_, rfl, ifB (fun h7 => ?_) (fun h7 => ?_)⟩⟩
      · have h7 : ((l + u) / 2) ^ p ≤ v := by have := of_decide_eq_true h7; omega
        exact ⟨m2 - 1, by omega, rfl, (l + u) / 2, u, _, rfl, by omega, h7, g3, g4, by omega⟩
      · have h7 : v < ((l + u) / 2) ^ p := by have := of_decide_eq_false h7; omega
        exact ⟨m2 - 1, by omega, rfl, l, (l + u) / 2, _, rfl, by omega, g2, h7, Nat.le_trans h8 g4, by omega⟩
    · have h5 := of_decide_eq_false h5
      have h6 : u = l + 1 := by omega
      subst h6
      exact h l ⟨g2, g3⟩
/-! ### draws -/
-- _law_tap ["_law_keg", "_law_count_now", "_law_digit", "_law_deep"] 
def mTap : MSs := (.cons (.asg (.bin .Add (.ix (.var 0) (.c (.int 2))) (.c (.int 1))) (.sub 0 (.c (.int 2)))) (.cons (.asg (.bin .Mod (.bi .int (.cons (.bin .Add (.bin .Add (.bin .Mult (.ix (.var 0) (.c (.int 1))) (.c (.int 47513))) (.bin .Mult (.c (.int 16007)) (.ix (.var 0) (.c (.int 2))))) (.c (.int 17))) .nil)) (.c (.int 2147483249))) (.sub 0 (.c (.int 1)))) (.cons (.ifs (.val (.cmp .Gt (.ix (.var 0) (.c (.int 0))) (.c (.int 0)))) (.cons (.asg (.bi .divmod (.cons (.bi .int (.cons (.ix (.var 0) (.c (.int 0))) .nil)) (.cons (.var 1) .nil))) (.tup 2 (.cons (.sub 0 (.c (.int 0))) (.cons (.name 2) .nil)))) (.cons (.retv 2) .nil)) .nil) (.cons (.set 3 (.bin .Mod (.bi .int (.cons (.bin .Add (.bin .Mult (.ix (.var 0) (.c (.int 1))) (.bin .Add (.ix (.var 0) (.c (.int 1))) (.bin .Mult (.c (.int 9)) (.ix (.var 0) (.c (.int 2)))))) (.c (.int 9001))) .nil)) (.c (.int 2147483179)))) (.cons (.ret (.bin .Mod (.bi .int (.cons (.bin .FloorDiv (.var 3) (.c (.int 1024))) .nil)) (.var 1))) .nil)))))
theorem body_tap (Γ : Nat → Gam) : SpDip (gBody 4 (wSs Γ mTap)) := by
  intro st kk e n c ⟨a, b, g, hn, ha⟩ hc hc2 h
  have hl : n < st.length := (List.getElem?_eq_some_iff.mp hn).1
  have gs : ∀ {s : List D} {x : D}, n < s.length → (s.set n x)[n]? = some x := fun h => List.getElem?_set_self h
  have l1 : ∀ {x : D}, n < (st.set n x).length := fun {x} => by rw [List.length_set]; exact hl
  have l2 : ∀ {x y : D}, n < ((st.set n x).set n y).length := fun {x y} => by rw [List.length_set, List.length_set]; exact hl
  refine ⟨_, _, hn, rfl, _, _, hn, rfl, ?_⟩
  refine ⟨_, _, gs hl, rfl, mulR (by decide), _, _, gs hl, rfl, mulL (by decide), by decide, _, _, gs hl, rfl, ?_⟩
  refine ⟨_, _, gs l1, rfl, _, rfl, ifB (fun h0 => ?_) (fun h0 => ?_)⟩
  · refine ⟨_, _, gs l1, rfl, cdiv hc hc2, rfl, _, _, gs l1, rfl, rfl, ?_⟩
    exact kset3 (kk := kk _) (h _ _ (Int.emod_nonneg _ (by omega)) (Int.emod_lt_of_pos _ hc) (.inr ⟨_, _, _, Int.ediv_nonneg ha (by omega), rfl⟩))
  · refine ⟨_, _, gs l1, rfl, _, _, gs l1, rfl, _, _, gs l1, rfl, mulL (by decide), mulL ?_, by decide, cdiv (by decide) (by decide), hc, ?_⟩
    · have h1 := Int.emod_nonneg (b * 47513 + 16007 * (g + 1) + 17) (show (2147483249 : Int) ≠ 0 by decide)
      have h2 := Int.emod_lt_of_pos (b * 47513 + 16007 * (g + 1) + 17) (show (0 : Int) < 2147483249 by decide)
      omega
    · exact kset2 (kk := kk _) (h _ _ (Int.emod_nonneg _ (by omega)) (Int.emod_lt_of_pos _ hc) (.inr ⟨_, _, _, ha, rfl⟩))
-- _law_open ["_law_script", "_law_k", "_law_own", "_law_stir", "_law_entry"] 
def mOpen : MSs := (.cons (.set 2 (.ite (.val (.cmp .Lt (.var 1) (.bi .len (.cons (.var 0) .nil)))) (.bi .int (.cons (.ix (.var 0) (.var 1)) .nil)) (.bin .Add (.bin .Mult (.c (.int 823)) (.var 1)) (.c (.int 71))))) (.cons (.set 3 (.bin .Add (.c (.int 43013)) (.bin .Mult (.c (.int 263)) (.var 1)))) (.cons (.forr (.any (.sl (.var 0) .none (.some (.c (.int 14))))) (.name 4) (.cons (.set 3 (.bin .Mod (.bi .int (.cons (.bin .Add (.bin .Mult (.var 3) (.c (.int 60013))) (.bi .int (.cons (.var 4) .nil))) .nil)) (.c (.int 2147483323)))) .nil)) (.cons (.ret (.lst (.cons (.ite (.or (.val (.cmp .Lt (.var 2) (.c (.int 0)))) (.val (.cmp .GtE (.var 2) (.bin .Pow (.c (.int 10)) (.c (.int 17)))))) (.bi .abs (.cons (.var 2) .nil)) (.c (.int 0))) (.cons (.bin .Mod (.bi .int (.cons (.bin .Add (.bin .Mult (.var 3) (.c (.int 44207))) (.var 2)) .nil)) (.c (.int 2147483323))) (.cons (.c (.int 9)) .nil))))) .nil))))
def SpOpen (g : Gam) : Prop := ∀ (st : List D) (kk : KT2) (e : KX2) (ns : List Int) (j : Int), 0 ≤ j → j < 100 → (∀ a b g, 0 ≤ a → kk (.o (keg a b g)) st) → g [.scr ns, .int j] st kk e
theorem body_open (Γ : Nat → Gam) : SpOpen (gBody 5 (wSs Γ mOpen)) := by
  intro st kk e ns j hj hj2 h
  have tail : ∀ o : Int, wSs Γ (tl mOpen) [some (.v (.scr ns)), some (.v (.int j)), some (.v (.int o)), none, none] st (endOf kk e) := by
    intro o
    refine ⟨mulL (by decide), _, rfl, ?_⟩
    refine for_inv (fun rem en s => (∃ l : List Int, rem = l.map D.int) ∧ s = st ∧ ∃ z x, en = [some (.v (.scr ns)), some (.v (.int j)), some (.v (.int o)), some (.v (.int z)), x]) ?_ ?_ _ _ _ ⟨⟨_, rfl⟩, rfl, _, _, rfl⟩
    · rintro d ds en s N ⟨⟨l, e1⟩, rfl, z, x, rfl⟩ hN
      cases l with
      | nil => cases e1
      | cons i l =>
        cases e1
        exact ⟨mulR (by decide), by decide, hN _ _ ⟨⟨l, rfl⟩, rfl, _, _, rfl⟩⟩
    · rintro en s ⟨_, rfl, z, x, rfl⟩
      have fin : ∀ a : Int, 0 ≤ a → kk (.o (.lst [.int a, .int ((z * 44207 + o) % 2147483323), .int 9])) s := fun a ha => h a _ _ ha
      have ab : 0 ≤ (if o < 0 then -o else o) := by split <;> omega
      refine ⟨_, rfl, ifB (fun h1 => ?_) (fun h1 => ?_)⟩
      · exact ⟨mulR (by decide), by decide, szs rfl (fin _ ab)⟩
      · refine ⟨⟨by decide, by decide, by decide⟩, _, rfl, ifB (fun h2 => ?_) (fun h2 => ?_)⟩
        · exact ⟨mulR (by decide), by decide, szs rfl (fin _ ab)⟩
        · exact ⟨mulR (by decide), by decide, szs rfl (fin _ (Int.le_refl 0))⟩
  refine ⟨_, rfl, ifB (fun h1 => ?_) (fun h1 => ?_)⟩
  · have h1 := of_decide_eq_true h1
    obtain ⟨x, _, ex⟩ := atI_ok hj h1
    exact ⟨x, ex, tail x⟩
  · exact ⟨mulL (by decide), tail _⟩
/-! ### products of powers of 2, 3, 5 and 7 -/
def vpr : List Nat := [2, 3, 5, 7]
def vto : List Nat → List Int → Nat
  | p :: ps, i :: is => p ^ i.toNat * vto ps is
  | _, _ => 1
def vtop (es : List Int) : Nat := vto vpr es
def vbot (es : List Int) : Nat := vto vpr (es.map fun i => -i)
-- _law_value ["_law_exps_here", "_law_top", "_law_bottom", "_law_prime", "_law_count_now"] q=_law_to/2
def mVal (q : Nat) : MSs := (.cons (.asg (.tup (.cons (.c (.int 1)) (.cons (.c (.int 1)) .nil))) (.tup 2 (.cons (.name 1) (.cons (.name 2) .nil)))) (.cons (.forr (.zip (.cons (.lst (.cons (.c (.int 2)) (.cons (.c (.int 3)) (.cons (.c (.int 5)) (.cons (.c (.int 7)) .nil))))) (.cons (.var 0) .nil))) (.tup 2 (.cons (.name 3) (.cons (.name 4) .nil))) (.cons (.par [1, 2] (.cons (.bin .Mult (.var 1) (.call q 2 0 (.cons (.var 3) (.cons (.bi .max (.cons (.var 4) (.cons (.c (.int 0)) .nil))) .nil)) .nil)) (.cons (.bin .Mult (.var 2) (.call q 2 0 (.cons (.var 3) (.cons (.bi .max (.cons (.neg (.var 4)) (.cons (.c (.int 0)) .nil))) .nil)) .nil)) .nil))) .nil)) (.cons (.ret (.tup (.cons (.var 1) (.cons (.var 2) .nil)))) .nil)))
theorem max0 (i : Int) : (if (0 : Int) > i then (0 : Int) else i) = (i.toNat : Int) := by split <;> omega
theorem vto_lt {B : Nat} : ∀ (ps : List Nat) (es : List Int), (∀ p ∈ ps, p < 2 ^ 3) → (∀ i ∈ es, i ≤ 100) → vto ps es < 2 ^ (301 * ps.length + 1)
  | [], _, _, _ => by unfold vto; exact Nat.one_lt_two_pow (by decide)
  | p :: ps, [], _, _ => by unfold vto; exact Nat.one_lt_two_pow (by simp)
  | p :: ps, i :: is, h1, h2 => by
    unfold vto
    have ih := vto_lt (B := B) ps is (fun q hq => h1 q (List.mem_cons_of_mem _ hq)) (fun q hq => h2 q (List.mem_cons_of_mem _ hq))
    have a1 := pow_lt2 (h1 p List.mem_cons_self) i.toNat
    have a2 : (2 : Nat) ^ (3 * i.toNat + 1) ≤ 2 ^ 301 := Nat.pow_le_pow_right (by decide) (by have := h2 i List.mem_cons_self; omega)
    have e : 2 ^ (301 * (p :: ps).length + 1) = 2 ^ 301 * 2 ^ (301 * ps.length + 1) := by
      rw [← Nat.pow_add, List.length_cons]
      congr 1
      omega
    rw [e]
    exact Nat.mul_lt_mul_of_lt_of_lt (Nat.lt_of_lt_of_le a1 a2) ih
def SpVal (g : Gam) : Prop := ∀ (st : List D) (kk : KT2) (e : KX2) (es : List Int), es.length = 4 → (∀ i ∈ es, -100 ≤ i ∧ i ≤ 100) → kk (.v (nD (vtop es : Nat) (vbot es))) st → g [.lst (es.map D.int)] st kk e
theorem body_val (Γ : Nat → Gam) (q : Nat) (hq : SpPow (Γ q)) : SpVal (gBody 5 (wSs Γ (mVal q))) := by
  intro st kk e es hl hb h
  match es, hl with
  | [a, b, c, d], _ =>
    have ha := hb a (by simp)
    have hb' := hb b (by simp)
    have hc := hb c (by simp)
    have hd := hb d (by simp)
    have step : ∀ (p : Nat) (i : Int) (t u : Nat) (en : Option T) (en' : Option T) (P : Post), p < 2 ^ 3 → -100 ≤ i → i ≤ 100 → t < 2 ^ 2000 → u < 2 ^ 2000 → (∀ y y', P.nx [some (.v (.lst [.int a, .int b, .int c, .int d])), some (.v (.int ((t * p ^ i.toNat : Nat) : Int))), some (.v (.int ((u * p ^ (-i).toNat : Nat) : Int))), y, y'] st) →
        wSs Γ (.cons (.par [1, 2] (.cons (.bin .Mult (.var 1) (.call q 2 0 (.cons (.var 3) (.cons (.bi .max (.cons (.var 4) (.cons (.c (.int 0)) .nil))) .nil)) .nil)) (.cons (.bin .Mult (.var 2) (.call q 2 0 (.cons (.var 3) (.cons (.bi .max (.cons (.neg (.var 4)) (.cons (.c (.int 0)) .nil))) .nil)) .nil)) .nil))) .nil) [some (.v (.lst [.int a, .int b, .int c, .int d])), some (.v (.int (t : Nat))), some (.v (.int (u : Nat))), some (.v (.int (p : Nat))), some (.v (.int i))] st P := by
      intro p i t u en en' P hp h1 h2 h3 h4 hP
      have bp : ∀ j : Nat, j ≤ 100 → p ^ j < 2 ^ 301 := fun j hj => Nat.lt_of_lt_of_le (pow_lt2 hp j) (Nat.pow_le_pow_right (by decide) (by omega))
      have hp7 : p < 2 ^ 700 := Nat.lt_of_lt_of_le hp (Nat.pow_le_pow_right (by decide) (by decide))
      refine ⟨rfl, rfl, ?_⟩
      show Γ q [D.int (p : Nat), D.int (if (0 : Int) > i then 0 else i)] st _ _
      rw [max0]
      refine hq _ _ _ p i.toNat hp7 (by omega) ⟨mulN h3 (bp _ (by omega)) (by decide) (by decide) (by decide), _, rfl, rfl, rfl, ?_⟩
      show Γ q [D.int (p : Nat), D.int (if (0 : Int) > -i then 0 else -i)] st _ _
      rw [max0]
      refine hq _ _ _ p (-i).toNat hp7 (by omega) ⟨mulN h4 (bp _ (by omega)) (by decide) (by decide) (by decide), rfl, ?_⟩
      have := hP (some (.v (.int (p : Nat)))) (some (.v (.int i)))
      rw [Int.natCast_mul, Int.natCast_mul] at this
      exact this
    have g1 : ∀ {x k : Nat} {p : Nat} {i : Nat}, x < 2 ^ k → p < 2 ^ 3 → i ≤ 100 → k + 301 ≤ 2000 → x * p ^ i < 2 ^ (k + 301) := fun {x k p i} h1 h2 h3 _ => by
      have := Nat.lt_of_lt_of_le (pow_lt2 h2 i) (Nat.pow_le_pow_right (show 0 < 2 by decide) (show 3 * i + 1 ≤ 301 by omega))
      rw [Nat.pow_add]
      exact Nat.mul_lt_mul_of_lt_of_lt h1 this
    have w : ∀ {x k : Nat}, x < 2 ^ k → k ≤ 2000 → x < 2 ^ 2000 := fun h1 h2 => Nat.lt_of_lt_of_le h1 (Nat.pow_le_pow_right (by decide) h2)
    have b0 : (1 : Nat) < 2 ^ 1 := by decide
    have t1 := g1 (i := a.toNat) b0 (show 2 < 2 ^ 3 by decide) (by omega) (by decide)
    have u1 := g1 (i := (-a).toNat) b0 (show 2 < 2 ^ 3 by decide) (by omega) (by decide)
    have t2 := g1 (i := b.toNat) t1 (show 3 < 2 ^ 3 by decide) (by omega) (by decide)
    have u2 := g1 (i := (-b).toNat) u1 (show 3 < 2 ^ 3 by decide) (by omega) (by decide)
    have t3 := g1 (i := c.toNat) t2 (show 5 < 2 ^ 3 by decide) (by omega) (by decide)
    have u3 := g1 (i := (-c).toNat) u2 (show 5 < 2 ^ 3 by decide) (by omega) (by decide)
    refine szs rfl ⟨rfl, rfl, szs rfl ?_⟩
    refine ⟨rfl, rfl, ?_⟩
    refine step 2 a 1 1 none none _ (by decide) ha.1 ha.2 (by decide) (by decide) ?_
    intro _ _
    refine ⟨rfl, rfl, ?_⟩
    refine step 3 b _ _ none none _ (by decide) hb'.1 hb'.2 (w t1 (by decide)) (w u1 (by decide)) ?_
    intro _ _
    refine ⟨rfl, rfl, ?_⟩
    refine step 5 c _ _ none none _ (by decide) hc.1 hc.2 (w t2 (by decide)) (w u2 (by decide)) ?_
    intro _ _
    refine ⟨rfl, rfl, ?_⟩
    refine step 7 d _ _ none none _ (by decide) hd.1 hd.2 (w t3 (by decide)) (w u3 (by decide)) ?_
    intro _ _
    refine szs rfl ?_
    have e1 : vtop [a, b, c, d] = 1 * 2 ^ a.toNat * 3 ^ b.toNat * 5 ^ c.toNat * 7 ^ d.toNat := by
      unfold vtop vpr vto vto vto vto vto
      rw [Nat.one_mul, Nat.mul_one, Nat.mul_assoc, Nat.mul_assoc]
    have e2 : vbot [a, b, c, d] = 1 * 2 ^ (-a).toNat * 3 ^ (-b).toNat * 5 ^ (-c).toNat * 7 ^ (-d).toNat := by
      unfold vbot vpr vto
      simp only [List.map]
      unfold vto vto vto vto
      rw [Nat.one_mul, Nat.mul_one, Nat.mul_assoc, Nat.mul_assoc]
    rw [e1, e2] at h
    exact h
end Ev
set_option Elab.async false
set_option linter.all false
set_option autoImplicit false
set_option maxRecDepth 100000
set_option maxHeartbeats 400000
set_option exponentiation.threshold 100000
set_option pp.maxSteps 500
/-! Ev, part Mu: a number times an integer; base_of. -/
namespace Ev
open PySem PySem.Spec PyProof.Rows L2
theorem mulZ1 {a b : Int} (ha : a.natAbs < 2 ^ 300) (hb : b.natAbs < 2 ^ 300) : IntMulOk a b := by
  refine CMulW.ok ?_
  unfold CMulW
  have h1 := log2_le ha (by decide)
  have h2 := log2_le hb (by decide)
  omega
/-- a fraction times an integer, in lowest terms -/
def mulA (a : Int) (b t : Nat) : Int := a * t / (Nat.gcd (a * t).natAbs b : Nat)
def mulB (a : Int) (b t : Nat) : Nat := b / Nat.gcd (a * t).natAbs b
def SpTi' (g : Gam) : Prop := ∀ (st : List D) (kk : KT2) (e : KX2) (a : Int) (b t : Nat), GoodN a b → t ≤ 10 ^ 30 → kk (.v (nD (mulA a b t) (mulB a b t))) st → g [nD a b, .int t] st kk e
-- times_integer ["number", "times"] q=lowest/2
def mTiI (q : Nat) : MSs := (.cons (.ret (.call q 2 0 (.cons (.bin .Mult (.ix (.var 0) (.c (.int 0))) (.var 1)) (.cons (.ix (.var 0) (.c (.int 1))) .nil)) .nil)) .nil)
theorem body_tiI (Γ : Nat → Gam) (q : Nat) (hq : SpLow (Γ q)) : SpTi' (gBody 2 (wSs Γ (mTiI q))) := by
  intro st kk e a b t G ht h
  have b1 := G.b1
  have a1 := G.a1
  have big : (10 : Nat) ^ 30 < 2 ^ 700 := by decide
  have big3 : (10 : Nat) ^ 30 < 2 ^ 300 := by decide
  exact ⟨_, rfl, mulZ1 (by omega) (by omega), _, rfl, rfl, rfl, hq _ _ _ (a * t) b G.b0 (by omega) h⟩
def SpMulX (i : Nat) (g : Gam) : Prop := ∀ (st : List D) (kk : KT2) (e : KX2) (a : Int) (b t : Nat), GoodN a b → 1 ≤ t → t ≤ 10 ^ 30 → ((mulA a b t).natAbs ≤ 10 ^ 30 → kk (.v (nD (mulA a b t) (mulB a b t))) st) → (¬ (mulA a b t).natAbs ≤ 10 ^ 30 → e (i, some (.int (mulA a b t))) st) → g [nD a b, .int t] st kk e
-- multiplied ["number", "times", "found"] q=check_number/1 r=check_degree/1 s=times_integer/2
def mMulX (q r s : Nat) : MSs := (.cons (.expr (.call q 1 0 (.cons (.var 0) .nil) .nil)) (.cons (.expr (.call r 1 0 (.cons (.var 1) .nil) .nil)) (.cons (.set 2 (.call s 2 0 (.cons (.var 0) (.cons (.var 1) .nil)) .nil)) (.cons (.ifs (.val (.cmp .Gt (.bi .abs (.cons (.ix (.var 2) (.c (.int 0))) .nil)) (.c (.int 1000000000000000000000000000000)))) (.cons (.rais 0 (.cons (.ix (.var 2) (.c (.int 0))) .nil)) .nil) .nil) (.cons (.retv 2) .nil)))))
theorem body_mulX (Γ : Nat → Gam) (q r s : Nat) (hq : SpCkN (Γ q)) (hr : ∀ (st : List D) (kk : KT2) (e : KX2) (v : Int), 1 ≤ v → v ≤ 10 ^ 30 → kk (.v .non) st → Γ r [.int v] st kk e) (hs : SpTi' (Γ s)) : SpMulX 0 (gBody 3 (wSs Γ (mMulX q r s))) := by
  intro st kk e a b t G t1 t2 h1 h2
  have p30 : (10 : Nat) ^ 30 = 1000000000000000000000000000000 := by decide
  refine ⟨rfl, rfl, hq _ _ _ a b G ⟨rfl, rfl, hr _ _ _ t (by omega) (by omega) ⟨rfl, rfl, hs _ _ _ a b t G t2 ⟨_, rfl, _, rfl, ?_⟩⟩⟩⟩
  refine ifB (fun z => ?_) (fun z => ?_)
  · have z : (if mulA a b t < 0 then -mulA a b t else mulA a b t) > 1000000000000000000000000000000 := of_decide_eq_true z
    rw [abs_nat] at z
    trace_state
    exact ⟨_, rfl, h2 (by omega)⟩
  · have z : ¬ (if mulA a b t < 0 then -mulA a b t else mulA a b t) > 1000000000000000000000000000000 := of_decide_eq_false z
    rw [abs_nat] at z
    exact h1 (by omega)
/-- the base and the exponent of a number, as they are told -/
inductive BaseR (a : Nat) (b : Nat) : D → Prop where
  | one (h1 : a = 1) (h2 : b = 1) : BaseR a b (beD 1 1 0)
  | more (x y n : Nat) (ne : ¬ (a = 1 ∧ b = 1)) (G : Ge a b n) (hx : x ^ n = a) (hy : y ^ n = b) : BaseR a b (beD x y n)
theorem BaseR.uniq {a b : Nat} {d d' : D} (h : BaseR a b d) (h' : BaseR a b d') : d = d' := by
  cases h with
  | one h1 h2 =>
    cases h' with
    | one _ _ => rfl
    | more x y n ne G hx hy => exact absurd ⟨h1, h2⟩ ne
  | more x y n ne G hx hy =>
    cases h' with
    | one h1 h2 => exact absurd ⟨h1, h2⟩ ne
    | more x' y' n' ne' G' hx' hy' =>
      obtain rfl : n = n' := Nat.le_antisymm (G'.top n G.pos G.pa G.pb) (G.top n' G'.pos G'.pa G'.pb)
      have p := G.pos
      obtain rfl : x = x' := pow_inj (n := n) (by omega) (hx.trans hx'.symm)
      obtain rfl : y = y' := pow_inj (n := n) (by omega) (hy.trans hy'.symm)
      rfl
def SpBaO (g : Gam) : Prop := ∀ (st : List D) (kk : KT2) (e : KX2) (a : Int) (b : Nat), GoodN a b → (∀ d, BaseR a.natAbs b d → kk (.v d) st) → g [nD a b] st kk e
-- base_of ["number"] q=check_number/1 r=base_for/1
def mBaO (q r : Nat) : MSs := (.cons (.expr (.call q 1 0 (.cons (.var 0) .nil) .nil)) (.cons (.ret (.call r 1 0 (.cons (.var 0) .nil) .nil)) .nil))
theorem body_baO (Γ : Nat → Gam) (q r : Nat) (hq : SpCkN (Γ q)) (hr : SpBf (Γ r)) : SpBaO (gBody 1 (wSs Γ (mBaO q r))) := by
  intro st kk e a b G h
  have a1 := G.a1
  have b1 := G.b1
  have big : (10 : Nat) ^ 30 < 2 ^ 500 := by decide
  exact ⟨rfl, rfl, hq _ _ _ a b G ⟨rfl, rfl, hr _ _ _ a b G.a0 G.b0 (by omega) (by omega) (fun h1 h2 => h _ (.one h1 h2)) (fun x y n ne Ge _ hx hy => h _ (.more x y n ne Ge hx hy))⟩⟩
end Ev
set_option Elab.async false
set_option linter.all false
set_option autoImplicit false
set_option maxRecDepth 100000
set_option maxHeartbeats 400000
/-! Ev, part Sh: data whose shape is known: they can be laid, they are equal to themselves. -/
namespace Ev
open PySem PySem.Spec PyProof.Rows L2
mutual
def shp : Nat → D → Bool
  | _, .non => true
  | _, .bl _ => true
  | _, .int _ => true
  | _, .str s => PyData.strOk s
  | n + 1, .tup xs => shpL n xs
  | n + 1, .lst xs => shpL n xs
  | _, _ => false
def shpL : Nat → List D → Bool
  | _, [] => true
  | n, x :: xs => shp n x && shpL n xs
end
mutual
theorem shp_ok : ∀ (n : Nat) (d : D), shp n d = true → ∃ p, dat d = some p ∧ p.canLay0 = true ∧ p.depth ≤ n
  | _, .non, _ => ⟨.none, by rw [dat], by rw [PyData.canLay0], by rw [PyData.depth]; exact Nat.zero_le _⟩
  | _, .bl b, _ => ⟨.bool b, by rw [dat], by rw [PyData.canLay0], by rw [PyData.depth]; exact Nat.zero_le _⟩
  | _, .int i, _ => ⟨.int i, by rw [dat], by rw [PyData.canLay0], by rw [PyData.depth]; exact Nat.zero_le _⟩
  | _, .str s, h => ⟨.str s, by rw [dat], by rw [PyData.canLay0]; simpa [shp] using h, by rw [PyData.depth]; exact Nat.zero_le _⟩
  | 0, .tup xs, h => by simp [shp] at h
  | 0, .lst xs, h => by simp [shp] at h
  | n + 1, .tup xs, h => by
    obtain ⟨ps, h1, h2, h3⟩ := shpL_ok n xs (by simpa [shp] using h)
    exact ⟨.tuple ps, by rw [dat, h1]; rfl, by rw [PyData.canLay0, h2], by rw [PyData.depth]; omega⟩
  | n + 1, .lst xs, h => by
    obtain ⟨ps, h1, h2, h3⟩ := shpL_ok n xs (by simpa [shp] using h)
    exact ⟨.list ps, by rw [dat, h1]; rfl, by rw [PyData.canLay0, h2], by rw [PyData.depth]; omega⟩
  | _, .dct _, h => by simp [shp] at h
  | _, .box _, h => by simp [shp] at h
  | _, .obj _ _, h => by simp [shp] at h
  | _, .ty _, h => by simp [shp] at h
  | _, .cl _, h => by simp [shp] at h
  | _, .scr _, h => by simp [shp] at h
theorem shpL_ok : ∀ (n : Nat) (d : List D), shpL n d = true → ∃ p, datL d = some p ∧ PyData.canLayAll0 p = true ∧ PyData.depthAll p ≤ n
  | n, [], _ => ⟨[], by rw [datL], by rw [PyData.canLayAll0], by rw [PyData.depthAll]; exact Nat.zero_le _⟩
  | n, x :: xs, h => by
    have h' : shp n x = true ∧ shpL n xs = true := by simpa [shpL] using h
    obtain ⟨p, h1, h2, h3⟩ := shp_ok n x h'.1
    obtain ⟨ps, h4, h5, h6⟩ := shpL_ok n xs h'.2
    exact ⟨p :: ps, by rw [datL, h1, h4], by rw [PyData.canLayAll0, h2, h5]; rfl, by rw [PyData.depthAll]; exact Nat.max_le.mpr ⟨h3, h6⟩⟩
end
theorem okD_shp {d : D} (h : shp 60 d = true) : okD d = true := by
  obtain ⟨p, h1, h2, h3⟩ := shp_ok 60 d h
  unfold okD
  rw [h1]
  show SeqAt.shaped p = true
  unfold SeqAt.shaped
  rw [h2, decide_eq_true (show p.depth ≤ _ by omega)]
  rfl
mutual
theorem deq_shp : ∀ (n : Nat) (d : D), shp n d = true → deq d d = true
  | _, .non, _ => by rw [deq]
  | _, .bl b, _ => by rw [deq]; simp
  | _, .int i, _ => by rw [deqI]; simp
  | _, .str s, _ => by rw [deqS]; simp
  | 0, .tup xs, h => by simp [shp] at h
  | 0, .lst xs, h => by simp [shp] at h
  | n + 1, .tup xs, h => by rw [deq]; exact deqL_shp n xs (by simpa [shp] using h)
  | n + 1, .lst xs, h => by rw [deq]; exact deqL_shp n xs (by simpa [shp] using h)
  | _, .dct _, h => by simp [shp] at h
  | _, .box _, h => by simp [shp] at h
  | _, .obj _ _, h => by simp [shp] at h
  | _, .ty _, h => by simp [shp] at h
  | _, .cl _, h => by simp [shp] at h
  | _, .scr _, h => by simp [shp] at h
theorem deqL_shp : ∀ (n : Nat) (d : List D), shpL n d = true → deqL d d = true
  | n, [], _ => by rw [deqL]
  | n, x :: xs, h => by
    have h' : shp n x = true ∧ shpL n xs = true := by simpa [shpL] using h
    rw [deqL, deq_shp n x h'.1, deqL_shp n xs h'.2]
    rfl
end
/-- a display that is equal to itself is not unlike itself -/
theorem ne_shp {d : D} (h : shp 60 d = true) : ¬ (!deq d d) = true := by rw [deq_shp 60 d h]; exact noF
/-! ### what repr writes can be laid -/
def sOk (s : Str) : Prop := ∀ c ∈ s.cps.toList, c < 0x110000
theorem sOk_iff {s : Str} : PyData.strOk s = true ↔ sOk s := by
  unfold PyData.strOk sOk
  rw [← Array.all_toList, List.all_eq_true]
  exact ⟨fun h c hc => of_decide_eq_true (h c hc), fun h c hc => decide_eq_true (h c hc)⟩
theorem sOk_app {a b : Str} (ha : sOk a) (hb : sOk b) : sOk (a ++ b) := by
  intro c hc
  have hc : c ∈ (a.cps ++ b.cps).toList := hc
  rw [Array.toList_append] at hc
  exact (List.mem_append.mp hc).elim (ha c) (hb c)
theorem char_lt (c : Char) : c.toNat < 0x110000 := by
  have := c.valid
  have h : c.val.toNat.isValidChar := this
  rcases h with h | h
  · show c.val.toNat < _; omega
  · exact h.2
theorem sOk_of (s : String) : sOk (Str.ofString s) := by
  intro c hc
  rw [Str.ofString_eq_toList] at hc
  obtain ⟨d, _, rfl⟩ := List.mem_map.mp (show c ∈ s.toList.map Char.toNat from hc)
  exact char_lt d
theorem sOk_join {sep : Str} (hs : sOk sep) : ∀ {ts : List Str}, (∀ t ∈ ts, sOk t) → sOk (Str.join sep ts)
  | [], _ => fun c hc => by cases (show c ∈ ([] : List Nat) from hc)
  | [x], h => h x (.head _)
  | x :: y :: r, h => sOk_app (sOk_app (h x (.head _)) hs) (sOk_join hs fun t ht => h t (.tail _ ht))
theorem sOk_from : ∀ {ts : List Str} {k : Nat} {acc : Str}, sOk acc → (∀ t ∈ ts, sOk t) → sOk (textFrom k acc ts)
  | [], _, _, h, _ => h
  | t :: ts, k, acc, h, ht => sOk_from (ts := ts) (k := k + 1) (sOk_app (sOk_app h (sOk_of _)) (ht t (.head _))) fun u hu => ht u (.tail _ hu)
theorem hex_lt (w c : Nat) : ∀ x ∈ List.replicate (w - ((Nat.toDigits 16 c).map Char.toNat).length) 48 ++ (Nat.toDigits 16 c).map Char.toNat, x < 0x110000 := fun x hx => by
  rcases List.mem_append.mp hx with z | z
  · rw [(List.mem_replicate.mp z).2]; decide
  · obtain ⟨d, _, rfl⟩ := List.mem_map.mp z
    exact char_lt d
theorem reprChar_lt {q c : Nat} (hc : c < 0x110000) : ∀ x ∈ Builtin.Str.reprChar q c, x < 0x110000 := by
  intro x hx
  unfold Builtin.Str.reprChar at hx
  dsimp only at hx
  have two : ∀ {a b : Nat}, a < 0x110000 → b < 0x110000 → x ∈ [a, b] → x < 0x110000 := fun ha hb h => by
    simp only [List.mem_cons, List.not_mem_nil, or_false] at h
    rcases h with rfl | rfl
    · exact ha
    · exact hb
  split at hx
  · exact two (by decide) hc hx
  split at hx
  · exact two (by decide) (by decide) hx
  split at hx
  · exact two (by decide) (by decide) hx
  split at hx
  · exact two (by decide) (by decide) hx
  split at hx
  · rw [List.mem_singleton.mp hx]; exact hc
  split at hx
  · rcases List.mem_append.mp hx with z | z
    · exact two (by decide) (by decide) z
    · exact hex_lt _ _ x z
  split at hx
  · rcases List.mem_append.mp hx with z | z
    · exact two (by decide) (by decide) z
    · exact hex_lt _ _ x z
  · rcases List.mem_append.mp hx with z | z
    · exact two (by decide) (by decide) z
    · exact hex_lt _ _ x z
theorem sOk_repr {s : Str} (h : sOk s) : sOk (reprText s) := by
  have q0 : reprQuote s < 0x110000 := by unfold reprQuote; split <;> decide
  have go : ∀ (l : List Nat) (acc : Array Nat), (∀ c ∈ l, c < 0x110000) → (∀ c ∈ acc.toList, c < 0x110000) → ∀ c ∈ (l.foldl (fun out c => out ++ (Builtin.Str.reprChar (reprQuote s) c).toArray) acc).toList, c < 0x110000 := by
    intro l
    induction l with
    | nil => intro acc _ h; exact h
    | cons x l ih =>
      intro acc h1 h2
      rw [List.foldl_cons]
      refine ih _ (fun c hc => h1 c (.tail _ hc)) fun c hc => ?_
      rw [Array.toList_append] at hc
      rcases List.mem_append.mp hc with z | z
      · exact h2 c z
      · exact reprChar_lt (h1 x (.head _)) c z
  intro c hc
  unfold reprText at hc
  have hc : c ∈ ((s.cps.foldl (fun out c => out ++ (Builtin.Str.reprChar (reprQuote s) c).toArray) #[reprQuote s]).push (reprQuote s)).toList := hc
  rw [Array.toList_push, ← Array.foldl_toList] at hc
  rcases List.mem_append.mp hc with z | z
  · refine go s.cps.toList _ h (fun c hc => ?_) c z
    rw [List.mem_singleton.mp (show c ∈ [reprQuote s] from hc)]
    exact q0
  · rw [List.mem_singleton.mp z]; exact q0
mutual
theorem sOk_shown : ∀ p : PyData, p.canLay0 = true → sOk p.shown
  | .none, _ => by rw [PyData.shown]; exact sOk_of _
  | .bool b, _ => by rw [PyData.shown]; split <;> exact sOk_of _
  | .int i, _ => by rw [PyData.shown]; exact sOk_of _
  | .str s, h => by rw [PyData.shown]; exact sOk_repr (sOk_iff.mp (by rw [PyData.canLay0] at h; exact h))
  | .list xs, h => by
    rw [PyData.shown]
    unfold listText
    exact sOk_app (sOk_from (sOk_of _) (sOk_shownAll xs (by rw [PyData.canLay0] at h; exact h))) (sOk_of _)
  | .tuple xs, h => by
    rw [PyData.shown]
    unfold tupleText
    exact sOk_app (sOk_app (sOk_of _) (sOk_join (sOk_of _) (sOk_shownAll xs (by rw [PyData.canLay0] at h; exact h)))) (sOk_of _)
  | .dict _, h => by rw [PyData.canLay0] at h; cases h
theorem sOk_shownAll : ∀ ps : List PyData, PyData.canLayAll0 ps = true → ∀ t ∈ PyData.shownAll ps, sOk t
  | [], _ => by rw [PyData.shownAll]; intro t h; cases h
  | p :: ps, h => by
    rw [PyData.shownAll]
    rw [PyData.canLayAll0, Bool.and_eq_true] at h
    intro t ht
    rcases List.mem_cons.mp ht with rfl | z
    · exact sOk_shown p h.1
    · exact sOk_shownAll ps h.2 t z
end
theorem strOk_shownD {n : Nat} {d : D} (h : shp n d = true) : PyData.strOk (shownD d) = true := by
  obtain ⟨p, h1, h2, _⟩ := shp_ok n d h
  unfold shownD
  rw [h1]
  exact sOk_iff.mpr (sOk_shown p h2)
end Ev
set_option Elab.async false
set_option linter.all false
set_option autoImplicit false
set_option maxRecDepth 100000
set_option maxHeartbeats 0
set_option exponentiation.threshold 100000
namespace Pk05
open PySem PySem.Spec PyProof.Rows L2 Ev
theorem s_lgcd (k : Nat) : SpGcdZ (Cl tb (k + 1) 0) := fun _ _ _ => body_lgcd (Cl tb k)  _ _ _
theorem s_dip (k : Nat) : SpDip (Cl tb (k + 1) 1) := fun _ _ _ => body_dip (Cl tb k)  _ _ _
theorem s_lpow (k : Nat) : SpPow (Cl tb (k + 1) 2) := fun _ _ _ => body_pow (Cl tb k)  _ _ _
theorem s_one (k : Nat) : SpOne (Cl tb (k + 2) 3) := fun _ _ _ => body_one (Cl tb (k + 1)) 1 (s_dip k) _ _ _
theorem s_pair (k : Nat) : SpLow (Cl tb (k + 2) 4) := fun _ _ _ => body_pair (Cl tb (k + 1)) 0 (s_lgcd k) _ _ _
theorem s_lrs (k : Nat) : SpRs (Cl tb (k + 2) 5) := fun _ _ _ => body_rs (Cl tb (k + 1)) 2 (s_lpow k) _ _ _
theorem s_great (k : Nat) : SpGreat (Cl tb (k + 3) 6) := fun _ _ _ => body_great (Cl tb (k + 2)) 1 3 (s_dip (k + 1)) (s_one k) _ _ _
theorem s_plain (k : Nat) : SpPlain (Cl tb (k + 3) 7) := fun _ _ _ => body_plain (Cl tb (k + 2)) 1 3 4 (s_dip (k + 1)) (s_one k) (s_pair k) _ _ _
theorem s_numb (k : Nat) : SpNumb (Cl tb (k + 4) 8) := fun _ _ _ => body_numb (Cl tb (k + 3)) 1 3 5 7 4 2 6 (s_dip (k + 2)) (s_one (k + 1)) (s_lrs (k + 1)) (s_plain k) (s_pair (k + 1)) (s_lpow (k + 2)) (s_great k) _ _ _
theorem s_kept (k : Nat) : SpKept (Cl tb (k + 5) 23) := fun _ _ _ => body_kept (Cl tb (k + 4)) 8 3 (s_numb k) (s_one (k + 2)) _ _ _
theorem s_jar (k : Nat) : SpJar (Cl tb (k + 1) 28) := fun _ _ _ => body_jar (Cl tb k)  _ _ _
theorem s_int (k : Nat) : SpInt (Cl tb (k + 1) 9) := fun _ _ _ => body_int (Cl tb k)  _ _ _
theorem s_gcd (k : Nat) : SpGcd (Cl tb (k + 1) 10) := fun _ _ _ => body_gcd (Cl tb k)  _ _ _
theorem s_btw (k : Nat) : SpBtw (Cl tb (k + 2) 11) := fun _ _ _ => body_btw (Cl tb (k + 1)) 9 (s_int k) _ _ _
theorem s_num (k : Nat) : SpNum (Cl tb (k + 3) 12) := fun _ _ _ => body_num (Cl tb (k + 2)) 11 10 (s_btw k) (s_gcd (k + 1)) _ _ _
theorem s_ckn (k : Nat) : SpCkN (Cl tb (k + 4) 14) := fun _ _ _ => body_ckn (Cl tb (k + 3)) 12 (s_num k) _ _ _
theorem s_cd1 (k : Nat) : ∀ (st : List D) (kk : KT2) (e : KX2) (v : Int), 1 ≤ v → v ≤ 10 ^ 30 → kk (.v .non) st → Cl tb (k + 3) 15 [.int v] st kk e := fun _ _ _ => body_cd (Cl tb (k + 2)) 11 (s_btw k) 1 (10 ^ 30) _ _ _
theorem s_pow (k : Nat) : SpPow (Cl tb (k + 1) 17) := fun _ _ _ => body_pow (Cl tb k)  _ _ _
theorem s_fl (k : Nat) : SpFl (Cl tb (k + 2) 18) := fun _ _ _ => body_fl (Cl tb (k + 1)) 17 (s_pow k) _ _ _
theorem s_isP (k : Nat) : SpIsP (Cl tb (k + 3) 19) := fun _ _ _ => body_isP (Cl tb (k + 2)) 17 18 (s_pow (k + 1)) (s_fl k) _ _ _
theorem s_wr (k : Nat) : SpWr (Cl tb (k + 2) 20) := fun _ _ _ => body_wr (Cl tb (k + 1)) 17 (s_pow k) _ _ _
theorem s_be (k : Nat) : SpBe (Cl tb (k + 4) 21) := fun _ _ _ => body_be (Cl tb (k + 3)) 19 20 (s_isP k) (s_wr (k + 1)) _ _ _
theorem s_bf (k : Nat) : SpBf (Cl tb (k + 5) 22) := fun _ _ _ => body_bf (Cl tb (k + 4)) 21 (s_be k) _ _ _
theorem s_low (k : Nat) : SpLow (Cl tb (k + 2) 13) := fun _ _ _ => body_low (Cl tb (k + 1)) 10 (s_gcd k) _ _ _
theorem s_tiI (k : Nat) : SpTi' (Cl tb (k + 3) 16) := fun _ _ _ => body_tiI (Cl tb (k + 2)) 13 (s_low k) _ _ _
theorem s_mulX (k : Nat) : SpMulX 0 (Cl tb (k + 5) 24) := fun _ _ _ => body_mulX (Cl tb (k + 4)) 14 15 16 (s_ckn k) (s_cd1 (k + 1)) (s_tiI (k + 1)) _ _ _
theorem s_baO (k : Nat) : SpBaO (Cl tb (k + 6) 25) := fun _ _ _ => body_baO (Cl tb (k + 5)) 14 22 (s_ckn (k + 1)) (s_bf k) _ _ _
end Pk05
set_option Elab.async false
set_option linter.all false
set_option autoImplicit false
set_option maxRecDepth 100000
set_option maxHeartbeats 400000
set_option exponentiation.threshold 100000
set_option pp.maxSteps 500
namespace Pk05
open PySem PySem.Spec PyProof.Rows L2 Ev
def bodyR : MSs := match m26 with
  | .cons (.forr _ _ b) _ => b
  | _ => .nil
def u1 : MSs := tl bodyR
def u2 : MSs := tl u1
def u3 : MSs := tl u2
def u4 : MSs := tl u3
theorem nD_sm {a : Int} {b : Nat} (ha : a.natAbs < 2 ^ 200) (hb : b < 2 ^ 200) : sm (nD a b) := by
  simp only [nD, sm, smL, and_true]
  exact ⟨ha, by rw [Int.natAbs_natCast]; exact hb⟩
def dueL (w s : Str) : D := .lst [.str w, .str s]
theorem due2 {w s : Str} (hw : PyData.strOk w = true) (hs : PyData.strOk s = true) : shp 60 (.lst [dueL w s, dueL w s]) = true := by
  have e : shpL 58 [.str w, .str s] = true := by simp [shpL, shp, hw, hs]
  show (shpL 58 [.str w, .str s] && (shpL 58 [.str w, .str s] && true)) = true
  rw [e]
  rfl
theorem s_mulK (k : Nat) (st : List D) (kk : KT2) (e : KX2) (x y : D) : Cl tb (k + 6) 26 [y, x] st kk e = Cl tb (k + 6) 24 [x, y] st kk e := rfl
theorem one_A {a : Int} {b : Nat} (G : GoodN a b) : mulA a b 1 = a := by
  unfold mulA
  rw [show a * ((1 : Nat) : Int) = a by omega, G.co]
  exact Int.ediv_one a
theorem one_B {a : Int} {b : Nat} (G : GoodN a b) : mulB a b 1 = b := by
  unfold mulB
  rw [show a * ((1 : Nat) : Int) = a by omega, G.co]
  exact Nat.div_one b
theorem rest3 (k n : Nat) (st : List D) (P : Post) (a : Int) (b t : Nat) (G : GoodN a b) (w s : Str) (hw : PyData.strOk w = true) (hs : PyData.strOk s = true) (x1 x4 : Option T)
    (h : ∀ y5 y6, P.nx [some (.v (.box n)), x1, some (.v (nD a b)), some (.v (.int (t : Nat))), x4, y5, y6] st) :
    wSs (Cl tb (k + 6)) (tl (tl u4)) [some (.v (.box n)), x1, some (.v (nD a b)), some (.v (.int (t : Nat))), x4, some (.o (dueL w s)), some (.o (.lst [dueL w s, dueL w s]))] st P := by
  have sh := due2 hw hs
  refine szs rfl ⟨.inr ⟨okD_shp sh, okD_shp sh⟩, _, rfl, ifN (ne_shp sh) ?_⟩
  refine ⟨_, rfl, _, rfl, _, rfl, szs rfl ⟨rfl, rfl, ?_⟩⟩
  have G' : GoodN (-a) b := ⟨by have := G.a0; omega, by rw [Int.natAbs_neg]; exact G.a1, G.b0, G.b1, by rw [Int.natAbs_neg]; exact G.co⟩
  refine s_baO k _ _ _ (-a) b G' fun d hd => ⟨rfl, rfl, s_baO k _ _ _ a b G fun d' hd' => ?_⟩
  rw [Int.natAbs_neg] at hd
  obtain rfl := hd.uniq hd'
  have o : shp 60 d = true := by cases hd <;> rfl
  refine ⟨.inr ⟨okD_shp o, okD_shp o⟩, _, rfl, ifN (ne_shp o) ?_⟩
  refine ⟨rfl, rfl, s_mulX (k + 1) _ _ _ a b 1 G (by decide) (by decide) (fun _ => ?_) (fun z => ?_)⟩
  · rw [one_A G, one_B G]
    have o : shp 60 (nD a b) = true := rfl
    refine ⟨.inr ⟨okD_shp o, okD_shp o⟩, _, rfl, ifN (ne_shp o) (h _ _)⟩
  · rw [one_A G] at z
    exact absurd G.a1 z
def kT (k1 : T → List D → Prop) : KT2 := fun x st1 => dTold true x.d fun d => k1 (.o (.lst [.str "told", d])) st1
def kX (k1 : T → List D → Prop) : KX2 := fun xn st1 => gSay "great" [0] (encX xn) st1 (fun t st2 => k1 t st2) fun _ _ => False
theorem rest2 (k n : Nat) (st : List D) (P : Post) (a : Int) (b t : Nat) (G : GoodN a b) (w s : Str) (hw : PyData.strOk w = true) (hs : PyData.strOk s = true)
    (H : ∀ (st : List D) (k1 : T → List D → Prop), k1 (.o (dueL w s)) st → Cl tb (k + 6) 24 [nD a b, .int (t : Nat)] st (kT k1) (kX k1))
    (x1 x4 x6 : Option T)
    (h : ∀ y5 y6, P.nx [some (.v (.box n)), x1, some (.v (nD a b)), some (.v (.int (t : Nat))), x4, y5, y6] st) :
    wSs (Cl tb (k + 6)) u4 [some (.v (.box n)), x1, some (.v (nD a b)), some (.v (.int (t : Nat))), x4, some (.o (dueL w s)), x6] st P := by
  have HK : ∀ (st : List D) (k1 : T → List D → Prop), k1 (.o (dueL w s)) st → Cl tb (k + 6) 26 [.int (t : Nat), nD a b] st (kT k1) (kX k1) := fun st k1 h1 => by rw [s_mulK]; exact H st k1 h1
  refine ⟨rfl, rfl, H _ _ (szs rfl ?_)⟩
  refine ⟨rfl, rfl, HK _ _ ?_⟩
  refine ⟨[dueL w s], [dueL w s, dueL w s], rfl, ?_, rest3 k n st P a b t G w s hw hs x1 x4 (h)⟩
  show fApp [dueL w s] (dueL w s) = _
  unfold fApp
  rw [if_pos (by rw [sizeLine_eq]; simp)]
  rfl
theorem rest (k n : Nat) (st : List D) (P : Post) (a : Int) (b t : Nat) (G : GoodN a b) (t1 : 1 ≤ t) (t2 : t ≤ 10 ^ 30) (x1 x4 x5 x6 : Option T)
    (h : ∀ y4 y5 y6, P.nx [some (.v (.box n)), x1, some (.v (nD a b)), some (.v (.int (t : Nat))), y4, y5, y6] st) :
    wSs (Cl tb (k + 6)) u2 [some (.v (.box n)), x1, some (.v (nD a b)), some (.v (.int (t : Nat))), x4, x5, x6] st P := by
  have a1 := G.a1
  have b1 := G.b1
  have big3 : (10 : Nat) ^ 30 < 2 ^ 100 := by decide
  have big4 : (10 : Nat) ^ 30 < 2 ^ 700 := by decide
  refine ⟨_, rfl, mulZ1 (Nat.lt_of_le_of_lt a1 (by decide)) (Nat.lt_of_le_of_lt t2 (by decide)), _, rfl, rfl, rfl, s_pair (k + 4) _ _ _ (a * t) b G.b0 (by omega) ?_⟩
  show wSs _ u3 [some (.v (.box n)), x1, some (.v (nD a b)), some (.v (.int (t : Nat))), some (.v (nD (mulA a b t) (mulB a b t))), x5, x6] st P
  have xb : (mulA a b t).natAbs < 2 ^ 200 := by
    unfold mulA
    refine Nat.lt_of_le_of_lt (Int.natAbs_ediv_le_natAbs _ _) ?_
    rw [Int.natAbs_mul, Int.natAbs_natCast]
    exact Nat.lt_of_le_of_lt (Nat.mul_le_mul a1 t2) (by decide)
  have yb : mulB a b t ≤ 10 ^ 30 := Nat.le_trans (Nat.div_le_self _ _) b1
  have hm := fun st kk e => s_mulX (k + 1) st kk e a b t G t1 t2
  have p30 : (10 : Nat) ^ 30 = 1000000000000000000000000000000 := by decide
  generalize mulA a b t = X at *
  generalize mulB a b t = Y at *
  have ox : okRepr (.int X) := okR (d := .int X) (by simpa [sm] using xb) (by simp [Ev.cnt])
  have od : okRepr (nD X Y) := okR (nD_sm xb (by omega)) (by simp [Ev.cnt, cntL, nD])
  refine ⟨_, rfl, pk (by decide), _, rfl, ifB (fun z => ?_) (fun z => ?_)⟩
  · have z : (if X < 0 then -X else X) > 1000000000000000000000000000000 := of_decide_eq_true z
    rw [abs_nat] at z
    refine ⟨_, rfl, ox, szs rfl ?_⟩
    exact rest2 k n st P a b t G "great" (shownD (.int X)) (by decide +kernel) (strOk_shownD (n := 1) rfl) (fun st k1 h1 => hm st _ _ (fun z' => absurd z' (by omega)) (fun _ => ⟨rfl, ox, h1⟩)) x1 _ x6 (h _)
  · have z : ¬ (if X < 0 then -X else X) > 1000000000000000000000000000000 := of_decide_eq_false z
    rw [abs_nat] at z
    refine ⟨od, szs rfl ?_⟩
    exact rest2 k n st P a b t G "told" (shownD (nD X Y)) (by decide +kernel) (strOk_shownD (n := 1) rfl) (fun st k1 h1 => hm st _ _ (fun _ => ⟨od, h1⟩) (fun z' => absurd (by omega) z')) x1 _ x6 (h _)
theorem right (k n : Nat) (st : List D) (kk : KT2) (e : KX2) (g : JG st n) (h : ∀ st', kk (.v (.bl true)) st') : Cl tb (k + 7) 27 [.box n] st kk e := by
  refine ⟨⟨by decide, by decide⟩, ?_⟩
  refine for_inv (fun rem en s => JG s n ∧ ∃ x1 x2 x3 x4 x5 x6, en = [some (.v (.box n)), x1, x2, x3, x4, x5, x6]) ?_ ?_ _ _ _ ⟨g, _, _, _, _, _, _, rfl⟩
  · rintro dd ds en s N ⟨g1, x1, x2, x3, x4, x5, x6, rfl⟩ hN
    refine ⟨rfl, rfl, s_kept (k + 1) _ _ _ n g1 fun a b s1 G m1 => ?_⟩
    have g2 := m1.jg g1
    refine ⟨rfl, rfl, s_great (k + 3) _ _ _ n g2 fun t s2 t0 t1 m2 => ?_⟩
    have g3 := m2.jg g2
    refine ⟨rfl, ?_⟩
    show wSs (Cl tb (k + 6)) u1 [some (.v (.box n)), some (.v dd), some (.v (nD a b)), some (.v (.int t)), x4, x5, x6] s2 _
    refine ⟨rfl, rfl, s_dip (k + 5) _ _ _ n 3 g3 (by decide) (by decide) fun w s3 w0 w1 m3 => ⟨.inl rfl, _, rfl, ?_⟩⟩
    have g4 := m3.jg g3
    have b0 := G.b0
    have b1 := G.b1
    refine ifB (fun z => ?_) (fun z => ?_)
    · exact ⟨_, rfl, rest k n s3 _ a b b G b0 b1 _ _ _ _ fun y4 y5 y6 => hN _ _ ⟨g4, _, _, _, _, _, _, rfl⟩⟩
    · exact rest k n s3 _ a b t G t0 t1 _ _ _ _ fun y4 y5 y6 => hN _ _ ⟨g4, _, _, _, _, _, _, rfl⟩
  · rintro en s ⟨g1, x1, x2, x3, x4, x5, x6, rfl⟩
    exact h s
end Pk05
set_option Elab.async false
set_option linter.all false
set_option autoImplicit false
set_option maxRecDepth 100000
set_option maxHeartbeats 0
namespace Pk05
open PySem PySem.Spec PyProof.Rows L2 Ev
def lev : Nat := 7
theorem law_true (ns : List Int) (h1 : ns.length ≤ 63) (h2 : ∀ z ∈ ns, Builtin.Int.intBits z ≤ 1048576) : Cl tb (lev + 1) 29 [.scr ns] [] (fun t _ => t = .v (.bl true)) (fun _ _ => False) := by
  obtain ⟨r, hr, r1, r2⟩ : ∃ r : Int, r = (if (if (6 : Int) < (ns.length : Int) then 6 else (ns.length : Int)) > 2 then (if (6 : Int) < (ns.length : Int) then 6 else (ns.length : Int)) else 2) ∧ 0 ≤ r ∧ r ≤ 6 := ⟨_, rfl, by split <;> (try split) <;> omega, by split <;> (try split) <;> omega⟩
  show rgOk _ ∧ _
  rw [← hr]
  refine ⟨⟨by omega, by omega⟩, ?_⟩
  refine lc_inv (fun rem acc en _ => (∀ d ∈ rem, ∃ j : Int, d = .int j ∧ 0 ≤ j ∧ j < 6) ∧ (∃ m, acc = (List.replicate m true).map D.bl ∧ m + rem.length ≤ 6) ∧ en = [some (.v (.scr ns)), none]) ?_ ?_ _ _ _ _ ⟨?_, ⟨0, rfl, ?_⟩, rfl⟩
  · rintro d ds acc en st N ⟨q1, ⟨m, rfl, hm⟩, rfl⟩ hN
    obtain ⟨j, rfl, j1, j2⟩ := q1 d List.mem_cons_self
    refine ⟨_, rfl, ?_⟩
    refine ⟨rfl, rfl, s_jar 6 _ _ _ _ _ j1 fun a b g ha => ?_⟩
    refine ⟨rfl, rfl, right 0 _ _ _ _ ⟨a, b, g, ?_, ha⟩ fun st' => ⟨?_, hN _ _ _ ⟨fun x hx => q1 x (List.mem_cons_of_mem _ hx), ⟨m + 1, ?_, ?_⟩, rfl⟩⟩⟩
    · rw [List.getElem?_append_right (Nat.le_refl _), Nat.sub_self]
      rfl
    · rw [List.length_map, List.length_replicate, sizeLine_eq]
      omega
    · rw [List.replicate_succ', List.map_append]
      rfl
    · have : m + (ds.length + 1) ≤ 6 := hm
      omega
  · rintro acc en st ⟨_, ⟨m, rfl, _⟩, rfl⟩
    refine ⟨_, rfl, ?_⟩
    have e1 : (List.replicate m true).all id = true := List.all_eq_true.mpr fun x hx => by rw [(List.mem_replicate.mp hx).2]; rfl
    show T.v (.bl ((List.replicate m true).all id)) = _
    rw [e1]
  · intro d hd
    unfold rangeD at hd
    obtain ⟨i, hi, rfl⟩ := List.mem_map.mp hd
    have := List.mem_range.mp hi
    exact ⟨_, rfl, by omega, by omega⟩
  · unfold rangeD
    rw [List.length_map, List.length_range]
    omega
end Pk05
set_option Elab.async false
set_option linter.all false
set_option autoImplicit false
set_option maxRecDepth 100000
set_option maxHeartbeats 0
open PySem PySem.W PySem.Calls PyProof.Rows
theorem PySem.Challenge.cw_purepowers_k05_whole_products_with_integ_holds : PySem.Challenge.rw_purepowers_k05_whole_products_with_integ.Holds := by
  w_on; o_law
  refine HandSHeadRun.head_any (r := OpenLaw.row PySem.Challenge.rw_purepowers_k05_whole_products_with_integ) (q := Pk05.qv) (H := Pk05.hk) (ob := Pk05.ob) (M := 9000) (loose := Pk05.loose) (d := HandSHeadRun.topDef (OpenLaw.row PySem.Challenge.rw_purepowers_k05_whole_products_with_integ).prog 39) (kwd := []) Pk05.ob_eq
    (by kernel_rfl) (fun s => by kernel_rfl) Pk05.run (by kernel_rfl) (by kernel_rfl) (by kernel_rfl) (by rfl) (by first | assumption | decide +kernel) (by decide +kernel) ⟨rfl, rfl, rfl, rfl, rfl, by decide +kernel⟩ ?hw ?hc
  case hw => w_witness2
  case hc =>
    refine Ev.walk_ev (l := PySem.Challenge.rw_purepowers_k05_whole_products_with_integ) (n := 63) (k := Pk05.lev) rfl (by decide) (by kernel_rfl) ⟨rfl, by decide, by decide⟩ ?F
    intro w mg h Y G
    obtain ⟨K, KX, c, ht⟩ := Y
    refine ⟨Ev.bgOf Pk05.tb Pk05.dfs K c.dig, Pk05.tb, Ev.csOf Pk05.dfs K, 29, Pk05.p29, KX, Pk05.tbOk KX G c, Ev.tabs_at KX c ht, Ev.tabs_in, rfl, rfl, rfl, rfl, by kernel_rfl, fun ns h1 h2 => ?_⟩
    exact Pk05.law_true ns h1 h2
