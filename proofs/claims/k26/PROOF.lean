import PyProof.Rows.All
import Wide.All
import OpenK.AllK
import Wide.FinOn
import KE.KStateDown
import HandS.ForMost
import HandS.ForExc
import HandS.Wide
import HandS.WideBits
import HandS.Defaults
import HandS.IsInst
import HandS.TupAny
import HandS.SortInts
import PyProof.ReprRoads
import HandS.ForDict
import PyProof.CallFns
import HandS.Zip
import HandS.Style
import HandS.SetFor
import HandS.Strs
import HandS.Ends
import HandS.EndBits
import HandS.MakeKw
import HandS.HeadHook2
import HandS.Head2
import HandS.HeadEnd
import PySem.Challenge.RW_purepowers_k26_whole_kinds_by_themselves
set_option Elab.async false
set_option linter.all false
set_option autoImplicit false
set_option maxRecDepth 100000
/-! Ev, part A: plain data, what represents it in the abstract heap, steps. -/
namespace Ev
open PySem PySem.Spec PyProof.Rows L2
/-- built-in classes that are named -/
inductive Ty where
  | int | bool | str | tuple | list | dict
  deriving DecidableEq
def Ty.nm : Ty → String
  | .int => "int"
  | .bool => "bool"
  | .str => "str"
  | .tuple => "tuple"
  | .list => "list"
  | .dict => "dict"
/-- plain data -/
inductive D where
  | non | bl (b : Bool) | int (i : Int) | str (s : Str)
  | tup (xs : List D) | lst (xs : List D) | dct (kvs : List (Key × D))
  | box (n : Nat) | obj (c : Nat) (fs : List (Str × D)) | ty (n : Ty) | cl (c : Nat) | scr (ns : List Int)
/-- a value in a slot or on the way: shared data, or a thing that nobody else holds -/
inductive T where
  | v (d : D) | o (d : D)
def T.d : T → D
  | .v d => d
  | .o d => d
abbrev Sl := L2.St
abbrev En := List (Option T)
/-- the background: the written part, the classes' addresses -/
structure Bg where
  K : PySem.W.Frag
  cls : Nat → Addr
  fld : Nat → Str
mutual
def Rep (B : Bg) (F : Hp) (r : List Addr) : D → V → Prop
  | .non, v => v = .non
  | .bl b, v => v = .bl b
  | .int i, v => v = .int i
  | .str s, v => v = .str s
  | .tup ds, v => ∃ a vs, v = .ref a ∧ SqT B.K F a vs ∧ Reps B F r ds vs
  | .lst ds, v => ∃ a vs, v = .ref a ∧ F a = some (.lst vs) ∧ Reps B F r ds vs
  | .dct ks, v => ∃ a vs, v = .ref a ∧ F a = some (.dK vs) ∧ RepK B F r ks vs
  | .box n, v => ∃ a, r[n]? = some a ∧ v = .ref a
  | .obj c fs, v => ∃ a dx vs, v = .ref a ∧ F a = some (.ins (B.cls c) dx vs) ∧ RepF B F r fs vs
  | .ty n, v => v = .ty n.nm
  | .cl c, v => v = .ref (B.cls c)
  | .scr ns, v => ∃ a, v = .ref a ∧ SqL B.K F a (ns.map V.int)
def Reps (B : Bg) (F : Hp) (r : List Addr) : List D → List V → Prop
  | [], vs => vs = []
  | d :: ds, vs => ∃ v t, vs = v :: t ∧ Rep B F r d v ∧ Reps B F r ds t
def RepK (B : Bg) (F : Hp) (r : List Addr) : List (Key × D) → List (Key × V) → Prop
  | [], vs => vs = []
  | (k, d) :: ds, vs => ∃ v t, vs = (k, v) :: t ∧ Rep B F r d v ∧ RepK B F r ds t
def RepF (B : Bg) (F : Hp) (r : List Addr) : List (Str × D) → List (Str × V) → Prop
  | [], vs => vs = []
  | (k, d) :: ds, vs => ∃ v t, vs = (k, v) :: t ∧ Rep B F r d v ∧ RepF B F r ds t
end
def Sub (F H : Hp) : Prop := ∀ a o, F a = some o → H a = some o
theorem Sub.refl (F : Hp) : Sub F F := fun _ _ e => e
theorem Sub.trans {F G H : Hp} (a : Sub F G) (b : Sub G H) : Sub F H := fun x o e => b x o (a x o e)
theorem Sub.rd {F H : Hp} (s : Sub F H) {a : Addr} {u : HO} (h : Rd F a u) : Rd H a u := by
  rcases h with h | ⟨o, h⟩
  · exact .inl (s _ _ h)
  · exact .inr ⟨o, s _ _ h⟩
theorem Sub.sqL {K : PySem.W.Frag} {F H : Hp} (s : Sub F H) {a : Addr} {xs : List V} (h : SqL K F a xs) : SqL K H a xs := h.imp s.rd id
theorem Sub.sqT {K : PySem.W.Frag} {F H : Hp} (s : Sub F H) {a : Addr} {xs : List V} (h : SqT K F a xs) : SqT K H a xs := h.imp s.rd id
/-- the second list goes on the first -/
def Pre (r r' : List Addr) : Prop := ∃ t, r' = r ++ t
theorem Pre.refl (r : List Addr) : Pre r r := ⟨[], by simp⟩
theorem Pre.get {r r' : List Addr} (p : Pre r r') {n : Nat} {a : Addr} (h : r[n]? = some a) : r'[n]? = some a := by
  obtain ⟨t, rfl⟩ := p
  rw [List.getElem?_append_left (List.getElem?_eq_some_iff.mp h).1]
  exact h
mutual
theorem Rep.mono {B : Bg} {F F' : Hp} {r r' : List Addr} (s : Sub F F') (p : Pre r r') : ∀ (d : D) (v : V), Rep B F r d v → Rep B F' r' d v
  | .non, v, h => h
  | .bl b, v, h => h
  | .int i, v, h => h
  | .str s, v, h => h
  | .tup ds, v, ⟨a, vs, e, q, h⟩ => ⟨a, vs, e, s.sqT q, Reps.mono s p ds vs h⟩
  | .lst ds, v, ⟨a, vs, e, q, h⟩ => ⟨a, vs, e, s _ _ q, Reps.mono s p ds vs h⟩
  | .dct ks, v, ⟨a, vs, e, q, h⟩ => ⟨a, vs, e, s _ _ q, RepK.mono s p ks vs h⟩
  | .box n, v, ⟨a, e, h⟩ => ⟨a, p.get e, h⟩
  | .obj c fs, v, ⟨a, dx, vs, e, q, h⟩ => ⟨a, dx, vs, e, s _ _ q, RepF.mono s p fs vs h⟩
  | .ty n, v, h => h
  | .cl c, v, h => h
  | .scr ns, v, ⟨a, e, q⟩ => ⟨a, e, s.sqL q⟩
theorem Reps.mono {B : Bg} {F F' : Hp} {r r' : List Addr} (s : Sub F F') (p : Pre r r') : ∀ (ds : List D) (vs : List V), Reps B F r ds vs → Reps B F' r' ds vs
  | [], vs, h => h
  | d :: ds, vs, ⟨v, t, e, h1, h2⟩ => ⟨v, t, e, Rep.mono s p d v h1, Reps.mono s p ds t h2⟩
theorem RepK.mono {B : Bg} {F F' : Hp} {r r' : List Addr} (s : Sub F F') (p : Pre r r') : ∀ (ds : List (Key × D)) (vs : List (Key × V)), RepK B F r ds vs → RepK B F' r' ds vs
  | [], vs, h => h
  | (k, d) :: ds, vs, ⟨v, t, e, h1, h2⟩ => ⟨v, t, e, Rep.mono s p d v h1, RepK.mono s p ds t h2⟩
theorem RepF.mono {B : Bg} {F F' : Hp} {r r' : List Addr} (s : Sub F F') (p : Pre r r') : ∀ (ds : List (Str × D)) (vs : List (Str × V)), RepF B F r ds vs → RepF B F' r' ds vs
  | [], vs, h => h
  | (k, d) :: ds, vs, ⟨v, t, e, h1, h2⟩ => ⟨v, t, e, Rep.mono s p d v h1, RepF.mono s p ds t h2⟩
end
/-- what an object of its own holds -/
def ORep (B : Bg) (F : Hp) (r : List Addr) : D → HO → Prop
  | .lst ds, o => ∃ vs, o = .lst vs ∧ Reps B F r ds vs
  | .dct ks, o => ∃ vs, o = .dK vs ∧ RepK B F r ks vs
  | .obj c fs, o => ∃ dx vs, o = .ins (B.cls c) dx vs ∧ RepF B F r fs vs
  | _, _ => False
theorem ORep.mono {B : Bg} {F F' : Hp} {r r' : List Addr} (s : Sub F F') (p : Pre r r') : ∀ {d : D} {o : HO}, ORep B F r d o → ORep B F' r' d o
  | .lst ds, o, ⟨vs, e, h⟩ => ⟨vs, e, Reps.mono s p _ _ h⟩
  | .dct ds, o, ⟨vs, e, h⟩ => ⟨vs, e, RepK.mono s p _ _ h⟩
  | .obj c ds, o, ⟨dx, vs, e, h⟩ => ⟨dx, vs, e, RepF.mono s p _ _ h⟩
/-- a thing frozen is data -/
theorem ORep.rep {B : Bg} {F : Hp} {r : List Addr} {a : Addr} : ∀ {d : D} {o : HO}, ORep B F r d o → F a = some o → Rep B F r d (.ref a)
  | .lst ds, o, ⟨vs, e, h⟩, q => ⟨a, vs, rfl, by rw [q, e], h⟩
  | .dct ds, o, ⟨vs, e, h⟩, q => ⟨a, vs, rfl, by rw [q, e], h⟩
  | .obj c ds, o, ⟨dx, vs, e, h⟩, q => ⟨a, dx, vs, rfl, by rw [q, e], h⟩
/-- a list, a dict or an instance: it may be changed -/
def isM : HO → Bool
  | .lst _ => true
  | .dK _ => true
  | .ins _ _ _ => true
  | _ => false
theorem ORep.isM {B : Bg} {F : Hp} {r : List Addr} : ∀ {d : D} {o : HO}, ORep B F r d o → isM o = true
  | .lst ds, o, ⟨vs, e, h⟩ => by rw [e]; rfl
  | .dct ds, o, ⟨vs, e, h⟩ => by rw [e]; rfl
  | .obj c ds, o, ⟨dx, vs, e, h⟩ => by rw [e]; rfl
structure World (B : Bg) (F : Hp) (r : List Addr) (st : List D) (H : Hp) : Prop where
  sub : Sub F H
  nd : r.Nodup
  len : st.length = r.length
  box : ∀ (n : Nat) (a : Addr) (d : D), r[n]? = some a → st[n]? = some d → F a = none ∧ ∃ o, H a = some o ∧ ORep B F r d o
def Own (B : Bg) (F : Hp) (r : List Addr) (H : Hp) (d : D) (a : Addr) : Prop := F a = none ∧ a ∉ r ∧ ∃ o, H a = some o ∧ ORep B F r d o
def OwnI (σ : Sl) (en : En) (i : Nat) (a : Addr) : Prop := ∃ d, en[i]? = some (some (.o d)) ∧ σ[i]? = some (some (.ref a))
def OwnAt (σ : Sl) (en : En) (a : Addr) : Prop := ∃ i, OwnI σ en i a
structure Rel (B : Bg) (F : Hp) (r : List Addr) (en : En) (st : List D) (σ : Sl) (H : Hp) : Prop where
  w : World B F r st H
  val : ∀ (i : Nat) (d : D), en[i]? = some (some (.v d)) → ∃ v, σ[i]? = some (some v) ∧ Rep B F r d v
  own : ∀ (i : Nat) (d : D), en[i]? = some (some (.o d)) → ∃ a, σ[i]? = some (some (.ref a)) ∧ Own B F r H d a
  dis : ∀ (i j : Nat) (a : Addr), OwnI σ en i a → OwnI σ en j a → i = j
  len : en.length = σ.length
theorem Rel.ownH {B : Bg} {F : Hp} {r : List Addr} {en : En} {st : List D} {σ : Sl} {H : Hp} (R : Rel B F r en st σ H) {a : Addr} (h : OwnAt σ en a) : F a = none ∧ a ∉ r ∧ ∃ o, H a = some o := by
  obtain ⟨i, d, e1, e2⟩ := h
  obtain ⟨b, q1, q2, q3, o, q4, _⟩ := R.own i d e1
  rw [e2] at q1
  cases q1
  exact ⟨q2, q3, o, q4⟩
/-- from (σ, en, F, r, H) on -/
structure Step (σ : Sl) (en : En) (F : Hp) (r : List Addr) (H : Hp) (σ' : Sl) (en' : En) (F' : Hp) (r' : List Addr) (H' : Hp) : Prop where
  keep : ∀ a o, H a = some o → a ∉ r → ¬ OwnAt σ en a → H' a = some o
  there : ∀ a, H' a = none → H a = none
  grow : Sub F F'
  pre : ∃ t, r' = r ++ t ∧ ∀ a ∈ t, H a = none ∨ OwnAt σ en a
  new : ∀ a o, F' a = some o → F a = some o ∨ H a = none ∨ OwnAt σ en a
  owns : ∀ a, OwnAt σ' en' a → OwnAt σ en a ∨ H a = none
section
variable {σ σ1 σ2 : Sl} {en en1 en2 : En} {F F1 F2 : Hp} {r r1 r2 : List Addr} {H H1 H2 : Hp}
theorem Step.refl : Step σ en F r H σ en F r H := ⟨fun _ _ e _ _ => e, fun _ e => e, Sub.refl _, ⟨[], by simp, fun _ h => by cases h⟩, fun _ _ e => .inl e, fun _ h => .inl h⟩
theorem Step.prx (S : Step σ en F r H σ1 en1 F1 r1 H1) : Pre r r1 := let ⟨t, e, _⟩ := S.pre; ⟨t, e⟩
theorem Step.trans (S : Step σ en F r H σ1 en1 F1 r1 H1) (U : Step σ1 en1 F1 r1 H1 σ2 en2 F2 r2 H2) : Step σ en F r H σ2 en2 F2 r2 H2 where
  keep := fun a o e hr ho => by
    obtain ⟨t, e1, e2⟩ := S.pre
    refine U.keep a o (S.keep a o e hr ho) (fun z => ?_) (fun z => ?_)
    · rw [e1] at z
      rcases List.mem_append.mp z with z | z
      · exact hr z
      · rcases e2 a z with q | q
        · rw [q] at e; cases e
        · exact ho q
    · rcases S.owns a z with q | q
      · exact ho q
      · rw [q] at e; cases e
  there := fun a e => S.there a (U.there a e)
  grow := S.grow.trans U.grow
  pre := by
    obtain ⟨t, e1, e2⟩ := S.pre
    obtain ⟨u, f1, f2⟩ := U.pre
    refine ⟨t ++ u, by rw [f1, e1, List.append_assoc], fun a ha => ?_⟩
    rcases List.mem_append.mp ha with ha | ha
    · exact e2 a ha
    · rcases f2 a ha with q | q
      · exact .inl (S.there a q)
      · exact (S.owns a q).symm
  new := fun a o e => by
    rcases U.new a o e with q | q | q
    · exact S.new a o q
    · exact .inr (.inl (S.there a q))
    · exact .inr (S.owns a q).symm
  owns := fun a h => by
    rcases U.owns a h with q | q
    · exact S.owns a q
    · exact .inr (S.there a q)
end
theorem Rep.step {B : Bg} {σ σ1 : Sl} {en en1 : En} {F F1 : Hp} {r r1 : List Addr} {H H1 : Hp} {d : D} {v : V} (h : Rep B F r d v) (S : Step σ en F r H σ1 en1 F1 r1 H1) : Rep B F1 r1 d v := Rep.mono S.grow S.prx d v h
theorem Reps.step {B : Bg} {σ σ1 : Sl} {en en1 : En} {F F1 : Hp} {r r1 : List Addr} {H H1 : Hp} {d : List D} {v : List V} (h : Reps B F r d v) (S : Step σ en F r H σ1 en1 F1 r1 H1) : Reps B F1 r1 d v := Reps.mono S.grow S.prx d v h
/-- a value on the way; H0, en0: where the expression began -/
def TRep (B : Bg) (F : Hp) (r : List Addr) (H : Hp) (σ : Sl) (en : En) (H0 : Hp) (en0 : En) : T → V → Prop
  | .v d, v => Rep B F r d v
  | .o d, v => ∃ a, v = .ref a ∧ Own B F r H d a ∧ ¬ OwnAt σ en a ∧ (H0 a = none ∨ OwnAt σ en0 a)
/-! ### moves of a state -/
section
variable {B : Bg} {σ : Sl} {en : En} {F : Hp} {r : List Addr} {H : Hp} {st : List D} {p : Addr} {o : HO}
theorem sub_upd {F : Hp} {p : Addr} {o : HO} (h : F p = none) : Sub F (upd F p o) := fun a u e => by
  by_cases q : a = p
  · subst q; rw [h] at e; cases e
  · rw [upd_ne q]; exact e
/-- an object is laid -/
theorem World.alloc (W : World B F r st H) (hp : H p = none) : World B F r st (upd H p o) where
  sub := W.sub.trans (sub_upd hp)
  nd := W.nd
  len := W.len
  box := fun n a d e1 e2 => by
    obtain ⟨q1, u, q2, q3⟩ := W.box n a d e1 e2
    exact ⟨q1, u, sub_upd hp _ _ q2, q3⟩
theorem Own.alloc {d : D} {a : Addr} (h : Own B F r H d a) (hp : H p = none) : Own B F r (upd H p o) d a := by
  obtain ⟨q1, q2, u, q3, q4⟩ := h
  exact ⟨q1, q2, u, sub_upd hp _ _ q3, q4⟩
theorem Rel.alloc (R : Rel B F r en st σ H) (hp : H p = none) : Rel B F r en st σ (upd H p o) where
  w := R.w.alloc hp
  val := R.val
  own := fun i d e => let ⟨a, e1, e2⟩ := R.own i d e; ⟨a, e1, e2.alloc hp⟩
  dis := R.dis
  len := R.len
theorem Step.alloc (hp : H p = none) : Step σ en F r H σ en F r (upd H p o) where
  keep := fun a u e _ _ => sub_upd hp a u e
  there := fun a e => by
    by_cases q : a = p
    · subst q; exact hp
    · rw [upd_ne q] at e; exact e
  grow := Sub.refl _
  pre := ⟨[], by simp, fun _ h => by cases h⟩
  new := fun _ _ e => .inl e
  owns := fun _ h => .inl h
theorem World.fresh (W : World B F r st H) (hp : H p = none) : F p = none ∧ p ∉ r := by
  constructor
  · cases q : F p with
    | none => rfl
    | some u => rw [W.sub _ _ q] at hp; cases hp
  · intro z
    obtain ⟨n, hn⟩ := List.getElem?_of_mem z
    have hl : n < st.length := by rw [W.len]; exact (List.getElem?_eq_some_iff.mp hn).1
    obtain ⟨_, u, q, _⟩ := W.box n p st[n] hn (by simp [hl])
    rw [q] at hp; cases hp
theorem Rel.noOwn (R : Rel B F r en st σ H) (hp : H p = none) : ¬ OwnAt σ en p := fun z => by
  obtain ⟨_, _, u, q⟩ := R.ownH z
  rw [q] at hp; cases hp
/-- an object that nobody holds is frozen -/
theorem World.freeze (W : World B F r st H) (hp : H p = some o) (hF : F p = none) (hr : p ∉ r) : World B (upd F p o) r st H where
  sub := fun a u e => by
    by_cases q : a = p
    · subst q; rw [upd_same] at e; cases e; exact hp
    · rw [upd_ne q] at e; exact W.sub a u e
  nd := W.nd
  len := W.len
  box := fun n a d e1 e2 => by
    obtain ⟨q1, u, q2, q3⟩ := W.box n a d e1 e2
    have ne : a ≠ p := fun z => hr (z ▸ List.mem_of_getElem? e1)
    exact ⟨by rw [upd_ne ne]; exact q1, u, q2, q3.mono (sub_upd hF) (Pre.refl _)⟩
theorem Rel.freeze (R : Rel B F r en st σ H) (hp : H p = some o) (hF : F p = none) (hr : p ∉ r) (ho : ¬ OwnAt σ en p) : Rel B (upd F p o) r en st σ H where
  w := R.w.freeze hp hF hr
  val := fun i d e => let ⟨v, e1, e2⟩ := R.val i d e; ⟨v, e1, e2.mono (sub_upd hF) (Pre.refl _)⟩
  own := fun i d e => by
    obtain ⟨a, e1, q1, q2, u, q3, q4⟩ := R.own i d e
    have ne : a ≠ p := fun z => ho ⟨i, d, e, z ▸ e1⟩
    exact ⟨a, e1, by rw [upd_ne ne]; exact q1, q2, u, q3, q4.mono (sub_upd hF) (Pre.refl _)⟩
  dis := R.dis
  len := R.len
theorem Step.freeze {H0 : Hp} {σ0 : Sl} {en0 : En} {F0 : Hp} {r0 : List Addr} (S : Step σ0 en0 F0 r0 H0 σ en F r H) (hF : F p = none) (h0 : H0 p = none ∨ OwnAt σ0 en0 p) : Step σ0 en0 F0 r0 H0 σ en (upd F p o) r H where
  keep := S.keep
  there := S.there
  grow := S.grow.trans (sub_upd hF)
  pre := S.pre
  new := fun a u e => by
    by_cases q : a = p
    · subst q; exact .inr h0
    · rw [upd_ne q] at e; exact S.new a u e
  owns := S.owns
/-- a value on the way becomes shared data -/
theorem freezeT {H0 : Hp} {en0 : En} {F0 : Hp} {r0 : List Addr} {x : T} {v : V} (S : Step σ en0 F0 r0 H0 σ en F r H) (R : Rel B F r en st σ H) (t : TRep B F r H σ en H0 en0 x v) :
    ∃ F', Step σ en0 F0 r0 H0 σ en F' r H ∧ Rel B F' r en st σ H ∧ Rep B F' r x.d v ∧ Sub F F' := by
  cases x with
  | v d => exact ⟨F, S, R, t, Sub.refl _⟩
  | o d =>
    obtain ⟨a, rfl, ⟨q1, q2, u, q3, q4⟩, q5, q6⟩ := t
    exact ⟨upd F a u, S.freeze q1 q6, R.freeze q3 q1 q2 q5, (q4.mono (sub_upd q1) (Pre.refl _)).rep upd_same, sub_upd q1⟩
/-- a slot's thing becomes shared data -/
theorem Rel.freezeSlot {i : Nat} {d : D} (R : Rel B F r en st σ H) (h : en[i]? = some (some (.o d))) :
    ∃ F', Step σ en F r H σ (en.set i (some (.v d))) F' r H ∧ Rel B F' r (en.set i (some (.v d))) st σ H ∧ ∃ v, σ[i]? = some (some v) ∧ Rep B F' r d v := by
  obtain ⟨a, e1, q1, q2, u, q3, q4⟩ := R.own i d h
  have hi : i < en.length := (List.getElem?_eq_some_iff.mp h).1
  have own' : ∀ j b, OwnI σ (en.set i (some (.v d))) j b → OwnI σ en j b ∧ j ≠ i := fun j b ⟨d', z1, z2⟩ => by
    by_cases q : j = i
    · subst q
      rw [List.getElem?_set_self hi] at z1
      cases z1
    · rw [List.getElem?_set_ne (Ne.symm q)] at z1
      exact ⟨⟨d', z1, z2⟩, q⟩
  have hno : ¬ OwnAt σ (en.set i (some (.v d))) a := fun ⟨j, z⟩ => by
    obtain ⟨z1, z2⟩ := own' j a z
    exact z2 (R.dis j i a z1 ⟨d, h, e1⟩)
  have rep : Rep B (upd F a u) r d (.ref a) := (q4.mono (sub_upd q1) (Pre.refl _)).rep upd_same
  refine ⟨upd F a u, ⟨fun b w e hr ho => e, fun _ e => e, sub_upd q1, ⟨[], by simp, fun _ z => by cases z⟩, fun b w e => ?_, fun b ⟨j, z⟩ => .inl ⟨j, (own' j b z).1⟩⟩, ⟨R.w.freeze q3 q1 q2, fun j d' e => ?_, fun j d' e => ?_, fun j k b z1 z2 => R.dis j k b (own' j b z1).1 (own' k b z2).1, by rw [List.length_set]; exact R.len⟩, .ref a, e1, rep⟩
  · by_cases q : b = a
    · subst q; exact .inr (.inr ⟨i, d, h, e1⟩)
    · rw [upd_ne q] at e; exact .inl e
  · by_cases q : j = i
    · subst q
      rw [List.getElem?_set_self hi] at e
      cases e
      exact ⟨.ref a, e1, rep⟩
    · rw [List.getElem?_set_ne (Ne.symm q)] at e
      obtain ⟨v, e1, e2⟩ := R.val j d' e
      exact ⟨v, e1, e2.mono (sub_upd q1) (Pre.refl _)⟩
  · by_cases q : j = i
    · subst q
      rw [List.getElem?_set_self hi] at e
      cases e
    · rw [List.getElem?_set_ne (Ne.symm q)] at e
      obtain ⟨b, f1, f2, f3, w, f4, f5⟩ := R.own j d' e
      have ne : b ≠ a := fun z => q (R.dis j i a ⟨d', e, z ▸ f1⟩ ⟨d, h, e1⟩)
      exact ⟨b, f1, by rw [upd_ne ne]; exact f2, f3, w, f4, f5.mono (sub_upd q1) (Pre.refl _)⟩
/-- what a call leaves -/
structure CStep (F : Hp) (r : List Addr) (H : Hp) (F' : Hp) (r' : List Addr) (H' : Hp) : Prop where
  keep : ∀ a o, H a = some o → a ∉ r → H' a = some o
  there : ∀ a, H' a = none → H a = none
  grow : Sub F F'
  pre : ∃ t, r' = r ++ t ∧ ∀ a ∈ t, H a = none
  new : ∀ a o, F' a = some o → F a = some o ∨ H a = none
theorem CStep.refl : CStep F r H F r H := ⟨fun _ _ e _ => e, fun _ e => e, Sub.refl _, ⟨[], by simp, fun _ h => by cases h⟩, fun _ _ e => .inl e⟩
theorem CStep.prx {F' : Hp} {r' : List Addr} {H' : Hp} (S : CStep F r H F' r' H') : Pre r r' := let ⟨t, e, _⟩ := S.pre; ⟨t, e⟩
theorem CStep.step {F' : Hp} {r' : List Addr} {H' : Hp} (S : CStep F r H F' r' H') : Step σ en F r H σ en F' r' H' where
  keep := fun a o e hr _ => S.keep a o e hr
  there := S.there
  grow := S.grow
  pre := let ⟨t, e, h⟩ := S.pre; ⟨t, e, fun a ha => .inl (h a ha)⟩
  new := fun a o e => (S.new a o e).imp id .inl
  owns := fun _ h => .inl h
theorem Step.cstep {F' : Hp} {r' : List Addr} {H' : Hp} {σ' : Sl} {en' : En} (S : Step σ en F r H σ' en' F' r' H') (h : ∀ a, ¬ OwnAt σ en a) : CStep F r H F' r' H' where
  keep := fun a o e hr => S.keep a o e hr (h a)
  there := S.there
  grow := S.grow
  pre := let ⟨t, e, q⟩ := S.pre; ⟨t, e, fun a ha => (q a ha).resolve_right (h a)⟩
  new := fun a o e => (S.new a o e).imp id fun q => q.resolve_right (h a)
theorem Rel.call {F' : Hp} {r' : List Addr} {H' : Hp} {st' : List D} (R : Rel B F r en st σ H) (S : CStep F r H F' r' H') (W : World B F' r' st' H') : Rel B F' r' en st' σ H' where
  w := W
  val := fun i d e => let ⟨v, e1, e2⟩ := R.val i d e; ⟨v, e1, e2.mono S.grow S.prx⟩
  own := fun i d e => by
    obtain ⟨a, e1, q1, q2, u, q3, q4⟩ := R.own i d e
    refine ⟨a, e1, ?_, ?_, u, S.keep a u q3 q2, q4.mono S.grow S.prx⟩
    · cases z : F' a with
      | none => rfl
      | some w =>
        rcases S.new a w z with y | y
        · rw [y] at q1; cases q1
        · rw [y] at q3; cases q3
    · obtain ⟨t, rfl, ht⟩ := S.pre
      intro z
      rcases List.mem_append.mp z with z | z
      · exact q2 z
      · rw [ht a z] at q3; cases q3
  dis := R.dis
  len := R.len
/-- a new tuple (or other thing) that is data at once -/
theorem Rel.newF (R : Rel B F r en st σ H) (hp : H p = none) : Rel B (upd F p o) r en st σ (upd H p o) :=
  (R.alloc hp).freeze upd_same (R.w.fresh hp).1 (R.w.fresh hp).2 (R.noOwn hp)
theorem Step.newF (R : Rel B F r en st σ H) (hp : H p = none) : Step σ en F r H σ en (upd F p o) r (upd H p o) :=
  (Step.alloc hp).freeze (R.w.fresh hp).1 (.inl hp)
end
end Ev
set_option Elab.async false
set_option linter.all false
set_option autoImplicit false
set_option maxRecDepth 100000
/-! Ev, part B: readings over plain data, and what they say of the layer's readings. -/
namespace Ev
open PySem PySem.Spec PyProof.Rows L2
/-- an exception: its class, its attribute -/
abbrev Xn := Nat × Option D
abbrev KT := T → En → List D → Prop
abbrev KB := Bool → En → List D → Prop
abbrev KA := List D → En → List D → Prop
abbrev KX := Xn → En → List D → Prop
abbrev DTE := En → List D → KT → KX → Prop
abbrev DTT := En → List D → KB → KX → Prop
abbrev DTA := En → List D → KA → KX → Prop
def MonoE (t : DTE) : Prop := ∀ (en : En) (st : List D) (k k' : KT) (e e' : KX), (∀ x n s, k x n s → k' x n s) → (∀ x n s, e x n s → e' x n s) → t en st k e → t en st k' e'
def MonoT (t : DTT) : Prop := ∀ (en : En) (st : List D) (k k' : KB) (e e' : KX), (∀ x n s, k x n s → k' x n s) → (∀ x n s, e x n s → e' x n s) → t en st k e → t en st k' e'
def MonoA (t : DTA) : Prop := ∀ (en : En) (st : List D) (k k' : KA) (e e' : KX), (∀ x n s, k x n s → k' x n s) → (∀ x n s, e x n s → e' x n s) → t en st k e → t en st k' e'
def XRep (B : Bg) (F : Hp) (r : List Addr) : Xn → Value → Option Addr → Prop
  | (c, none), cls, d => cls = .ref (B.cls c) ∧ d = none
  | (c, some x), cls, d => cls = .ref (B.cls c) ∧ ∃ da v, d = some da ∧ F da = some (.xd [(B.fld c, v)]) ∧ Rep B F r x v
def Kpost (B : Bg) (σ : Sl) (Q : VK) (F : Hp) (r : List Addr) (en : En) (H : Hp) : KT := fun x en' st' =>
  ∀ F' r' H' v, Step σ en F r H σ en' F' r' H' → Rel B F' r' en' st' σ H' → TRep B F' r' H' σ en' H en x v → Q v H'
def Bpost (B : Bg) (σ : Sl) (Q : Bool → Hp → Prop) (F : Hp) (r : List Addr) (en : En) (H : Hp) : KB := fun b en' st' =>
  ∀ F' r' H', Step σ en F r H σ en' F' r' H' → Rel B F' r' en' st' σ H' → Q b H'
def Apost (B : Bg) (σ : Sl) (Q : List V → Hp → Prop) (F : Hp) (r : List Addr) (en : En) (H : Hp) : KA := fun ds en' st' =>
  ∀ F' r' H' vs, Step σ en F r H σ en' F' r' H' → Rel B F' r' en' st' σ H' → Reps B F' r' ds vs → Q vs H'
def Epost (B : Bg) (σ : Sl) (W : WX) (F : Hp) (r : List Addr) (en : En) (H : Hp) : KX := fun x en' st' =>
  ∀ F' r' H' cls d, Step σ en F r H σ en' F' r' H' → Rel B F' r' en' st' σ H' → XRep B F' r' x cls d → W cls d σ H'
def tM (B : Bg) (W : WX) (t : DTE) : TE := fun σ H Q => ∃ F r en st, Rel B F r en st σ H ∧ t en st (Kpost B σ Q F r en H) (Epost B σ W F r en H)
def tMT (B : Bg) (W : WX) (t : DTT) : TT := fun σ H Q => ∃ F r en st, Rel B F r en st σ H ∧ t en st (Bpost B σ Q F r en H) (Epost B σ W F r en H)
def tMA (B : Bg) (W : WX) (t : DTA) : TA := fun σ H Q => ∃ F r en st, Rel B F r en st σ H ∧ t en st (Apost B σ Q F r en H) (Epost B σ W F r en H)
section
variable {B : Bg} {σ : Sl} {W : WX} {F F1 : Hp} {r r1 : List Addr} {en en1 : En} {H H1 : Hp}
theorem TRep.shift {F' : Hp} {r' : List Addr} {H' : Hp} {en' : En} {x : T} {v : V} (S : Step σ en F r H σ en1 F1 r1 H1) (t : TRep B F' r' H' σ en' H1 en1 x v) : TRep B F' r' H' σ en' H en x v := by
  cases x with
  | v d => exact t
  | o d =>
    obtain ⟨a, e, q1, q2, q3⟩ := t
    refine ⟨a, e, q1, q2, ?_⟩
    rcases q3 with q | q
    · exact .inl (S.there a q)
    · exact (S.owns a q).symm
theorem Kpost.shift {Q : VK} (S : Step σ en F r H σ en1 F1 r1 H1) {x : T} {n : En} {s : List D} (h : Kpost B σ Q F r en H x n s) : Kpost B σ Q F1 r1 en1 H1 x n s :=
  fun F' r' H' v U R t => h F' r' H' v (S.trans U) R (t.shift S)
theorem Bpost.shift {Q : Bool → Hp → Prop} (S : Step σ en F r H σ en1 F1 r1 H1) {x : Bool} {n : En} {s : List D} (h : Bpost B σ Q F r en H x n s) : Bpost B σ Q F1 r1 en1 H1 x n s :=
  fun F' r' H' U R => h F' r' H' (S.trans U) R
theorem Apost.shift {Q : List V → Hp → Prop} (S : Step σ en F r H σ en1 F1 r1 H1) {x : List D} {n : En} {s : List D} (h : Apost B σ Q F r en H x n s) : Apost B σ Q F1 r1 en1 H1 x n s :=
  fun F' r' H' v U R t => h F' r' H' v (S.trans U) R t
theorem Epost.shift (S : Step σ en F r H σ en1 F1 r1 H1) {x : Xn} {n : En} {s : List D} (h : Epost B σ W F r en H x n s) : Epost B σ W F1 r1 en1 H1 x n s :=
  fun F' r' H' c d U R t => h F' r' H' c d (S.trans U) R t
/-- a first expression, then the rest: its value becomes data -/
theorem at_bind {st : List D} {ta : DTE} {k : D → KT} {Q : V → Hp → Prop} (ma : MonoE ta) (R : Rel B F r en st σ H) (h : ta en st (fun x en1 st1 => k x.d (.v x.d) en1 st1) (Epost B σ W F r en H))
    (hk : ∀ d en1 st1 F1 r1 H1 v, Step σ en F r H σ en1 F1 r1 H1 → Rel B F1 r1 en1 st1 σ H1 → Rep B F1 r1 d v → k d (.v d) en1 st1 → Q v H1) : tM B W ta σ H Q := by
  refine ⟨F, r, en, st, R, ma _ _ _ _ _ _ (fun x en1 st1 h1 => ?_) (fun _ _ _ h1 => h1) h⟩
  intro F1 r1 H1 v S1 R1 t1
  obtain ⟨F2, S2, R2, rep, _⟩ := freezeT S1 R1 t1
  exact hk _ _ _ F2 r1 H1 v S2 R2 rep h1
theorem at_bindA {st : List D} {ta : DTA} {k : KA} {Q : List V → Hp → Prop} (ma : MonoA ta) (R : Rel B F r en st σ H) (h : ta en st k (Epost B σ W F r en H))
    (hk : ∀ ds en1 st1 F1 r1 H1 vs, Step σ en F r H σ en1 F1 r1 H1 → Rel B F1 r1 en1 st1 σ H1 → Reps B F1 r1 ds vs → k ds en1 st1 → Q vs H1) : tMA B W ta σ H Q := by
  refine ⟨F, r, en, st, R, ma _ _ _ _ _ _ (fun x en1 st1 h1 => ?_) (fun _ _ _ h1 => h1) h⟩
  intro F1 r1 H1 v S1 R1 t1
  exact hk _ _ _ F1 r1 H1 v S1 R1 t1 h1
theorem at_bindT {st : List D} {ta : DTT} {k : KB} {Q : Bool → Hp → Prop} (ma : MonoT ta) (R : Rel B F r en st σ H) (h : ta en st k (Epost B σ W F r en H))
    (hk : ∀ b en1 st1 F1 r1 H1, Step σ en F r H σ en1 F1 r1 H1 → Rel B F1 r1 en1 st1 σ H1 → k b en1 st1 → Q b H1) : tMT B W ta σ H Q := by
  refine ⟨F, r, en, st, R, ma _ _ _ _ _ _ (fun x en1 st1 h1 => ?_) (fun _ _ _ h1 => h1) h⟩
  intro F1 r1 H1 S1 R1
  exact hk _ _ _ F1 r1 H1 S1 R1 h1
/-- ends of a value -/
theorem kp_val {Q : VK} {st : List D} {d : D} {v : V} (h : Kpost B σ Q F r en H (.v d) en st) (R : Rel B F r en st σ H) (q : Rep B F r d v) : Q v H := h F r H v Step.refl R q
theorem kp_tup {Q : VK} {st : List D} {ds : List D} {vs : List V} {p : Addr} (h : Kpost B σ Q F r en H (.v (.tup ds)) en st) (R : Rel B F r en st σ H) (hp : H p = none) (q : Reps B F r ds vs) : Q (.ref p) (upd H p (.tup vs)) :=
  h (upd F p (.tup vs)) r _ _ (Step.newF R hp) (R.newF hp) ⟨p, vs, rfl, .inl (.inl upd_same), Reps.mono (sub_upd (R.w.fresh hp).1) (Pre.refl _) _ _ q⟩
theorem kp_new {Q : VK} {st : List D} {d : D} {o : HO} {p : Addr} (h : Kpost B σ Q F r en H (.o d) en st) (R : Rel B F r en st σ H) (hp : H p = none) (q : ORep B F r d o) : Q (.ref p) (upd H p o) :=
  h F r _ _ (Step.alloc hp) (R.alloc hp) ⟨p, rfl, ⟨(R.w.fresh hp).1, (R.w.fresh hp).2, o, upd_same, q⟩, R.noOwn hp, .inl hp⟩
end
theorem PE.weak {X : Cx} {e : Expr} {t t' : TE} (h : PE X e t) (w : ∀ σ H Q, t' σ H Q → t σ H Q) : PE X e t' := ⟨fun pins s σ H Q I q => h.run pins s σ H Q I (w σ H Q q)⟩
theorem PT.weak {X : Cx} {e : Expr} {t t' : TT} (h : PT X e t) (w : ∀ σ H Q, t' σ H Q → t σ H Q) : PT X e t' := ⟨fun pins s σ H Q I q => h.run pins s σ H Q I (w σ H Q q)⟩
theorem PA.weak {X : Cx} {e : List Expr} {t t' : TA} (h : PA X e t) (w : ∀ σ H Q, t' σ H Q → t σ H Q) : PA X e t' := ⟨fun pos pins s σ H Q I q => h.run pos pins s σ H Q I (w σ H Q q)⟩
theorem PW.weak {X : Cx} {e : Expr} {t t' : TT} (h : PW X e t) (w : ∀ σ H Q, t' σ H Q → t σ H Q) : PW X e t' := ⟨fun wh pins s σ H Q I q => h.run wh pins s σ H Q I (w σ H Q q)⟩
/-! ### judgements -/
structure DE (B : Bg) (W : WX) (X : Cx) (e : Expr) (t : DTE) : Prop where
  mono : MonoE t
  run : PE X e (tM B W t)
structure DT (B : Bg) (W : WX) (X : Cx) (e : Expr) (t : DTT) : Prop where
  mono : MonoT t
  run : PT X e (tMT B W t)
structure DA (B : Bg) (W : WX) (X : Cx) (es : List Expr) (t : DTA) : Prop where
  mono : MonoA t
  run : PA X es (tMA B W t)
section
variable {B : Bg} {W : WX} {X : Cx} {e a b c : Expr} {es : List Expr} {pos : Pos} {te ta tb tc : DTE} {tA : DTA} {tt tu : DTT}
/-! ### constants, names -/
def dC (d : D) : DTE := fun en st k _ => k (.v d) en st
theorem dC_mono (d : D) : MonoE (dC d) := fun _ _ _ _ _ _ hk _ h => hk _ _ _ h
theorem de_const {v : V} {d : D} (h : PE X e (tC v)) (hd : ∀ F r, Rep B F r d v) : DE B W X e (dC d) := by
  refine ⟨dC_mono d, PE.weak h fun σ H Q ⟨F, r, en, st, R, q⟩ => ?_⟩
  exact kp_val q R (hd F r)
/-- a name: a thing that it holds becomes shared data -/
def dVar (i : Nat) : DTE := fun en st k _ => match en[i]? with
  | some (some (.v d)) => k (.v d) en st
  | some (some (.o d)) => k (.v d) (en.set i (some (.v d))) st
  | _ => False
theorem dVar_mono (i : Nat) : MonoE (dVar i) := fun en st k k' e e' hk _ h => by
  unfold dVar at h ⊢
  split at h
  · exact hk _ _ _ h
  · exact hk _ _ _ h
  · exact h.elim
theorem de_var {i : Nat} (h : PE X e (tVar i)) : DE B W X e (dVar i) := by
  refine ⟨dVar_mono i, PE.weak h fun σ H Q ⟨F, r, en, st, R, q⟩ => ?_⟩
  unfold dVar at q
  split at q
  · rename_i d hd
    obtain ⟨v, e1, e2⟩ := R.val i d hd
    exact ⟨v, e1, kp_val q R e2⟩
  · rename_i d hd
    obtain ⟨F', S, R', v, e1, e2⟩ := R.freezeSlot hd
    exact ⟨v, e1, q F' r H v S R' e2⟩
  · exact q.elim
/-! ### operators of two values -/
abbrev Op2 := D → D → (T → Prop) → Prop
def Mono2 (g : Op2) : Prop := ∀ x y (k k' : T → Prop), (∀ t, k t → k' t) → g x y k → g x y k'
def dOp (g : Op2) (ta tb : DTE) : DTE := fun en st k e => ta en st (fun x en1 st1 => tb en1 st1 (fun y en2 st2 => g x.d y.d fun t => k t en2 st2) e) e
theorem dOp_mono {g : Op2} (mg : Mono2 g) (ma : MonoE ta) (mb : MonoE tb) : MonoE (dOp g ta tb) := fun en st k k' e e' hk he h =>
  ma _ _ _ _ _ _ (fun x en1 st1 h1 => mb _ _ _ _ _ _ (fun y en2 st2 h2 => mg _ _ _ _ (fun t ht => hk _ _ _ ht) h2) he h1) he h
/-- what the operator's rule is to show -/
def rG (B : Bg) (g : Op2) : R2 := fun v u H Q => ∃ σ F r en st x y, Rel B F r en st σ H ∧ Rep B F r x v ∧ Rep B F r y u ∧ g x y fun t => Kpost B σ Q F r en H t en st
theorem op_two {r : R2} {g : Op2} {Q : VK} {σ : Sl} {H : Hp} (mg : Mono2 g) (mb : MonoE tb) (ma : MonoE ta) (hg : ∀ v u H Q, rG B g v u H Q → r v u H Q) (h : tM B W (dOp g ta tb) σ H Q) : tOp r (tM B W ta) (tM B W tb) σ H Q := by
  obtain ⟨F, rr, en, st, R, q⟩ := h
  refine at_bind (k := fun d _ en1 st1 => tb en1 st1 (fun y en2 st2 => g d y.d fun t => Kpost B σ Q F rr en H t en2 st2) (Epost B σ W F rr en H)) ma R q fun d en1 st1 F1 r1 H1 v S1 R1 rep1 h1 => ?_
  refine at_bind (k := fun d' _ en2 st2 => g d d' fun t => Kpost B σ Q F rr en H t en2 st2) mb R1 (mb _ _ _ _ _ _ (fun _ _ _ z => z) (fun _ _ _ z => z.shift S1) h1) fun d' en2 st2 F2 r2 H2 u S2 R2 rep2 h2 => ?_
  refine hg _ _ _ _ ⟨σ, F2, r2, en2, st2, d, d', R2, rep1.step S2, rep2, ?_⟩
  exact mg _ _ _ _ (fun t ht => ht.shift (S1.trans S2)) h2
end
end Ev
set_option Elab.async false
set_option linter.all false
set_option autoImplicit false
set_option maxRecDepth 100000
/-! Ev, part C: operators and comparisons over plain data. -/
namespace Ev
open PySem PySem.Spec PyProof.Rows L2
/-! ### data for the library's == and repr -/
mutual
def dat : D → Option PyData
  | .non => some .none
  | .bl b => some (.bool b)
  | .int i => some (.int i)
  | .str s => some (.str s)
  | .tup xs => (datL xs).map .tuple
  | .lst xs => (datL xs).map .list
  | _ => none
def datL : List D → Option (List PyData)
  | [] => some []
  | x :: xs => match dat x, datL xs with
    | some d, some ds => some (d :: ds)
    | _, _ => none
end
mutual
/-- == of data -/
def deq : D → D → Bool
  | .non, .non => true
  | .bl a, .bl b => a == b
  | .bl a, .int j => (if a then 1 else 0) == j
  | .int i, .bl b => i == (if b then 1 else 0)
  | .int i, .int j => i == j
  | .str x, .str y => x == y
  | .lst xs, .lst ys => deqL xs ys
  | .tup xs, .tup ys => deqL xs ys
  | _, _ => false
def deqL : List D → List D → Bool
  | [], [] => true
  | x :: xs, y :: ys => deq x y && deqL xs ys
  | _, _ => false
end
theorem datL_cons {x : D} {xs : List D} {d : List PyData} (h : datL (x :: xs) = some d) : ∃ y ys, dat x = some y ∧ datL xs = some ys ∧ d = y :: ys := by
  unfold datL at h
  cases h1 : dat x with
  | none => rw [h1] at h; cases h
  | some y =>
    cases h2 : datL xs with
    | none => rw [h1, h2] at h; cases h
    | some ys => rw [h1, h2] at h; exact ⟨y, ys, rfl, rfl, (Option.some.inj h).symm⟩
mutual
theorem deq_dat : ∀ (x y : D) (d e : PyData), dat x = some d → dat y = some e → PyData.eqv d e = deq x y
  | x, y, d, e, h1, h2 => by
    cases x <;> cases y <;> simp only [dat, Option.map_eq_some_iff, Option.some.injEq, reduceCtorEq] at h1 h2 <;> (try contradiction)
    all_goals first
      | (obtain ⟨d', h1, rfl⟩ := h1; obtain ⟨e', h2, rfl⟩ := h2; simp only [PyData.eqv, deq]; done)
      | (obtain ⟨d', h1, rfl⟩ := h1; obtain ⟨e', h2, rfl⟩ := h2; simp only [PyData.eqv, deq]; exact deqL_dat _ _ _ _ h1 h2)
      | (obtain ⟨d', h1, rfl⟩ := h1; subst h2; simp only [PyData.eqv, deq])
      | (obtain ⟨e', h2, rfl⟩ := h2; subst h1; simp only [PyData.eqv, deq])
      | (subst h1 h2; simp only [PyData.eqv, deq])
theorem deqL_dat : ∀ (x y : List D) (d e : List PyData), datL x = some d → datL y = some e → PyData.eqvAll d e = deqL x y
  | [], [], d, e, h1, h2 => by
    simp only [datL, Option.some.injEq] at h1 h2
    subst h1 h2
    simp only [PyData.eqvAll, deqL]
  | [], y :: ys, d, e, h1, h2 => by
    simp only [datL, Option.some.injEq] at h1
    subst h1
    obtain ⟨b, bs, e1, e2, rfl⟩ := datL_cons h2
    simp only [PyData.eqvAll, deqL]
  | x :: xs, [], d, e, h1, h2 => by
    simp only [datL, Option.some.injEq] at h2
    subst h2
    obtain ⟨b, bs, e1, e2, rfl⟩ := datL_cons h1
    simp only [PyData.eqvAll, deqL]
  | x :: xs, y :: ys, d, e, h1, h2 => by
    obtain ⟨a, as, f1, f2, rfl⟩ := datL_cons h1
    obtain ⟨b, bs, g1, g2, rfl⟩ := datL_cons h2
    simp only [PyData.eqvAll, deqL, deq_dat x y a b f1 g1, deqL_dat xs ys as bs f2 g2]
end
mutual
theorem dp_of {B : Bg} {F : Hp} {r : List Addr} {H : Hp} (s : Sub F H) : ∀ (x : D) (d : PyData) (v : V), dat x = some d → Rep B F r x v → Dp B.K H v d
  | .non, d, v, h, q => by cases h; cases q; exact .non
  | .bl b, d, v, h, q => by cases h; cases q; exact .bl b
  | .int b, d, v, h, q => by cases h; cases q; exact .int b
  | .str b, d, v, h, q => by cases h; cases q; exact .str b
  | .tup xs, d, v, h, ⟨a, vs, e, q, w⟩ => by
    unfold dat at h
    obtain ⟨ds, h1, rfl⟩ := Option.map_eq_some_iff.mp h
    subst e
    exact .tup (s.sqT q) (dpL_of s xs ds vs h1 w)
  | .lst xs, d, v, h, ⟨a, vs, e, q, w⟩ => by
    unfold dat at h
    obtain ⟨ds, h1, rfl⟩ := Option.map_eq_some_iff.mp h
    subst e
    exact .lst (.inl (.inl (s _ _ q))) (dpL_of s xs ds vs h1 w)
theorem dpL_of {B : Bg} {F : Hp} {r : List Addr} {H : Hp} (s : Sub F H) : ∀ (x : List D) (d : List PyData) (v : List V), datL x = some d → Reps B F r x v → DpAll B.K H v d
  | [], d, v, h, q => by
    unfold datL at h
    cases h
    cases q
    exact .nil
  | x :: xs, d, v, h, ⟨y, t, e, w1, w2⟩ => by
    obtain ⟨a, as, f1, f2, rfl⟩ := datL_cons h
    subst e
    exact .cons (dp_of s x a y f1 w1) (dpL_of s xs as t f2 w2)
end
def okD (x : D) : Bool := match dat x with
  | some d => SeqAt.shaped d
  | none => false
theorem okD_some {x : D} (h : okD x = true) : ∃ d, dat x = some d ∧ SeqAt.shaped d = true := by
  unfold okD at h
  split at h
  · exact ⟨_, by assumption, h⟩
  · cases h
/-- scalars that are compared at once -/
def scalD : D → D → Bool
  | .non, .non => true
  | .non, .int _ => true
  | .int _, .non => true
  | .non, .bl _ => true
  | .bl _, .non => true
  | .non, .str _ => true
  | .str _, .non => true
  | .int _, .int _ => true
  | .bl _, .bl _ => true
  | .str _, .str _ => true
  | .int _, .str _ => true
  | .str _, .int _ => true
  | _, _ => false
theorem scal_of {B : Bg} {F : Hp} {r : List Addr} {x y : D} {v u : V} (h : scalD x y = true) (p : Rep B F r x v) (q : Rep B F r y u) : scal v u = true ∧ decide (v = u) = deq x y := by
  cases x <;> cases y <;> simp only [scalD, reduceCtorEq] at h <;> cases p <;> cases q <;> refine ⟨rfl, ?_⟩ <;> simp [deq] <;> rfl
/-! ### the operators -/
def oAdd : Op2
  | .int a, .int b, k => k (.v (.int (a + b)))
  | .str a, .str b, k => a.length + b.length ≤ sizeLine ∧ k (.v (.str (a ++ b)))
  | .lst a, .lst b, k => a.length + b.length ≤ sizeLine ∧ k (.o (.lst (a ++ b)))
  | .tup a, .tup b, k => a.length + b.length ≤ sizeLine ∧ k (.v (.tup (a ++ b)))
  | _, _, _ => False
def oSub : Op2
  | .int a, .int b, k => k (.v (.int (a - b)))
  | _, _, _ => False
def oMul : Op2
  | .int a, .int b, k => IntMulOk a b ∧ k (.v (.int (a * b)))
  | .lst a, .int b, k => b < 2 ^ 62 ∧ -(2 ^ 62) ≤ b ∧ a.length * b.toNat ≤ sizeLine ∧ k (.o (.lst (List.replicate b.toNat a).flatten))
  | _, _, _ => False
def oDiv : Op2
  | .int a, .int b, k => CDivW a b ∧ k (.v (.int (a / b)))
  | _, _, _ => False
def oMod : Op2
  | .int a, .int b, k => 0 < b ∧ k (.v (.int (a % b)))
  | _, _, _ => False
def oPow : Op2
  | .int a, .int b, k => (0 ≤ b ∧ b ≤ 1000000 ∧ a.natAbs < 2 ^ 64) ∧ k (.v (.int (a ^ b.toNat)))
  | _, _, _ => False
def oEq : Op2 := fun x y k => (scalD x y = true ∨ (okD x = true ∧ okD y = true)) ∧ k (.v (.bl (deq x y)))
def oNe : Op2 := fun x y k => (scalD x y = true ∨ (okD x = true ∧ okD y = true)) ∧ k (.v (.bl (!deq x y)))
def oLt : Op2
  | .int a, .int b, k => k (.v (.bl (decide (a < b))))
  | _, _, _ => False
def oLe : Op2
  | .int a, .int b, k => k (.v (.bl (decide (a ≤ b))))
  | _, _, _ => False
def oGt : Op2
  | .int a, .int b, k => k (.v (.bl (decide (b < a))))
  | _, _, _ => False
def oGe : Op2
  | .int a, .int b, k => k (.v (.bl (decide (b ≤ a))))
  | _, _, _ => False
def flatD : D → Bool
  | .non => true
  | .bl _ => true
  | .int _ => true
  | .str _ => true
  | _ => false
def oIn : Op2
  | x, .lst ys, k => (flatD x = true ∧ ys.all flatD = true) ∧ k (.v (.bl (ys.any fun y => deq y x)))
  | x, .tup ys, k => (flatD x = true ∧ ys.all flatD = true) ∧ k (.v (.bl (ys.any fun y => deq y x)))
  | _, _, _ => False
def oNotIn : Op2
  | x, .lst ys, k => (flatD x = true ∧ ys.all flatD = true) ∧ k (.v (.bl (!ys.any fun y => deq y x)))
  | x, .tup ys, k => (flatD x = true ∧ ys.all flatD = true) ∧ k (.v (.bl (!ys.any fun y => deq y x)))
  | _, _, _ => False
/-- is None, is not None -/
def isNone : D → Bool
  | .non => true
  | _ => false
def oIs : Op2
  | x, .non, k => k (.v (.bl (isNone x)))
  | _, _, _ => False
def oIsNot : Op2
  | x, .non, k => k (.v (.bl (!isNone x)))
  | _, _, _ => False
theorem mono_oAdd : Mono2 oAdd := fun x y k k' hk h => by
  cases x <;> cases y <;> simp only [oAdd] at h ⊢ <;> first | exact hk _ h | exact ⟨h.1, hk _ h.2⟩ | exact h
theorem mono_oSub : Mono2 oSub := fun x y k k' hk h => by
  cases x <;> cases y <;> simp only [oSub] at h ⊢ <;> first | exact hk _ h | exact h
theorem mono_oMul : Mono2 oMul := fun x y k k' hk h => by
  cases x <;> cases y <;> simp only [oMul] at h ⊢ <;> first | exact ⟨h.1, hk _ h.2⟩ | exact ⟨h.1, h.2.1, h.2.2.1, hk _ h.2.2.2⟩ | exact h
theorem mono_oDiv : Mono2 oDiv := fun x y k k' hk h => by
  cases x <;> cases y <;> simp only [oDiv] at h ⊢ <;> first | exact ⟨h.1, hk _ h.2⟩ | exact h
theorem mono_oMod : Mono2 oMod := fun x y k k' hk h => by
  cases x <;> cases y <;> simp only [oMod] at h ⊢ <;> first | exact ⟨h.1, hk _ h.2⟩ | exact h
theorem mono_oPow : Mono2 oPow := fun x y k k' hk h => by
  cases x <;> cases y <;> simp only [oPow] at h ⊢ <;> first | exact ⟨h.1, hk _ h.2⟩ | exact h
theorem mono_oEq : Mono2 oEq := fun x y k k' hk h => ⟨h.1, hk _ h.2⟩
theorem mono_oNe : Mono2 oNe := fun x y k k' hk h => ⟨h.1, hk _ h.2⟩
theorem mono_oLt : Mono2 oLt := fun x y k k' hk h => by
  cases x <;> cases y <;> simp only [oLt] at h ⊢ <;> first | exact hk _ h | exact h
theorem mono_oLe : Mono2 oLe := fun x y k k' hk h => by
  cases x <;> cases y <;> simp only [oLe] at h ⊢ <;> first | exact hk _ h | exact h
theorem mono_oGt : Mono2 oGt := fun x y k k' hk h => by
  cases x <;> cases y <;> simp only [oGt] at h ⊢ <;> first | exact hk _ h | exact h
theorem mono_oGe : Mono2 oGe := fun x y k k' hk h => by
  cases x <;> cases y <;> simp only [oGe] at h ⊢ <;> first | exact hk _ h | exact h
theorem mono_oIn : Mono2 oIn := fun x y k k' hk h => by
  cases y <;> simp only [oIn] at h ⊢ <;> first | exact ⟨h.1, hk _ h.2⟩ | exact h
theorem mono_oNotIn : Mono2 oNotIn := fun x y k k' hk h => by
  cases y <;> simp only [oNotIn] at h ⊢ <;> first | exact ⟨h.1, hk _ h.2⟩ | exact h
theorem mono_oIs : Mono2 oIs := fun x y k k' hk h => by
  cases y <;> simp only [oIs] at h ⊢ <;> first | exact hk _ h | exact h
theorem mono_oIsNot : Mono2 oIsNot := fun x y k k' hk h => by
  cases y <;> simp only [oIsNot] at h ⊢ <;> first | exact hk _ h | exact h
theorem Reps.len {B : Bg} {F : Hp} {r : List Addr} : ∀ {ds : List D} {vs : List V}, Reps B F r ds vs → vs.length = ds.length
  | [], vs, h => by cases h; rfl
  | d :: ds, vs, ⟨v, t, e, _, h⟩ => by rw [e, List.length_cons, Reps.len h, List.length_cons]
theorem Reps.app {B : Bg} {F : Hp} {r : List Addr} {es : List D} {us : List V} (h' : Reps B F r es us) : ∀ {ds : List D} {vs : List V}, Reps B F r ds vs → Reps B F r (ds ++ es) (vs ++ us)
  | [], vs, h => by cases h; exact h'
  | d :: ds, vs, ⟨v, t, e, q, h⟩ => ⟨v, t ++ us, by rw [e]; rfl, q, Reps.app h' h⟩
theorem Reps.rep {B : Bg} {F : Hp} {r : List Addr} {ds : List D} {vs : List V} (h : Reps B F r ds vs) : ∀ n : Nat, Reps B F r (List.replicate n ds).flatten (List.replicate n vs).flatten
  | 0 => rfl
  | n + 1 => by
    rw [List.replicate_succ, List.replicate_succ, List.flatten_cons, List.flatten_cons]
    exact Reps.app (Reps.rep h n) h
theorem Reps.get {B : Bg} {F : Hp} {r : List Addr} : ∀ {ds : List D} {vs : List V} {i : Nat} {d : D}, Reps B F r ds vs → ds[i]? = some d → ∃ v, vs[i]? = some v ∧ Rep B F r d v
  | [], vs, i, d, h, e => by simp at e
  | x :: ds, vs, 0, d, ⟨v, t, e, q, h⟩, f => by
    simp at f
    subst f e
    exact ⟨v, rfl, q⟩
  | x :: ds, vs, i + 1, d, ⟨v, t, e, q, h⟩, f => by
    obtain ⟨u, g1, g2⟩ := Reps.get (i := i) (d := d) h (by simpa using f)
    subst e
    exact ⟨u, by simpa using g1, g2⟩
theorem Reps.take {B : Bg} {F : Hp} {r : List Addr} : ∀ {ds : List D} {vs : List V} (n : Nat), Reps B F r ds vs → Reps B F r (ds.take n) (vs.take n)
  | ds, vs, 0, h => rfl
  | [], vs, n + 1, h => by cases h; rfl
  | x :: ds, vs, n + 1, ⟨v, t, e, q, h⟩ => ⟨v, t.take n, by rw [e]; rfl, q, Reps.take n h⟩
theorem Reps.drop {B : Bg} {F : Hp} {r : List Addr} : ∀ {ds : List D} {vs : List V} (n : Nat), Reps B F r ds vs → Reps B F r (ds.drop n) (vs.drop n)
  | ds, vs, 0, h => h
  | [], vs, n + 1, h => by cases h; rfl
  | x :: ds, vs, n + 1, ⟨v, t, e, q, h⟩ => by rw [e]; exact Reps.drop n h
theorem Rep.flat {B : Bg} {F : Hp} {r : List Addr} {d : D} {v : V} (h : Rep B F r d v) (f : flatD d = true) : flatV v = true := by
  cases d <;> simp only [flatD, reduceCtorEq] at f <;> cases h <;> rfl
theorem Rep.eqV {B : Bg} {F : Hp} {r : List Addr} {d e : D} {v u : V} (h : Rep B F r d v) (h' : Rep B F r e u) (f : flatD d = true) (f' : flatD e = true) : eqV v u = deq d e := by
  cases d <;> cases e <;> simp only [flatD, reduceCtorEq] at f f' <;> cases h <;> cases h' <;> rfl
theorem Reps.flat {B : Bg} {F : Hp} {r : List Addr} : ∀ {ds : List D} {vs : List V}, Reps B F r ds vs → ds.all flatD = true → vs.all flatV = true
  | [], vs, h, _ => by cases h; rfl
  | x :: ds, vs, ⟨v, t, e, q, h⟩, f => by
    rw [List.all_cons, Bool.and_eq_true] at f
    rw [e, List.all_cons, q.flat f.1, Reps.flat h f.2]
    rfl
theorem Reps.any {B : Bg} {F : Hp} {r : List Addr} {x : D} {u : V} (hx : Rep B F r x u) (fx : flatD x = true) : ∀ {ds : List D} {vs : List V}, Reps B F r ds vs → ds.all flatD = true → inV u vs = ds.any fun y => deq y x
  | [], vs, h, _ => by cases h; rfl
  | d :: ds, vs, ⟨v, t, e, q, h⟩, f => by
    rw [List.all_cons, Bool.and_eq_true] at f
    have ih : inV u t = _ := Reps.any hx fx h f.2
    rw [e]
    show (L2.eqV v u || inV u t) = _
    rw [ih, q.eqV hx f.1 fx]
    rfl
section
variable {B : Bg} {X : Cx}
theorem or_add (hK : X.K = B.K) : OpR X (binaryOp .Add) (rG B oAdd) := by
  intro pins s σ' H v u a b Q I rv ru ⟨σ, F, r, en, st, x, y, R, p, q, h⟩
  cases x <;> cases y <;> simp only [oAdd] at h
  · cases p; cases q
    exact op_add pins s σ' H _ _ _ _ Q I rv ru ⟨_, _, rfl, rfl, kp_val h R rfl⟩
  · cases p; cases q
    exact op_add_str pins s σ' H _ _ _ _ Q I rv ru ⟨_, _, rfl, rfl, h.1, kp_val h.2 R rfl⟩
  · rename_i xs ys
    obtain ⟨c, vs, rfl, e1, w1⟩ := p
    obtain ⟨c', vs', rfl, e2, w2⟩ := q
    refine op_catA pins s σ' H _ _ _ _ Q I rv ru ⟨_, _, vs, vs', rfl, rfl, by rw [hK]; exact R.w.sub.sqT e1, by rw [hK]; exact R.w.sub.sqT e2, by rw [w1.len, w2.len]; exact h.1, fun z => ?_, fun _ z => ?_, fun _ _ p hp => ?_⟩
    · subst z
      have ez : xs = [] := List.eq_nil_of_length_eq_zero (by rw [← w1.len]; rfl)
      subst ez
      exact kp_val h.2 R ⟨c', vs', rfl, e2, w2⟩
    · subst z
      have ez : ys = [] := List.eq_nil_of_length_eq_zero (by rw [← w2.len]; rfl)
      subst ez
      rw [List.append_nil] at h
      exact kp_val h.2 R ⟨c, vs, rfl, e1, w1⟩
    · exact kp_tup h.2 R hp (Reps.app w2 w1)
  · obtain ⟨c, vs, rfl, e1, w1⟩ := p
    obtain ⟨c', vs', rfl, e2, w2⟩ := q
    exact op_cat pins s σ' H _ _ _ _ Q I rv ru ⟨_, _, vs, vs', rfl, rfl, R.w.sub _ _ e1, R.w.sub _ _ e2, by rw [w1.len, w2.len]; exact h.1, fun p hp => kp_new h.2 R hp ⟨_, rfl, Reps.app w2 w1⟩⟩
theorem or_sub : OpR X (binaryOp .Sub) (rG B oSub) := by
  intro pins s σ' H v u a b Q I rv ru ⟨σ, F, r, en, st, x, y, R, p, q, h⟩
  cases x <;> cases y <;> simp only [oSub] at h
  cases p; cases q
  exact op_sub pins s σ' H _ _ _ _ Q I rv ru ⟨_, _, rfl, rfl, kp_val h R rfl⟩
theorem or_mul : OpR X (binaryOp .Mult) (rG B oMul) := by
  intro pins s σ' H v u a b Q I rv ru ⟨σ, F, r, en, st, x, y, R, p, q, h⟩
  cases x <;> cases y <;> simp only [oMul] at h
  · cases p; cases q
    obtain ⟨t, rfl⟩ := rv
    obtain ⟨t', rfl⟩ := ru
    exact mul_int ⟨.int _, H, I.tok _, ⟨_, rfl⟩, kp_val h.2 R rfl⟩ h.1
  · cases q
    obtain ⟨c, vs, rfl, e1, w1⟩ := p
    obtain ⟨h1, h2, h3, h4⟩ := h
    refine op_rep pins s σ' H _ _ _ _ Q I rv ru ⟨_, _, vs, rfl, rfl, R.w.sub _ _ e1, by omega, by omega, by rw [w1.len]; exact h3, fun p hp => kp_new h4 R hp ⟨_, rfl, w1.rep _⟩⟩
theorem or_div : OpR X (binaryOp .FloorDiv) (rG B oDiv) := by
  intro pins s σ' H v u a b Q I rv ru ⟨σ, F, r, en, st, x, y, R, p, q, h⟩
  cases x <;> cases y <;> simp only [oDiv] at h
  cases p; cases q
  exact op_fdivW pins s σ' H _ _ _ _ Q I rv ru ⟨_, _, rfl, rfl, h.1, kp_val h.2 R rfl⟩
theorem or_mod : OpR X (binaryOp .Mod) (rG B oMod) := by
  intro pins s σ' H v u a b Q I rv ru ⟨σ, F, r, en, st, x, y, R, p, q, h⟩
  cases x <;> cases y <;> simp only [oMod] at h
  cases p; cases q
  exact op_mod pins s σ' H _ _ _ _ Q I rv ru ⟨_, _, rfl, rfl, h.1, kp_val h.2 R rfl⟩
theorem or_pow : OpR X (binaryOp .Pow) (rG B oPow) := by
  intro pins s σ' H v u a b Q I rv ru ⟨σ, F, r, en, st, x, y, R, p, q, h⟩
  cases x <;> cases y <;> simp only [oPow] at h
  cases p; cases q
  exact op_pow pins s σ' H _ _ _ _ Q I rv ru ⟨_, _, rfl, rfl, h.1, kp_val h.2 R rfl⟩
theorem or_eq (hK : X.K = B.K) (hu : X.A.units + 64 < cLine) : OpR X (compareOp .Eq) (rG B oEq) := by
  intro pins s σ' H v u a b Q I rv ru ⟨σ, F, r, en, st, x, y, R, p, q, h1, h2⟩
  rcases h1 with h1 | ⟨h1, h1'⟩
  · obtain ⟨e1, e2⟩ := scal_of h1 p q
    exact op_eq pins s σ' H _ _ _ _ Q I rv ru ⟨e1, by rw [e2]; exact kp_val h2 R rfl⟩
  · obtain ⟨d, e1, e2⟩ := okD_some h1
    obtain ⟨e, f1, f2⟩ := okD_some h1'
    exact op_eqD hu pins s σ' H _ _ _ _ Q I rv ru ⟨d, e, by rw [hK]; exact dp_of R.w.sub x d v e1 p, by rw [hK]; exact dp_of R.w.sub y e u f1 q, e2, f2, by rw [deq_dat x y d e e1 f1]; exact kp_val h2 R rfl⟩
theorem or_ne (hK : X.K = B.K) (hu : X.A.units + 64 < cLine) : OpR X (compareOp .NotEq) (rG B oNe) := by
  intro pins s σ' H v u a b Q I rv ru ⟨σ, F, r, en, st, x, y, R, p, q, h1, h2⟩
  rcases h1 with h1 | ⟨h1, h1'⟩
  · obtain ⟨e1, e2⟩ := scal_of h1 p q
    exact op_ne pins s σ' H _ _ _ _ Q I rv ru ⟨e1, by rw [e2]; exact kp_val h2 R rfl⟩
  · obtain ⟨d, e1, e2⟩ := okD_some h1
    obtain ⟨e, f1, f2⟩ := okD_some h1'
    exact op_neD hu pins s σ' H _ _ _ _ Q I rv ru ⟨d, e, by rw [hK]; exact dp_of R.w.sub x d v e1 p, by rw [hK]; exact dp_of R.w.sub y e u f1 q, e2, f2, by rw [deq_dat x y d e e1 f1]; exact kp_val h2 R rfl⟩
theorem or_lt : OpR X (compareOp .Lt) (rG B oLt) := by
  intro pins s σ' H v u a b Q I rv ru ⟨σ, F, r, en, st, x, y, R, p, q, h⟩
  cases x <;> cases y <;> simp only [oLt] at h
  cases p; cases q
  exact op_lt pins s σ' H _ _ _ _ Q I rv ru ⟨_, _, rfl, rfl, kp_val h R rfl⟩
theorem or_le : OpR X (compareOp .LtE) (rG B oLe) := by
  intro pins s σ' H v u a b Q I rv ru ⟨σ, F, r, en, st, x, y, R, p, q, h⟩
  cases x <;> cases y <;> simp only [oLe] at h
  cases p; cases q
  exact op_le pins s σ' H _ _ _ _ Q I rv ru ⟨_, _, rfl, rfl, kp_val h R rfl⟩
theorem or_gt : OpR X (compareOp .Gt) (rG B oGt) := by
  intro pins s σ' H v u a b Q I rv ru ⟨σ, F, r, en, st, x, y, R, p, q, h⟩
  cases x <;> cases y <;> simp only [oGt] at h
  cases p; cases q
  exact op_gt pins s σ' H _ _ _ _ Q I rv ru ⟨_, _, rfl, rfl, kp_val h R rfl⟩
theorem or_ge : OpR X (compareOp .GtE) (rG B oGe) := by
  intro pins s σ' H v u a b Q I rv ru ⟨σ, F, r, en, st, x, y, R, p, q, h⟩
  cases x <;> cases y <;> simp only [oGe] at h
  cases p; cases q
  exact op_ge pins s σ' H _ _ _ _ Q I rv ru ⟨_, _, rfl, rfl, kp_val h R rfl⟩
theorem or_in (hK : X.K = B.K) : OpR X (compareOp .In) (rG B oIn) := by
  intro pins s σ' H v u a b Q I rv ru ⟨σ, F, r, en, st, x, y, R, p, q, h⟩
  cases y <;> simp only [oIn] at h
  · obtain ⟨c, vs, rfl, e1, w1⟩ := q
    obtain ⟨⟨h1, h2⟩, h3⟩ := h
    refine op_in_seq pins s σ' H _ _ _ _ Q I rv ru ⟨c, vs, rfl, .inr (by rw [hK]; exact R.w.sub.sqT e1), p.flat h1, w1.flat h2, ?_⟩
    rw [if_neg Bool.false_ne_true]
    rw [Reps.any p h1 w1 h2]
    exact kp_val h3 R rfl
  · obtain ⟨c, vs, rfl, e1, w1⟩ := q
    obtain ⟨⟨h1, h2⟩, h3⟩ := h
    refine op_in_seq pins s σ' H _ _ _ _ Q I rv ru ⟨c, vs, rfl, .inl (.inl (.inl (R.w.sub _ _ e1))), p.flat h1, w1.flat h2, ?_⟩
    rw [if_neg Bool.false_ne_true]
    rw [Reps.any p h1 w1 h2]
    exact kp_val h3 R rfl
theorem or_notin (hK : X.K = B.K) : OpR X (compareOp .NotIn) (rG B oNotIn) := by
  intro pins s σ' H v u a b Q I rv ru ⟨σ, F, r, en, st, x, y, R, p, q, h⟩
  cases y <;> simp only [oNotIn] at h
  · obtain ⟨c, vs, rfl, e1, w1⟩ := q
    obtain ⟨⟨h1, h2⟩, h3⟩ := h
    refine op_notIn_seq pins s σ' H _ _ _ _ Q I rv ru ⟨c, vs, rfl, .inr (by rw [hK]; exact R.w.sub.sqT e1), p.flat h1, w1.flat h2, ?_⟩
    rw [if_pos rfl]
    rw [Reps.any p h1 w1 h2]
    exact kp_val h3 R rfl
  · obtain ⟨c, vs, rfl, e1, w1⟩ := q
    obtain ⟨⟨h1, h2⟩, h3⟩ := h
    refine op_notIn_seq pins s σ' H _ _ _ _ Q I rv ru ⟨c, vs, rfl, .inl (.inl (.inl (R.w.sub _ _ e1))), p.flat h1, w1.flat h2, ?_⟩
    rw [if_pos rfl]
    rw [Reps.any p h1 w1 h2]
    exact kp_val h3 R rfl
theorem Rep.none_iff {F : Hp} {r : List Addr} {d : D} {v : V} (h : Rep B F r d v) : decide (v = .non) = isNone d := by
  cases d <;> simp only [Rep] at h
  case tup => obtain ⟨_, _, rfl, _⟩ := h; rfl
  case lst => obtain ⟨_, _, rfl, _⟩ := h; rfl
  case dct => obtain ⟨_, _, rfl, _⟩ := h; rfl
  case box => obtain ⟨_, _, rfl⟩ := h; rfl
  case obj => obtain ⟨_, _, _, rfl, _⟩ := h; rfl
  case scr => obtain ⟨_, rfl, _⟩ := h; rfl
  all_goals (cases h; rfl)
theorem or_is : OpR X (compareOp .Is) (rG B oIs) := by
  intro pins s σ' H v u a b Q I rv ru ⟨σ, F, r, en, st, x, y, R, p, q, h⟩
  cases y <;> simp only [oIs] at h
  cases q
  refine op_isN pins s σ' H _ _ _ _ Q I rv ru ⟨rfl, ?_⟩
  rw [p.none_iff]
  exact kp_val h R rfl
theorem or_isnot : OpR X (compareOp .IsNot) (rG B oIsNot) := by
  intro pins s σ' H v u a b Q I rv ru ⟨σ, F, r, en, st, x, y, R, p, q, h⟩
  cases y <;> simp only [oIsNot] at h
  cases q
  refine op_notN pins s σ' H _ _ _ _ Q I rv ru ⟨rfl, ?_⟩
  rw [p.none_iff]
  exact kp_val h R rfl
end
end Ev
set_option Elab.async false
set_option linter.all false
set_option autoImplicit false
set_option maxRecDepth 100000
/-! Ev, part D: expressions. -/
namespace Ev
open PySem PySem.Spec PyProof.Rows L2
theorem notStar_each {e : Expr} {es : List Expr} {env : PySem.Env} (h : ∀ x p, e ≠ .Starred x p) : starEach (e :: es) env = (false, eval e env) :: starEach es env := by
  cases e <;> first | rfl | exact absurd rfl (h _ _)
theorem noSet_marks {op : CmpOp} {e : Expr} (h : ∀ x k p, e ≠ .Set x k p) : behindInMarks op e = false := by
  cases e <;> first | rfl | exact absurd rfl (h _ _ _)
section
variable {B : Bg} {W : WX} {X : Cx} {e a b c : Expr} {es : List Expr} {pos : Pos} {te ta tb tc : DTE} {tA : DTA} {tt tu : DTT}
theorem de_bin {op : Operator} {g : Op2} (ho : OpR X (binaryOp op) (rG B g)) (mg : Mono2 g) (ha : DE B W X a ta) (hb : DE B W X b tb) : DE B W X (.BinOp a op b pos) (dOp g ta tb) :=
  ⟨dOp_mono mg ha.mono hb.mono, PE.weak (pe_op ho ha.run hb.run) fun _ _ _ h => op_two mg hb.mono ha.mono (fun _ _ _ _ z => z) h⟩
theorem de_cmp {op : CmpOp} {g : Op2} (ho : OpR X (compareOp op) (rG B g)) (mg : Mono2 g) (ha : DE B W X a ta) (hb : DE B W X b tb) (hm : behindInMarks op b = false) : DE B W X (.Compare a [op] [b] pos) (dOp g ta tb) :=
  ⟨dOp_mono mg ha.mono hb.mono, PE.weak (pe_cmpR ho ha.run hb.run hm) fun _ _ _ h => op_two mg hb.mono ha.mono (fun _ _ _ _ z => z) h⟩
/-! ### tests -/
def dTst (te : DTE) : DTT := fun en st k e => te en st (fun x en1 st1 => ∃ b, x.d = .bl b ∧ k b en1 st1) e
theorem dTst_mono (m : MonoE te) : MonoT (dTst te) := fun en st k k' e e' hk he h => m _ _ _ _ _ _ (fun x n s ⟨b, e1, e2⟩ => ⟨b, e1, hk _ _ _ e2⟩) he h
theorem tst {σ : Sl} {H : Hp} {Q : Bool → Hp → Prop} (m : MonoE te) (h : tMT B W (dTst te) σ H Q) : tM B W te σ H fun x H' => ∃ k, x = .bl k ∧ Q k H' := by
  obtain ⟨F, r, en, st, R, q⟩ := h
  refine at_bind (k := fun d _ en1 st1 => ∃ b, d = .bl b ∧ Bpost B σ Q F r en H b en1 st1) m R (m _ _ _ _ _ _ (fun _ _ _ z => z) (fun _ _ _ z => z) q) fun d en1 st1 F1 r1 H1 v S1 R1 rep1 h1 => ?_
  obtain ⟨b, rfl, h2⟩ := h1
  exact ⟨b, rep1, h2 F1 r1 H1 S1 R1⟩
theorem dt_val (h : DE B W X e te) (he : ∀ whole, isTrue e X.env whole = (do let v ← whole; standAt e.pos; holding [v] (truthy v))) : DT B W X e (dTst te) :=
  ⟨dTst_mono h.mono, PT.weak (pt_val h.run he) fun _ _ _ q => tst h.mono q⟩
theorem dt_cmp {op : CmpOp} {g : Op2} (ho : OpR X (compareOp op) (rG B g)) (mg : Mono2 g) (ha : DE B W X a ta) (hb : DE B W X b tb) (hm : behindInMarks op b = false) : DT B W X (.Compare a [op] [b] pos) (dTst (dOp g ta tb)) :=
  ⟨dTst_mono (dOp_mono mg ha.mono hb.mono), PT.weak (pt_cmpR ho ha.run hb.run hm) fun _ _ _ h => op_two mg hb.mono ha.mono (fun _ _ _ _ z => z) (tst (dOp_mono mg ha.mono hb.mono) h)⟩
/-! ### a < b < c -/
def dChain (g g' : Op2) (ta tb tc : DTE) : DTE := fun en st k e => ta en st (fun x en1 st1 => tb en1 st1 (fun y en2 st2 => g x.d y.d fun t => match t with
  | .v (.bl true) => tc en2 st2 (fun z en3 st3 => g' y.d z.d fun t' => k t' en3 st3) e
  | .v (.bl false) => k (.v (.bl false)) en2 st2
  | _ => False) e) e
theorem dChain_mono {g g' : Op2} (mg : Mono2 g) (mg' : Mono2 g') (ma : MonoE ta) (mb : MonoE tb) (mc : MonoE tc) : MonoE (dChain g g' ta tb tc) := fun en st k k' e e' hk he h =>
  ma _ _ _ _ _ _ (fun x en1 st1 h1 => mb _ _ _ _ _ _ (fun y en2 st2 h2 => mg _ _ _ _ (fun t ht => by
    split at ht
    · exact mc _ _ _ _ _ _ (fun z en3 st3 h3 => mg' _ _ _ _ (fun t' h' => hk _ _ _ h') h3) he ht
    · exact hk _ _ _ ht
    · exact ht.elim) h2) he h1) he h
theorem chain_three {r r' : R2} {g g' : Op2} {Q : VK} {σ : Sl} {H : Hp} (mg : Mono2 g) (mg' : Mono2 g') (ma : MonoE ta) (mb : MonoE tb) (mc : MonoE tc) (hg : ∀ v u H Q, rG B g v u H Q → r v u H Q) (hg' : ∀ v u H Q, rG B g' v u H Q → r' v u H Q)
    (h : tM B W (dChain g g' ta tb tc) σ H Q) : tChain r r' (tM B W ta) (tM B W tb) (tM B W tc) σ H Q := by
  obtain ⟨F, rr, en, st, R, q⟩ := h
  refine at_bind (k := fun d _ en1 st1 => tb en1 st1 (fun y en2 st2 => g d y.d fun t => match t with
    | .v (.bl true) => tc en2 st2 (fun z en3 st3 => g' y.d z.d fun t' => Kpost B σ Q F rr en H t' en3 st3) (Epost B σ W F rr en H)
    | .v (.bl false) => Kpost B σ Q F rr en H (.v (.bl false)) en2 st2
    | _ => False) (Epost B σ W F rr en H)) ma R q fun d en1 st1 F1 r1 H1 v S1 R1 rep1 h1 => ?_
  refine at_bind (k := fun d' _ en2 st2 => g d d' fun t => match t with
    | .v (.bl true) => tc en2 st2 (fun z en3 st3 => g' d' z.d fun t' => Kpost B σ Q F rr en H t' en3 st3) (Epost B σ W F rr en H)
    | .v (.bl false) => Kpost B σ Q F rr en H (.v (.bl false)) en2 st2
    | _ => False) mb R1 (mb _ _ _ _ _ _ (fun _ _ _ z => z) (fun _ _ _ z => z.shift S1) h1) fun d' en2 st2 F2 r2 H2 u S2 R2 rep2 h2 => ?_
  refine hg _ _ _ _ ⟨σ, F2, r2, en2, st2, d, d', R2, rep1.step S2, rep2, mg _ _ _ _ (fun t ht => ?_) h2⟩
  intro F3 r3 H3 z S3 R3 t3
  have S := (S1.trans S2).trans S3
  split at ht
  · have ez : z = .bl true := t3
    refine ⟨true, ez, ?_⟩
    rw [if_pos rfl]
    refine at_bind (k := fun d3 _ en3 st3 => g' d' d3 fun t' => Kpost B σ Q F rr en H t' en3 st3) mc R3 (mc _ _ _ _ _ _ (fun _ _ _ z => z) (fun _ _ _ z => z.shift S) ht) fun d3 en4 st4 F4 r4 H4 u' S4 R4 rep4 h4 => ?_
    exact hg' _ _ _ _ ⟨σ, F4, r4, en4, st4, d', d3, R4, (rep2.step S3).step S4, rep4, mg' _ _ _ _ (fun t' h' => h'.shift (S.trans S4)) h4⟩
  · have ez : z = .bl false := t3
    refine ⟨false, ez, ?_⟩
    rw [if_neg Bool.false_ne_true]
    exact kp_val (ht.shift S) R3 rfl
  · exact ht.elim
theorem de_chain {op op' : CmpOp} {g g' : Op2} (ho : OpR X (compareOp op) (rG B g)) (ho' : OpR X (compareOp op') (rG B g')) (mg : Mono2 g) (mg' : Mono2 g') (ha : DE B W X a ta) (hb : DE B W X b tb) (hc : DE B W X c tc) (hm : behindInMarks op' c = false) :
    DE B W X (.Compare a [op, op'] [b, c] pos) (dChain g g' ta tb tc) := by
  refine ⟨dChain_mono mg mg' ha.mono hb.mono hc.mono, PE.weak (pe_chain ho ho' ha.run hb.run hc.run ?_) fun _ _ _ h => chain_three mg mg' ha.mono hb.mono hc.mono (fun _ _ _ _ z => z) (fun _ _ _ _ z => z) h⟩
  all_goals exact hm
theorem dt_chain {op op' : CmpOp} {g g' : Op2} (ho : OpR X (compareOp op) (rG B g)) (ho' : OpR X (compareOp op') (rG B g')) (mg : Mono2 g) (mg' : Mono2 g') (ha : DE B W X a ta) (hb : DE B W X b tb) (hc : DE B W X c tc) (hm : behindInMarks op' c = false) :
    DT B W X (.Compare a [op, op'] [b, c] pos) (dTst (dChain g g' ta tb tc)) := by
  refine ⟨dTst_mono (dChain_mono mg mg' ha.mono hb.mono hc.mono), PT.weak (pt_chain ho ho' ha.run hb.run hc.run ?_) fun _ _ _ h => chain_three mg mg' ha.mono hb.mono hc.mono (fun _ _ _ _ z => z) (fun _ _ _ _ z => z) (tst (dChain_mono mg mg' ha.mono hb.mono hc.mono) h)⟩
  all_goals exact hm
/-! ### one value -/
def dNeg (ta : DTE) : DTE := fun en st k e => ta en st (fun x en1 st1 => ∃ i, x.d = .int i ∧ k (.v (.int (-i))) en1 st1) e
theorem dNeg_mono (m : MonoE ta) : MonoE (dNeg ta) := fun en st k k' e e' hk he h => m _ _ _ _ _ _ (fun x n s ⟨i, e1, e2⟩ => ⟨i, e1, hk _ _ _ e2⟩) he h
theorem de_neg (ha : DE B W X a ta) : DE B W X (.UnaryOp .USub a pos) (dNeg ta) := by
  refine ⟨dNeg_mono ha.mono, PE.weak (pe_un un_neg ha.run) fun σ H Q ⟨F, r, en, st, R, q⟩ => ?_⟩
  refine at_bind (k := fun d _ en1 st1 => ∃ i, d = .int i ∧ Kpost B σ Q F r en H (.v (.int (-i))) en1 st1) ha.mono R q fun d en1 st1 F1 r1 H1 v S1 R1 rep1 h1 => ?_
  obtain ⟨i, rfl, h2⟩ := h1
  exact ⟨i, rep1, kp_val (h2.shift S1) R1 rfl⟩
/-! ### and, or, not, a if t else b -/
def dNotT (t : DTT) : DTT := fun en st k e => t en st (fun b en1 st1 => k (!b) en1 st1) e
theorem dNotT_mono (m : MonoT tt) : MonoT (dNotT tt) := fun en st k k' e e' hk he h => m _ _ _ _ _ _ (fun x n s q => hk _ _ _ q) he h
theorem dt_not (h : DT B W X a tt) : DT B W X (.UnaryOp .Not a pos) (dNotT tt) := by
  refine ⟨dNotT_mono h.mono, PT.weak (pt_not h.run) fun σ H Q ⟨F, r, en, st, R, q⟩ => ?_⟩
  exact ⟨F, r, en, st, R, q⟩
def dNotV (te : DTE) : DTE := fun en st k e => te en st (fun x en1 st1 => ∃ b, x.d = .bl b ∧ k (.v (.bl (!b))) en1 st1) e
theorem dNotV_mono (m : MonoE te) : MonoE (dNotV te) := fun en st k k' e e' hk he h => m _ _ _ _ _ _ (fun x n s ⟨b, e1, e2⟩ => ⟨b, e1, hk _ _ _ e2⟩) he h
theorem de_not (ha : DE B W X a ta) : DE B W X (.UnaryOp .Not a pos) (dNotV ta) := by
  refine ⟨dNotV_mono ha.mono, PE.weak (pe_not ha.run) fun σ H Q ⟨F, r, en, st, R, q⟩ => ?_⟩
  refine at_bind (k := fun d _ en1 st1 => ∃ b, d = .bl b ∧ Kpost B σ Q F r en H (.v (.bl (!b))) en1 st1) ha.mono R q fun d en1 st1 F1 r1 H1 v S1 R1 rep1 h1 => ?_
  obtain ⟨i, rfl, h2⟩ := h1
  exact ⟨i, rep1, kp_val (h2.shift S1) R1 rfl⟩
def dAndT (t u : DTT) : DTT := fun en st k e => t en st (fun b en1 st1 => if b = true then u en1 st1 k e else k false en1 st1) e
def dOrT (t u : DTT) : DTT := fun en st k e => t en st (fun b en1 st1 => if b = true then k true en1 st1 else u en1 st1 k e) e
theorem dAndT_mono (m : MonoT tt) (m' : MonoT tu) : MonoT (dAndT tt tu) := fun en st k k' e e' hk he h => m _ _ _ _ _ _ (fun b n s q => by
  cases b
  · exact hk _ _ _ q
  · exact m' _ _ _ _ _ _ hk he q) he h
theorem dOrT_mono (m : MonoT tt) (m' : MonoT tu) : MonoT (dOrT tt tu) := fun en st k k' e e' hk he h => m _ _ _ _ _ _ (fun b n s q => by
  cases b
  · exact m' _ _ _ _ _ _ hk he q
  · exact hk _ _ _ q) he h
structure DW (B : Bg) (W : WX) (X : Cx) (e : Expr) (t : DTT) : Prop where
  mono : MonoT t
  run : PW X e (tMT B W t)
theorem DW.dt (h : DW B W X e tt) : DT B W X e tt := ⟨h.mono, h.run.pt⟩
theorem dw_and1 (h : DT B W X a tt) : DW B W X (.BoolOp .And [a] pos) tt := ⟨h.mono, pw_and1 h.run⟩
theorem dw_or1 (h : DT B W X a tt) : DW B W X (.BoolOp .Or [a] pos) tt := ⟨h.mono, pw_or1 h.run⟩
theorem dw_and {rest : List Expr} (h : DT B W X a tt) (h' : DW B W X (.BoolOp .And (b :: rest) pos) tu) : DW B W X (.BoolOp .And (a :: b :: rest) pos) (dAndT tt tu) := by
  refine ⟨dAndT_mono h.mono h'.mono, PW.weak (pw_and h.run h'.run) fun σ H Q ⟨F, r, en, st, R, q⟩ => ?_⟩
  refine at_bindT h.mono R q fun b en1 st1 F1 r1 H1 S1 R1 h1 => ?_
  cases b with
  | true =>
    rw [if_pos rfl] at h1 ⊢
    exact ⟨F1, r1, en1, st1, R1, h'.mono _ _ _ _ _ _ (fun _ _ _ z => z.shift S1) (fun _ _ _ z => z.shift S1) h1⟩
  | false =>
    rw [if_neg Bool.false_ne_true] at h1 ⊢
    exact h1 F1 r1 H1 S1 R1
theorem dw_or {rest : List Expr} (h : DT B W X a tt) (h' : DW B W X (.BoolOp .Or (b :: rest) pos) tu) : DW B W X (.BoolOp .Or (a :: b :: rest) pos) (dOrT tt tu) := by
  refine ⟨dOrT_mono h.mono h'.mono, PW.weak (pw_or h.run h'.run) fun σ H Q ⟨F, r, en, st, R, q⟩ => ?_⟩
  refine at_bindT h.mono R q fun b en1 st1 F1 r1 H1 S1 R1 h1 => ?_
  cases b with
  | true =>
    rw [if_pos rfl] at h1 ⊢
    exact h1 F1 r1 H1 S1 R1
  | false =>
    rw [if_neg Bool.false_ne_true] at h1 ⊢
    exact ⟨F1, r1, en1, st1, R1, h'.mono _ _ _ _ _ _ (fun _ _ _ z => z.shift S1) (fun _ _ _ z => z.shift S1) h1⟩
/-- .. as values: all but the last True or False -/
def dAndV (ta tb : DTE) : DTE := fun en st k e => ta en st (fun x en1 st1 => match x.d with
  | .bl true => tb en1 st1 k e
  | .bl false => k (.v (.bl false)) en1 st1
  | _ => False) e
def dOrV (ta tb : DTE) : DTE := fun en st k e => ta en st (fun x en1 st1 => match x.d with
  | .bl true => k (.v (.bl true)) en1 st1
  | .bl false => tb en1 st1 k e
  | _ => False) e
theorem dAndV_mono (m : MonoE ta) (m' : MonoE tb) : MonoE (dAndV ta tb) := fun en st k k' e e' hk he h => m _ _ _ _ _ _ (fun x n s q => by
  split at q
  · exact m' _ _ _ _ _ _ hk he q
  · exact hk _ _ _ q
  · exact q.elim) he h
theorem dOrV_mono (m : MonoE ta) (m' : MonoE tb) : MonoE (dOrV ta tb) := fun en st k k' e e' hk he h => m _ _ _ _ _ _ (fun x n s q => by
  split at q
  · exact hk _ _ _ q
  · exact m' _ _ _ _ _ _ hk he q
  · exact q.elim) he h
theorem de_one {op : BoolOp} (h : DE B W X a ta) : DE B W X (.BoolOp op [a] pos) ta := ⟨h.mono, pe_one h.run⟩
theorem de_and {rest : List Expr} (h : DE B W X a ta) (h' : DE B W X (.BoolOp .And (b :: rest) pos) tb) : DE B W X (.BoolOp .And (a :: b :: rest) pos) (dAndV ta tb) := by
  refine ⟨dAndV_mono h.mono h'.mono, PE.weak (pe_and h.run h'.run) fun σ H Q ⟨F, r, en, st, R, q⟩ => ?_⟩
  refine at_bind (k := fun d _ en1 st1 => match d with
    | .bl true => tb en1 st1 (Kpost B σ Q F r en H) (Epost B σ W F r en H)
    | .bl false => Kpost B σ Q F r en H (.v (.bl false)) en1 st1
    | _ => False) h.mono R q fun d en1 st1 F1 r1 H1 v S1 R1 rep1 h1 => ?_
  split at h1
  · refine ⟨true, rep1, ?_⟩
    rw [if_pos rfl]
    exact ⟨F1, r1, en1, st1, R1, h'.mono _ _ _ _ _ _ (fun _ _ _ z => z.shift S1) (fun _ _ _ z => z.shift S1) h1⟩
  · refine ⟨false, rep1, ?_⟩
    rw [if_neg Bool.false_ne_true]
    exact kp_val (h1.shift S1) R1 rfl
  · exact h1.elim
theorem de_or {rest : List Expr} (h : DE B W X a ta) (h' : DE B W X (.BoolOp .Or (b :: rest) pos) tb) : DE B W X (.BoolOp .Or (a :: b :: rest) pos) (dOrV ta tb) := by
  refine ⟨dOrV_mono h.mono h'.mono, PE.weak (pe_or h.run h'.run) fun σ H Q ⟨F, r, en, st, R, q⟩ => ?_⟩
  refine at_bind (k := fun d _ en1 st1 => match d with
    | .bl true => Kpost B σ Q F r en H (.v (.bl true)) en1 st1
    | .bl false => tb en1 st1 (Kpost B σ Q F r en H) (Epost B σ W F r en H)
    | _ => False) h.mono R q fun d en1 st1 F1 r1 H1 v S1 R1 rep1 h1 => ?_
  split at h1
  · refine ⟨true, rep1, ?_⟩
    rw [if_pos rfl]
    exact kp_val (h1.shift S1) R1 rfl
  · refine ⟨false, rep1, ?_⟩
    rw [if_neg Bool.false_ne_true]
    exact ⟨F1, r1, en1, st1, R1, h'.mono _ _ _ _ _ _ (fun _ _ _ z => z.shift S1) (fun _ _ _ z => z.shift S1) h1⟩
  · exact h1.elim
def dIf (t : DTT) (ta tb : DTE) : DTE := fun en st k e => t en st (fun b en1 st1 => if b = true then ta en1 st1 k e else tb en1 st1 k e) e
theorem dIf_mono (m : MonoT tt) (ma : MonoE ta) (mb : MonoE tb) : MonoE (dIf tt ta tb) := fun en st k k' e e' hk he h => m _ _ _ _ _ _ (fun b n s q => by
  cases b
  · exact mb _ _ _ _ _ _ hk he q
  · exact ma _ _ _ _ _ _ hk he q) he h
theorem de_if (ht : DT B W X c tt) (ha : DE B W X a ta) (hb : DE B W X b tb) : DE B W X (.IfExp c a b pos) (dIf tt ta tb) := by
  refine ⟨dIf_mono ht.mono ha.mono hb.mono, PE.weak (pe_ifExp ht.run ha.run hb.run) fun σ H Q ⟨F, r, en, st, R, q⟩ => ?_⟩
  refine at_bindT ht.mono R q fun b en1 st1 F1 r1 H1 S1 R1 h1 => ?_
  cases b with
  | true =>
    rw [if_pos rfl] at h1 ⊢
    exact ⟨F1, r1, en1, st1, R1, ha.mono _ _ _ _ _ _ (fun _ _ _ z => z.shift S1) (fun _ _ _ z => z.shift S1) h1⟩
  | false =>
    rw [if_neg Bool.false_ne_true] at h1 ⊢
    exact ⟨F1, r1, en1, st1, R1, hb.mono _ _ _ _ _ _ (fun _ _ _ z => z.shift S1) (fun _ _ _ z => z.shift S1) h1⟩
/-! ### lists of expressions, displays -/
def dNil : DTA := fun en st k _ => k [] en st
def dCons (te : DTE) (ta : DTA) : DTA := fun en st k e => te en st (fun x en1 st1 => ta en1 st1 (fun ds en2 st2 => k (x.d :: ds) en2 st2) e) e
theorem dNil_mono : MonoA dNil := fun _ _ _ _ _ _ hk _ h => hk _ _ _ h
theorem dCons_mono (m : MonoE te) (ma : MonoA tA) : MonoA (dCons te tA) := fun en st k k' e e' hk he h => m _ _ _ _ _ _ (fun x n s q => ma _ _ _ _ _ _ (fun _ _ _ z => hk _ _ _ z) he q) he h
theorem da_nil : DA B W X [] dNil := ⟨dNil_mono, PA.weak pa_nil fun σ H Q ⟨F, r, en, st, R, q⟩ => q F r H [] Step.refl R rfl⟩
theorem da_cons (h : DE B W X e te) (h' : DA B W X es tA) (hs : ∀ x p, e ≠ .Starred x p) : DA B W X (e :: es) (dCons te tA) := by
  refine ⟨dCons_mono h.mono h'.mono, PA.weak (pa_cons h.run h'.run (notStar_each hs)) fun σ H Q ⟨F, r, en, st, R, q⟩ => ?_⟩
  refine at_bind (k := fun d _ en1 st1 => tA en1 st1 (fun ds en2 st2 => Apost B σ Q F r en H (d :: ds) en2 st2) (Epost B σ W F r en H)) h.mono R q fun d en1 st1 F1 r1 H1 v S1 R1 rep1 h1 => ?_
  refine at_bindA (k := fun ds en2 st2 => Apost B σ Q F r en H (d :: ds) en2 st2) h'.mono R1 (h'.mono _ _ _ _ _ _ (fun _ _ _ z => z) (fun _ _ _ z => z.shift S1) h1) fun ds en2 st2 F2 r2 H2 vs S2 R2 rep2 h2 => ?_
  exact h2 F2 r2 H2 (v :: vs) (S1.trans S2) R2 ⟨v, vs, rfl, rep1.step S2, rep2⟩
def dTup (ta : DTA) : DTE := fun en st k e => ta en st (fun ds en1 st1 => ds.length ≤ sizeLine ∧ k (.v (.tup ds)) en1 st1) e
def dLst (ta : DTA) : DTE := fun en st k e => ta en st (fun ds en1 st1 => ds.length ≤ sizeLine ∧ k (.o (.lst ds)) en1 st1) e
theorem dTup_mono (m : MonoA tA) : MonoE (dTup tA) := fun en st k k' e e' hk he h => m _ _ _ _ _ _ (fun x n s ⟨q1, q2⟩ => ⟨q1, hk _ _ _ q2⟩) he h
theorem dLst_mono (m : MonoA tA) : MonoE (dLst tA) := fun en st k k' e e' hk he h => m _ _ _ _ _ _ (fun x n s ⟨q1, q2⟩ => ⟨q1, hk _ _ _ q2⟩) he h
theorem de_tup {j : Nat} (h : DA B W X es tA) : DE B W X (.Tuple es j pos) (dTup tA) := by
  refine ⟨dTup_mono h.mono, PE.weak (pe_tup h.run) fun σ H Q ⟨F, r, en, st, R, q⟩ => ?_⟩
  refine at_bindA h.mono R q fun ds en1 st1 F1 r1 H1 vs S1 R1 rep1 ⟨h1, h2⟩ => ⟨by rw [rep1.len]; exact h1, fun p hp => kp_tup (h2.shift S1) R1 hp rep1⟩
theorem de_lst (h : DA B W X es tA) : DE B W X (.List es pos) (dLst tA) := by
  refine ⟨dLst_mono h.mono, PE.weak (pe_lst h.run) fun σ H Q ⟨F, r, en, st, R, q⟩ => ?_⟩
  refine at_bindA h.mono R q fun ds en1 st1 F1 r1 H1 vs S1 R1 rep1 ⟨h1, h2⟩ => ⟨by rw [rep1.len]; exact h1, fun p hp => kp_new (h2.shift S1) R1 hp ⟨vs, rfl, rep1⟩⟩
/-! ### calls of built-ins, by values -/
abbrev OpN := List D → (T → Prop) → Prop
def MonoN (g : OpN) : Prop := ∀ x (k k' : T → Prop), (∀ t, k t → k' t) → g x k → g x k'
def rGN (B : Bg) (g : OpN) : List V → Hp → VK → Prop := fun vs H Q => ∃ σ F r en st ds, Rel B F r en st σ H ∧ Reps B F r ds vs ∧ g ds fun t => Kpost B σ Q F r en H t en st
def dCB (g : OpN) (ta : DTA) : DTE := fun en st k e => ta en st (fun ds en1 st1 => g ds fun t => k t en1 st1) e
theorem dCB_mono {g : OpN} (mg : MonoN g) (m : MonoA tA) : MonoE (dCB g tA) := fun en st k k' e e' hk he h => m _ _ _ _ _ _ (fun x n s q => mg _ _ _ (fun _ z => hk _ _ _ z) q) he h
theorem cb_one {g : OpN} {Q : VK} {σ : Sl} {H : Hp} (mg : MonoN g) (m : MonoA tA) (h : tM B W (dCB g tA) σ H Q) : tCB (rGN B g) (tMA B W tA) σ H Q := by
  obtain ⟨F, r, en, st, R, q⟩ := h
  exact at_bindA m R q fun ds en1 st1 F1 r1 H1 vs S1 R1 rep1 h1 => ⟨σ, F1, r1, en1, st1, ds, R1, rep1, mg _ _ _ (fun _ z => z.shift S1) h1⟩
theorem de_callB {x : Str} {id : String} {p : Pos} {g : OpN} (hc : CallR X (.builtin id) (rGN B g)) (mg : MonoN g) (hg : Gl X x) (hm : X.mg x = none) (hv : bootBuiltins x = some (.builtin id)) (ha : DA B W X (e :: es) tA) (hn : x ≠ "__name__") (hdb : (x == ("__debug__" : Str)) = false)
    (hs : ∀ x p, e ≠ .Starred x p) (hpl : (backTo pos (starEach es X.env)).any (·.1) = false) : DE B W X (.Call (.Name x p) (e :: es) [] pos) (dCB g tA) :=
  ⟨dCB_mono mg ha.mono, PE.weak (pe_callB hc hg hm hv ha.run hn hdb (notStar_each hs) hpl) fun _ _ _ h => cb_one mg ha.mono h⟩
theorem de_callTy {x : Str} {ty : String} {p : Pos} {g : OpN} (hc : CallR X (.type ty) (rGN B g)) (mg : MonoN g) (hg : Gl X x) (hm : X.mg x = none) (hv : bootBuiltins x = some (.type ty)) (ha : DA B W X (e :: es) tA) (hn : x ≠ "__name__") (hdb : (x == ("__debug__" : Str)) = false)
    (hs : ∀ x p, e ≠ .Starred x p) (hpl : (backTo pos (starEach es X.env)).any (·.1) = false) : DE B W X (.Call (.Name x p) (e :: es) [] pos) (dCB g tA) :=
  ⟨dCB_mono mg ha.mono, PE.weak (pe_callTy hc hg hm hv ha.run hn hdb (notStar_each hs) hpl) fun _ _ _ h => cb_one mg ha.mono h⟩
end
end Ev
set_option Elab.async false
set_option linter.all false
set_option autoImplicit false
set_option maxRecDepth 100000
/-! Ev, part E: subscripts, slices, built-ins. -/
namespace Ev
open PySem PySem.Spec PyProof.Rows L2
/-! ### o[i] -/
def oIx (st : List D) : Op2
  | .lst xs, .int i, k => ∃ d, atI xs i = some d ∧ k (.v d)
  | .tup xs, .int i, k => ∃ d, atI xs i = some d ∧ k (.v d)
  | .str z, .int i, k => z.length ≤ sizeLine ∧ ∃ c, atI z.cps.toList i = some c ∧ k (.v (.str ⟨#[c]⟩))
  | .scr ns, .int i, k => ∃ z, atI ns i = some z ∧ k (.v (.int z))
  | .box n, .int i, k => ∃ xs d, st[n]? = some (.lst xs) ∧ atI xs i = some d ∧ k (.v d)
  | _, _, _ => False
theorem mono_oIx (st : List D) : Mono2 (oIx st) := fun x y k k' hk h => by
  cases x <;> cases y <;> simp only [oIx] at h ⊢ <;> first
    | exact h
    | (obtain ⟨d, e, h⟩ := h; exact ⟨d, e, hk _ h⟩)
    | (obtain ⟨z, d, e, h⟩ := h; exact ⟨z, d, e, hk _ h⟩)
    | (obtain ⟨xs, d, z, e, h⟩ := h; exact ⟨xs, d, z, e, hk _ h⟩)
theorem atI_rep {B : Bg} {F : Hp} {r : List Addr} {ds : List D} {vs : List V} {i : Int} {d : D} (h : Reps B F r ds vs) (e : atI ds i = some d) : ∃ v, atI vs i = some v ∧ Rep B F r d v := by
  unfold atI at e ⊢
  rw [h.len]
  cases q : ixN ds.length i with
  | none => rw [q] at e; cases e
  | some j =>
    rw [q] at e
    obtain ⟨v, e1, e2⟩ := h.get (show ds[j]? = some d from e)
    exact ⟨v, e1, e2⟩
theorem atI_map {α β : Type} (f : α → β) (xs : List α) (i : Int) : atI (xs.map f) i = (atI xs i).map f := by
  unfold atI
  rw [List.length_map]
  cases ixN xs.length i with
  | none => rfl
  | some j =>
    show (xs.map f)[j]? = (xs[j]?).map f
    rw [List.getElem?_map]
section
variable {B : Bg} {W : WX} {X : Cx} {e a b c : Expr} {es : List Expr} {pos : Pos} {te ta tb tc : DTE} {tA : DTA} {tt tu : DTT}
def dIx (ta tb : DTE) : DTE := fun en st k e => ta en st (fun x en1 st1 => tb en1 st1 (fun y en2 st2 => oIx st2 x.d y.d fun t => k t en2 st2) e) e
theorem dIx_mono (ma : MonoE ta) (mb : MonoE tb) : MonoE (dIx ta tb) := fun en st k k' e e' hk he h =>
  ma _ _ _ _ _ _ (fun x en1 st1 h1 => mb _ _ _ _ _ _ (fun y en2 st2 h2 => mono_oIx _ _ _ _ _ (fun t ht => hk _ _ _ ht) h2) he h1) he h
def rGIx (B : Bg) : R2 := fun v u H Q => ∃ σ F r en st x y, Rel B F r en st σ H ∧ Rep B F r x v ∧ Rep B F r y u ∧ oIx st x y fun t => Kpost B σ Q F r en H t en st
theorem ix_all (hK : X.K = B.K) : IxR X (rGIx B) := by
  intro value slice pins s σ' H v u c d Q I rv ru ⟨σ, F, r, en, st, x, y, R, p, q, h⟩ hs
  cases x <;> cases y <;> simp only [oIx] at h
  · cases p; cases q
    obtain ⟨h1, z, h2, h3⟩ := h
    exact ix_str value slice pins s σ' H _ _ _ _ Q I rv ru ⟨_, _, z, rfl, rfl, h1, h2, kp_val h3 R rfl⟩ hs
  · cases q
    obtain ⟨l, vs, rfl, e1, w1⟩ := p
    obtain ⟨z, h2, h3⟩ := h
    obtain ⟨v, g1, g2⟩ := atI_rep w1 h2
    exact ix_tup value slice pins s σ' H _ _ _ _ Q I rv ru ⟨l, vs, _, v, rfl, rfl, by rw [hK]; exact R.w.sub.sqT e1, g1, kp_val h3 R g2⟩ hs
  · cases q
    obtain ⟨l, vs, rfl, e1, w1⟩ := p
    obtain ⟨z, h2, h3⟩ := h
    obtain ⟨v, g1, g2⟩ := atI_rep w1 h2
    exact ix_list value slice pins s σ' H _ _ _ _ Q I rv ru ⟨l, vs, _, v, rfl, rfl, SqL.of (R.w.sub _ _ e1), g1, kp_val h3 R g2⟩ hs
  · rename_i n j
    cases q
    obtain ⟨l, e1, rfl⟩ := p
    obtain ⟨xs, z, h2, h3, h4⟩ := h
    obtain ⟨_, o, e2, vs, rfl, w1⟩ := R.w.box n l _ e1 h2
    obtain ⟨v, g1, g2⟩ := atI_rep w1 h3
    exact ix_list value slice pins s σ' H _ _ _ _ Q I rv ru ⟨l, vs, _, v, rfl, rfl, SqL.of e2, g1, kp_val h4 R g2⟩ hs
  · cases q
    obtain ⟨l, rfl, e1⟩ := p
    obtain ⟨z, h2, h3⟩ := h
    exact ix_list value slice pins s σ' H _ _ _ _ Q I rv ru ⟨l, _, _, .int z, rfl, rfl, by rw [hK]; exact R.w.sub.sqL e1, by rw [atI_map, h2]; rfl, kp_val h3 R rfl⟩ hs
theorem de_ix (hK : X.K = B.K) (ha : DE B W X a ta) (hb : DE B W X b tb) (hs : PlainIx b) : DE B W X (.Subscript a b pos) (dIx ta tb) := by
  refine ⟨dIx_mono ha.mono hb.mono, PE.weak (pe_ix (ix_all hK) ha.run hb.run hs) fun σ H Q ⟨F, rr, en, st, R, q⟩ => ?_⟩
  refine at_bind (k := fun d _ en1 st1 => tb en1 st1 (fun y en2 st2 => oIx st2 d y.d fun t => Kpost B σ Q F rr en H t en2 st2) (Epost B σ W F rr en H)) ha.mono R q fun d en1 st1 F1 r1 H1 v S1 R1 rep1 h1 => ?_
  refine at_bind (k := fun d' _ en2 st2 => oIx st2 d d' fun t => Kpost B σ Q F rr en H t en2 st2) hb.mono R1 (hb.mono _ _ _ _ _ _ (fun _ _ _ z => z) (fun _ _ _ z => z.shift S1) h1) fun d' en2 st2 F2 r2 H2 u S2 R2 rep2 h2 => ?_
  exact ⟨σ, F2, r2, en2, st2, d, d', R2, rep1.step S2, rep2, mono_oIx _ _ _ _ _ (fun t ht => ht.shift (S1.trans S2)) h2⟩
/-! ### o[lo:hi] -/
def cut {α : Type} (xs : List α) (lo hi : Option Int) : List α := (xs.drop (HT.sIx xs.length 0 lo)).take (HT.sIx xs.length xs.length hi - HT.sIx xs.length 0 lo)
def oSl : D → Option Int → Option Int → (T → Prop) → Prop
  | .lst xs, lo, hi, k => k (.o (.lst (cut xs lo hi)))
  | .tup xs, lo, hi, k => k (.v (.tup (cut xs lo hi)))
  | .str z, lo, hi, k => z.length ≤ sizeLine ∧ k (.v (.str (cutS z lo hi)))
  | .scr ns, lo, hi, k => k (.o (.lst ((cut ns lo hi).map D.int)))
  | _, _, _, _ => False
theorem mono_oSl {d : D} {lo hi : Option Int} {k k' : T → Prop} (hk : ∀ t, k t → k' t) (h : oSl d lo hi k) : oSl d lo hi k' := by
  cases d <;> simp only [oSl] at h ⊢ <;> first | exact h | exact hk _ h | exact ⟨h.1, hk _ h.2⟩
abbrev KO := Option Int → En → List D → Prop
abbrev DTO := En → List D → KO → KX → Prop
def MonoO (t : DTO) : Prop := ∀ (en : En) (st : List D) (k k' : KO) (e e' : KX), (∀ x n s, k x n s → k' x n s) → (∀ x n s, e x n s → e' x n s) → t en st k e → t en st k' e'
def dNoPart : DTO := fun en st k _ => k none en st
def dPart (te : DTE) : DTO := fun en st k e => te en st (fun x en1 st1 => ∃ i, x.d = .int i ∧ k (some i) en1 st1) e
def tMO (B : Bg) (W : WX) (t : DTO) : TO := fun σ H Q => ∃ F r en st, Rel B F r en st σ H ∧ t en st (fun o en' st' => ∀ F' r' H', Step σ en F r H σ en' F' r' H' → Rel B F' r' en' st' σ H' → Q o H') (Epost B σ W F r en H)
structure DO (B : Bg) (W : WX) (X : Cx) (e : Option Expr) (t : DTO) : Prop where
  mono : MonoO t
  run : PO X e (tMO B W t)
theorem PO.weak {e : Option Expr} {t t' : TO} (h : PO X e t) (w : ∀ σ H Q, t' σ H Q → t σ H Q) : PO X e t' := ⟨fun pins s σ H Q I q => h.run pins s σ H Q I (w σ H Q q)⟩
theorem do_none : DO B W X none dNoPart := ⟨fun _ _ _ _ _ _ hk _ h => hk _ _ _ h, PO.weak po_none fun σ H Q ⟨F, r, en, st, R, q⟩ => q F r H Step.refl R⟩
theorem do_some (h : DE B W X e te) : DO B W X (some e) (dPart te) := by
  refine ⟨fun en st k k' e e' hk he q => h.mono _ _ _ _ _ _ (fun x n s ⟨i, e1, e2⟩ => ⟨i, e1, hk _ _ _ e2⟩) he q, PO.weak (po_some h.run) fun σ H Q ⟨F, r, en, st, R, q⟩ => ?_⟩
  refine at_bind (k := fun d _ en1 st1 => ∃ i, d = .int i ∧ ∀ F' r' H', Step σ en F r H σ en1 F' r' H' → Rel B F' r' en1 st1 σ H' → Q (some i) H') h.mono R q fun d en1 st1 F1 r1 H1 v S1 R1 rep1 h1 => ?_
  obtain ⟨i, rfl, h2⟩ := h1
  exact ⟨i, rep1, h2 F1 r1 H1 S1 R1⟩
def dSl (te : DTE) (tl th : DTO) : DTE := fun en st k e => te en st (fun x en1 st1 => tl en1 st1 (fun lo en2 st2 => th en2 st2 (fun hi en3 st3 => oSl x.d lo hi fun t => k t en3 st3) e) e) e
theorem dSl_mono {tl th : DTO} (m : MonoE te) (ml : MonoO tl) (mh : MonoO th) : MonoE (dSl te tl th) := fun en st k k' e e' hk he h =>
  m _ _ _ _ _ _ (fun x en1 st1 h1 => ml _ _ _ _ _ _ (fun lo en2 st2 h2 => mh _ _ _ _ _ _ (fun hi en3 st3 h3 => mono_oSl (fun t ht => hk _ _ _ ht) h3) he h2) he h1) he h
def rGSl (B : Bg) : V → Option Int → Option Int → Hp → VK → Prop := fun v lo hi H Q => ∃ σ F r en st x, Rel B F r en st σ H ∧ Rep B F r x v ∧ oSl x lo hi fun t => Kpost B σ Q F r en H t en st
theorem cut_rep {F : Hp} {r : List Addr} {ds : List D} {vs : List V} (lo hi : Option Int) (h : Reps B F r ds vs) : Reps B F r (cut ds lo hi) (cutV vs lo hi) := by
  unfold cut cutV
  rw [h.len]
  exact (h.drop _).take _
theorem cut_all {α : Type} {xs : List α} {lo hi : Option Int} (h1 : HT.sIx xs.length 0 lo = 0) (h2 : HT.sIx xs.length xs.length hi = xs.length) : cut xs lo hi = xs := by
  unfold cut
  rw [h1, h2]
  simp
theorem cut_map {α β : Type} (f : α → β) (xs : List α) (lo hi : Option Int) : cut (xs.map f) lo hi = (cut xs lo hi).map f := by
  unfold cut
  rw [List.length_map, List.map_take, List.map_drop]
theorem reps_ints {F : Hp} {r : List Addr} : ∀ (ns : List Int), Reps B F r (ns.map D.int) (ns.map V.int)
  | [] => rfl
  | n :: ns => ⟨_, _, rfl, rfl, reps_ints ns⟩
theorem reps_ints_inv {F : Hp} {r : List Addr} : ∀ {ns : List Int} {vs : List V}, Reps B F r (ns.map D.int) vs → vs = ns.map V.int
  | [], vs, h => h
  | n :: ns, vs, ⟨v, t, e, q, h⟩ => by
    have q' : v = .int n := q
    rw [e, q', reps_ints_inv h]
    rfl
theorem reps_bls_inv {F : Hp} {r : List Addr} : ∀ {ns : List Bool} {vs : List V}, Reps B F r (ns.map D.bl) vs → vs = ns.map V.bl
  | [], vs, h => h
  | n :: ns, vs, ⟨v, t, e, q, h⟩ => by
    have q' : v = .bl n := q
    rw [e, q', reps_bls_inv h]
    rfl
theorem reps_strs_inv {F : Hp} {r : List Addr} : ∀ {ns : List Str} {vs : List V}, Reps B F r (ns.map D.str) vs → vs = ns.map V.str
  | [], vs, h => h
  | n :: ns, vs, ⟨v, t, e, q, h⟩ => by
    have q' : v = .str n := q
    rw [e, q', reps_strs_inv h]
    rfl
theorem sl_all (hK : X.K = B.K) : SlR X (rGSl B) := by
  intro pins s σ' H v u vl vu lo hi sl Q I rv hs pl pu ⟨σ, F, r, en, st, x, R, p, h⟩
  cases x <;> simp only [oSl] at h
  · cases p
    exact sl_str pins s σ' H _ _ _ _ lo hi sl Q I rv hs pl pu ⟨_, rfl, h.1, kp_val h.2 R rfl⟩
  · rename_i xs
    obtain ⟨l, vs, rfl, e1, w1⟩ := p
    refine sl_tupA pins s σ' H _ _ _ _ lo hi sl Q I rv hs pl pu ⟨l, vs, rfl, by rw [hK]; exact R.w.sub.sqT e1, fun z => ?_, fun z p hp => kp_tup h R hp (cut_rep lo hi w1)⟩
    rw [w1.len] at z
    rw [cut_all z.1 z.2] at h
    exact kp_val h R ⟨l, vs, rfl, e1, w1⟩
  · obtain ⟨l, vs, rfl, e1, w1⟩ := p
    exact sl_list pins s σ' H _ _ _ _ lo hi sl Q I rv hs pl pu ⟨l, vs, rfl, SqL.of (R.w.sub _ _ e1), fun p hp => kp_new h R hp ⟨_, rfl, cut_rep lo hi w1⟩⟩
  · rename_i ns
    obtain ⟨l, rfl, e1⟩ := p
    refine sl_list pins s σ' H _ _ _ _ lo hi sl Q I rv hs pl pu ⟨l, _, rfl, by rw [hK]; exact R.w.sub.sqL e1, fun p hp => kp_new h R hp ⟨_, rfl, ?_⟩⟩
    rw [← cut_map]
    exact cut_rep lo hi (reps_ints ns)
theorem de_sl {lo hi : Option Expr} {tl th : DTO} {p2 : Pos} (hK : X.K = B.K) (h : DE B W X e te) (hl : DO B W X lo tl) (hh : DO B W X hi th) : DE B W X (.Subscript e (.Slice lo hi none p2) pos) (dSl te tl th) := by
  refine ⟨dSl_mono h.mono hl.mono hh.mono, PE.weak (pe_slice (sl_all hK) h.run hl.run hh.run) fun σ H Q ⟨F, rr, en, st, R, q⟩ => ?_⟩
  refine at_bind (k := fun d _ en1 st1 => tl en1 st1 (fun lo en2 st2 => th en2 st2 (fun hi en3 st3 => oSl d lo hi fun t => Kpost B σ Q F rr en H t en3 st3) (Epost B σ W F rr en H)) (Epost B σ W F rr en H)) h.mono R q fun d en1 st1 F1 r1 H1 v S1 R1 rep1 h1 => ?_
  refine ⟨F1, r1, en1, st1, R1, hl.mono _ _ _ _ _ _ (fun lo en2 st2 h2 => ?_) (fun _ _ _ z => z.shift S1) h1⟩
  intro F2 r2 H2 S2 R2
  refine ⟨F2, r2, en2, st2, R2, hh.mono _ _ _ _ _ _ (fun hi en3 st3 h3 => ?_) (fun _ _ _ z => z.shift (S1.trans S2)) h2⟩
  intro F3 r3 H3 S3 R3
  exact ⟨σ, F3, r3, en3, st3, d, R3, (rep1.step S2).step S3, mono_oSl (fun t ht => ht.shift ((S1.trans S2).trans S3)) h3⟩
end
/-! ### built-ins -/
def oLen : OpN
  | [.lst xs], k => k (.v (.int xs.length))
  | [.tup xs], k => k (.v (.int xs.length))
  | [.scr xs], k => k (.v (.int xs.length))
  | [.str z], k => z.length ≤ sizeLine ∧ k (.v (.int z.length))
  | [.dct kvs], k => k (.v (.int kvs.length))
  | _, _ => False
def oAbs : OpN
  | [.int i], k => k (.v (.int (if i < 0 then -i else i)))
  | _, _ => False
def oMin : OpN
  | [.int i, .int j], k => k (.v (.int (if j < i then j else i)))
  | [.lst xs], k => ∃ ns : List Int, xs = ns.map D.int ∧ 0 < ns.length ∧ ∀ m, m ∈ ns → (∀ y, y ∈ ns → m ≤ y) → k (.v (.int m))
  | _, _ => False
def oMax : OpN
  | [.int i, .int j], k => k (.v (.int (if j > i then j else i)))
  | [.lst xs], k => ∃ ns : List Int, xs = ns.map D.int ∧ 0 < ns.length ∧ ∀ m, m ∈ ns → (∀ y, y ∈ ns → y ≤ m) → k (.v (.int m))
  | _, _ => False
def oInt : OpN
  | [.int i], k => k (.v (.int i))
  | [.str z], k => ∃ n, PySem.intText? z = some n ∧ z.length ≤ 640 ∧ k (.v (.int n))
  | _, _ => False
def oAll : OpN
  | [.lst xs], k => ∃ bs : List Bool, xs = bs.map D.bl ∧ k (.v (.bl (bs.all id)))
  | _, _ => False
def oAny : OpN
  | [.lst xs], k => ∃ bs : List Bool, xs = bs.map D.bl ∧ k (.v (.bl (bs.any id)))
  | _, _ => False
def oSum : OpN
  | [.lst xs], k => ∃ ns : List Int, xs = ns.map D.int ∧ k (.v (.int ns.sum))
  | _, _ => False
def oSorted : OpN
  | [.lst xs], k => ∃ ns : List Int, xs = ns.map D.int ∧ ∀ ms : List Int, ms.Perm ns → ms.Pairwise (· ≤ ·) → k (.o (.lst (ms.map D.int)))
  | _, _ => False
def oTuple : OpN
  | [.lst xs], k => k (.v (.tup xs))
  | [.tup xs], k => k (.v (.tup xs))
  | _, _ => False
def oList : OpN
  | [.lst xs], k => k (.o (.lst xs))
  | [.tup xs], k => k (.o (.lst xs))
  | _, _ => False
def oDivmod : OpN
  | [.int i, .int j], k => CDivW i j ∧ k (.v (.tup [.int (i / j), .int (i % j)]))
  | _, _ => False
def oStr : OpN
  | [.int i], k => i.natAbs.log2 < 1920 ∧ k (.v (.str (toString i)))
  | _, _ => False
/-- repr: some text of the data -/
def shownD (d : D) : Str := match dat d with
  | some p => p.shown
  | none => Str.empty
def okRepr (d : D) : Prop := ∃ p, dat d = some p ∧ p.showable = true ∧ p.depth ≤ 64 ∧ p.shown.length ≤ sizeLine ∧ p.hasDict = false
def oRepr : OpN
  | [d], k => okRepr d ∧ k (.v (.str (shownD d)))
  | _, _ => False
def isTy : D → Ty → Bool
  | .bl _, .int => true
  | .bl _, .bool => true
  | .int _, .int => true
  | .str _, .str => true
  | .tup _, .tuple => true
  | .lst _, .list => true
  | .scr _, .list => true
  | .dct _, .dict => true
  | _, _ => false
def hasTy : D → Bool
  | .non => true
  | .bl _ => true
  | .int _ => true
  | .str _ => true
  | .tup _ => true
  | .lst _ => true
  | .dct _ => true
  | _ => false
def oIsi : OpN
  | [d, .ty t], k => hasTy d = true ∧ k (.v (.bl (isTy d t)))
  | _, _ => False
end Ev
set_option Elab.async false
set_option linter.all false
set_option autoImplicit false
set_option maxRecDepth 100000
/-! Ev, part F: the built-ins' rules. -/
namespace Ev
open PySem PySem.Spec PyProof.Rows L2
theorem reps1 {B : Bg} {F : Hp} {r : List Addr} {d : D} {vs : List V} (h : Reps B F r [d] vs) : ∃ v, vs = [v] ∧ Rep B F r d v := by
  obtain ⟨v, t, e, q, h⟩ := h
  cases h
  exact ⟨v, e, q⟩
theorem reps2 {B : Bg} {F : Hp} {r : List Addr} {d d' : D} {vs : List V} (h : Reps B F r [d, d'] vs) : ∃ v u, vs = [v, u] ∧ Rep B F r d v ∧ Rep B F r d' u := by
  obtain ⟨v, t, e, q, h⟩ := h
  obtain ⟨u, rfl, q'⟩ := reps1 h
  exact ⟨v, u, e, q, q'⟩
theorem mono_oLen : MonoN oLen := fun x k k' hk => by
  unfold oLen
  split <;> intro h <;> first | exact hk _ h | exact ⟨h.1, hk _ h.2⟩ | exact h
theorem mono_oAbs : MonoN oAbs := fun x k k' hk => by
  unfold oAbs
  split <;> intro h <;> first | exact hk _ h | exact h
theorem mono_oMin : MonoN oMin := fun x k k' hk => by
  unfold oMin
  split <;> intro h <;> first | exact hk _ h | exact h | (obtain ⟨ns, e1, e2, h⟩ := h; exact ⟨ns, e1, e2, fun m h1 h2 => hk _ (h m h1 h2)⟩)
theorem mono_oMax : MonoN oMax := fun x k k' hk => by
  unfold oMax
  split <;> intro h <;> first | exact hk _ h | exact h | (obtain ⟨ns, e1, e2, h⟩ := h; exact ⟨ns, e1, e2, fun m h1 h2 => hk _ (h m h1 h2)⟩)
theorem mono_oInt : MonoN oInt := fun x k k' hk => by
  unfold oInt
  split <;> intro h <;> first | exact hk _ h | exact h | (obtain ⟨ns, e1, e2, h⟩ := h; exact ⟨ns, e1, e2, hk _ h⟩)
theorem mono_oAll : MonoN oAll := fun x k k' hk => by
  unfold oAll
  split <;> intro h <;> first | exact h | (obtain ⟨ns, e1, h⟩ := h; exact ⟨ns, e1, hk _ h⟩)
theorem mono_oAny : MonoN oAny := fun x k k' hk => by
  unfold oAny
  split <;> intro h <;> first | exact h | (obtain ⟨ns, e1, h⟩ := h; exact ⟨ns, e1, hk _ h⟩)
theorem mono_oSum : MonoN oSum := fun x k k' hk => by
  unfold oSum
  split <;> intro h <;> first | exact h | (obtain ⟨ns, e1, h⟩ := h; exact ⟨ns, e1, hk _ h⟩)
theorem mono_oSorted : MonoN oSorted := fun x k k' hk => by
  unfold oSorted
  split <;> intro h <;> first | exact h | (obtain ⟨ns, e1, h⟩ := h; exact ⟨ns, e1, fun m h1 h2 => hk _ (h m h1 h2)⟩)
theorem mono_oTuple : MonoN oTuple := fun x k k' hk => by
  unfold oTuple
  split <;> intro h <;> first | exact hk _ h | exact h
theorem mono_oList : MonoN oList := fun x k k' hk => by
  unfold oList
  split <;> intro h <;> first | exact hk _ h | exact h
theorem mono_oDivmod : MonoN oDivmod := fun x k k' hk => by
  unfold oDivmod
  split <;> intro h <;> first | exact ⟨h.1, hk _ h.2⟩ | exact h
theorem mono_oStr : MonoN oStr := fun x k k' hk => by
  unfold oStr
  split <;> intro h <;> first | exact ⟨h.1, hk _ h.2⟩ | exact h
theorem mono_oRepr : MonoN oRepr := fun x k k' hk => by
  unfold oRepr
  split <;> intro h <;> first | exact ⟨h.1, hk _ h.2⟩ | exact h
theorem mono_oIsi : MonoN oIsi := fun x k k' hk => by
  unfold oIsi
  split <;> intro h <;> first | exact ⟨h.1, hk _ h.2⟩ | exact h
section
variable {B : Bg} {X : Cx}
theorem cr_len (hK : X.K = B.K) : CallR X (.builtin "len") (rGN B oLen) := by
  intro pins s σ' H vs us Q I rv ⟨σ, F, r, en, st, ds, R, p, h⟩
  unfold oLen at h
  split at h
  · obtain ⟨v, rfl, l, ws, rfl, e1, w1⟩ := reps1 p
    exact call_len pins s σ' H _ us Q I rv ⟨_, ws.length, rfl, .inl ⟨ws, SqL.of (R.w.sub _ _ e1), rfl⟩, by rw [w1.len]; exact kp_val h R rfl⟩
  · obtain ⟨v, rfl, l, ws, rfl, e1, w1⟩ := reps1 p
    exact call_len pins s σ' H _ us Q I rv ⟨_, ws.length, rfl, .inr ⟨ws, by rw [hK]; exact R.w.sub.sqT e1, rfl⟩, by rw [w1.len]; exact kp_val h R rfl⟩
  · obtain ⟨v, rfl, l, rfl, e1⟩ := reps1 p
    exact call_len pins s σ' H _ us Q I rv ⟨_, _, rfl, .inl ⟨_, by rw [hK]; exact R.w.sub.sqL e1, rfl⟩, by rw [List.length_map]; exact kp_val h R rfl⟩
  · obtain ⟨v, rfl, rfl⟩ := reps1 p
    exact call_len pins s σ' H _ us Q I rv ⟨_, _, rfl, ⟨h.1, rfl⟩, kp_val h.2 R rfl⟩
  · obtain ⟨v, rfl, l, ws, rfl, e1, w1⟩ := reps1 p
    refine call_lenD pins s σ' H _ us Q I rv ⟨_, _, rfl, R.w.sub _ _ e1, ?_⟩
    have el : ws.length = _ := repK_len w1
    rw [el]
    exact kp_val h R rfl
  · exact h.elim
where
  repK_len {F : Hp} {r : List Addr} : ∀ {ks : List (Key × D)} {ws : List (Key × V)}, RepK B F r ks ws → ws.length = ks.length
  | [], ws, h => by cases h; rfl
  | (k, d) :: ks, ws, ⟨v, t, e, q, h⟩ => by rw [e, List.length_cons, List.length_cons, repK_len h]
theorem cr_abs : CallR X (.builtin "abs") (rGN B oAbs) := by
  intro pins s σ' H vs us Q I rv ⟨σ, F, r, en, st, ds, R, p, h⟩
  unfold oAbs at h
  split at h
  · obtain ⟨v, rfl, rfl⟩ := reps1 p
    exact call_abs pins s σ' H _ us Q I rv ⟨_, rfl, kp_val h R rfl⟩
  · exact h.elim
theorem cr_minD (hc : X.calm = true) : CallR X (.builtin "min") (rGN B oMin) := by
  intro pins s σ' H vs us Q I rv ⟨σ, F, r, en, st, ds, R, p, h⟩
  unfold oMin at h
  split at h
  · obtain ⟨v, u, rfl, rfl, rfl⟩ := reps2 p
    exact call_min2 hc pins s σ' H _ us Q I rv ⟨_, _, rfl, kp_val h R rfl⟩
  · obtain ⟨ns, rfl, h1, h2⟩ := h
    obtain ⟨v, rfl, l, ws, rfl, e1, w1⟩ := reps1 p
    have e2 := reps_ints_inv w1
    subst e2
    exact cr_min hc pins s σ' H _ us Q I rv ⟨l, ns, rfl, SqL.of (R.w.sub _ _ e1), h1, fun m h3 h4 => kp_val (h2 m h3 h4) R rfl⟩
  · exact h.elim
theorem cr_maxD (hc : X.calm = true) : CallR X (.builtin "max") (rGN B oMax) := by
  intro pins s σ' H vs us Q I rv ⟨σ, F, r, en, st, ds, R, p, h⟩
  unfold oMax at h
  split at h
  · obtain ⟨v, u, rfl, rfl, rfl⟩ := reps2 p
    exact call_max2 hc pins s σ' H _ us Q I rv ⟨_, _, rfl, kp_val h R rfl⟩
  · obtain ⟨ns, rfl, h1, h2⟩ := h
    obtain ⟨v, rfl, l, ws, rfl, e1, w1⟩ := reps1 p
    have e2 := reps_ints_inv w1
    subst e2
    exact cr_max hc pins s σ' H _ us Q I rv ⟨l, ns, rfl, SqL.of (R.w.sub _ _ e1), h1, fun m h3 h4 => kp_val (h2 m h3 h4) R rfl⟩
  · exact h.elim
theorem cr_int : CallR X (.type "int") (rGN B oInt) := by
  intro pins s σ' H vs us Q I rv ⟨σ, F, r, en, st, ds, R, p, h⟩
  unfold oInt at h
  split at h
  · obtain ⟨v, rfl, rfl⟩ := reps1 p
    exact call_int1 pins s σ' H _ us Q I rv (.inl ⟨_, rfl, kp_val h R rfl⟩)
  · obtain ⟨v, rfl, rfl⟩ := reps1 p
    obtain ⟨n, h1, h2, h3⟩ := h
    exact call_int_str pins s σ' H _ us Q I rv ⟨_, n, rfl, h1, h2, kp_val h3 R rfl⟩
  · exact h.elim
theorem cr_allD (hc : X.calm = true) : CallR X (.builtin "all") (rGN B oAll) := by
  intro pins s σ' H vs us Q I rv ⟨σ, F, r, en, st, ds, R, p, h⟩
  unfold oAll at h
  split at h
  · obtain ⟨ns, rfl, h1⟩ := h
    obtain ⟨v, rfl, l, ws, rfl, e1, w1⟩ := reps1 p
    have e2 := reps_bls_inv w1
    subst e2
    exact cr_all hc pins s σ' H _ us Q I rv ⟨l, ns, rfl, SqL.of (R.w.sub _ _ e1), kp_val h1 R rfl⟩
  · exact h.elim
theorem cr_anyD (hc : X.calm = true) : CallR X (.builtin "any") (rGN B oAny) := by
  intro pins s σ' H vs us Q I rv ⟨σ, F, r, en, st, ds, R, p, h⟩
  unfold oAny at h
  split at h
  · obtain ⟨ns, rfl, h1⟩ := h
    obtain ⟨v, rfl, l, ws, rfl, e1, w1⟩ := reps1 p
    have e2 := reps_bls_inv w1
    subst e2
    exact cr_any hc pins s σ' H _ us Q I rv ⟨l, ns, rfl, SqL.of (R.w.sub _ _ e1), kp_val h1 R rfl⟩
  · exact h.elim
theorem cr_sumD (hc : X.calm = true) : CallR X (.builtin "sum") (rGN B oSum) := by
  intro pins s σ' H vs us Q I rv ⟨σ, F, r, en, st, ds, R, p, h⟩
  unfold oSum at h
  split at h
  · obtain ⟨ns, rfl, h1⟩ := h
    obtain ⟨v, rfl, l, ws, rfl, e1, w1⟩ := reps1 p
    have e2 := reps_ints_inv w1
    subst e2
    exact cr_sum hc pins s σ' H _ us Q I rv ⟨l, ns, rfl, SqL.of (R.w.sub _ _ e1), kp_val h1 R rfl⟩
  · exact h.elim
theorem cr_sortedD : CallR X (.builtin "sorted") (rGN B oSorted) := by
  intro pins s σ' H vs us Q I rv ⟨σ, F, r, en, st, ds, R, p, h⟩
  unfold oSorted at h
  split at h
  · obtain ⟨ns, rfl, h1⟩ := h
    obtain ⟨v, rfl, l, ws, rfl, e1, w1⟩ := reps1 p
    have e2 := reps_ints_inv w1
    subst e2
    exact cr_sortedI pins s σ' H _ us Q I rv ⟨l, ns, rfl, SqL.of (R.w.sub _ _ e1), fun ms p h3 h4 hp => kp_new (h1 ms h3 h4) R hp ⟨_, rfl, reps_ints ms⟩⟩
  · exact h.elim
theorem cr_tuple (hK : X.K = B.K) : CallR X (.type "tuple") (rGN B oTuple) := by
  intro pins s σ' H vs us Q I rv ⟨σ, F, r, en, st, ds, R, p, h⟩
  unfold oTuple at h
  split at h
  · obtain ⟨v, rfl, l, ws, rfl, e1, w1⟩ := reps1 p
    exact call_tuple_of pins s σ' H _ us Q I rv ⟨l, ws, rfl, .inl ⟨SqL.of (R.w.sub _ _ e1), fun q hq => kp_tup h R hq w1⟩⟩
  · obtain ⟨v, rfl, l, ws, rfl, e1, w1⟩ := reps1 p
    exact call_tuple_of pins s σ' H _ us Q I rv ⟨l, ws, rfl, .inr ⟨by rw [hK]; exact R.w.sub.sqT e1, kp_val h R ⟨l, ws, rfl, e1, w1⟩⟩⟩
  · exact h.elim
theorem cr_list (hK : X.K = B.K) : CallR X (.type "list") (rGN B oList) := by
  intro pins s σ' H vs us Q I rv ⟨σ, F, r, en, st, ds, R, p, h⟩
  unfold oList at h
  split at h
  · obtain ⟨v, rfl, l, ws, rfl, e1, w1⟩ := reps1 p
    exact call_list_of pins s σ' H _ us Q I rv ⟨l, ws, rfl, .inl (SqL.of (R.w.sub _ _ e1)), fun q hq => kp_new h R hq ⟨_, rfl, w1⟩⟩
  · obtain ⟨v, rfl, l, ws, rfl, e1, w1⟩ := reps1 p
    exact call_list_of pins s σ' H _ us Q I rv ⟨l, ws, rfl, .inr (by rw [hK]; exact R.w.sub.sqT e1), fun q hq => kp_new h R hq ⟨_, rfl, w1⟩⟩
  · exact h.elim
theorem cr_divmod : CallR X (.builtin "divmod") (rGN B oDivmod) := by
  intro pins s σ' H vs us Q I rv ⟨σ, F, r, en, st, ds, R, p, h⟩
  unfold oDivmod at h
  split at h
  · obtain ⟨v, u, rfl, rfl, rfl⟩ := reps2 p
    exact call_divmodW pins s σ' H _ us Q I rv ⟨_, _, rfl, ⟨h.1.1, PyProof.noPylong_of_log2 h.1.2⟩, fun q hq => kp_tup h.2 R hq ⟨_, _, rfl, rfl, _, _, rfl, rfl, rfl⟩⟩
  · exact h.elim
theorem cr_str : CallR X (.type "str") (rGN B oStr) := by
  intro pins s σ' H vs us Q I rv ⟨σ, F, r, en, st, ds, R, p, h⟩
  unfold oStr at h
  split at h
  · obtain ⟨v, rfl, rfl⟩ := reps1 p
    exact call_str_int pins s σ' H _ us Q I rv ⟨_, rfl, h.1, kp_val h.2 R rfl⟩
  · exact h.elim
theorem vals_one {x : V} {us : List Value} (h : Vals [x] us) : ∃ u, us = [u] ∧ RelV x u := by
  cases h with
  | cons r t => cases t; exact ⟨_, rfl, r⟩
theorem cr_repr (hK : X.K = B.K) (hg : X.A.guards = some []) (hu : X.A.units + 66 < cLine) : CallR X (.builtin "repr") (rGN B oRepr) := by
  intro pins s σ' H vs us Q I rv ⟨σ, F, r, en, st, ds, R, p, h⟩
  unfold oRepr at h
  split at h
  · rename_i d
    obtain ⟨v, rfl, q⟩ := reps1 p
    obtain ⟨⟨pd, h1, h2, h3, h4, h5⟩, h6⟩ := h
    have es : shownD d = pd.shown := by unfold shownD; rw [h1]
    rw [es] at h6
    have dp := dp_of R.w.sub d pd v h1 q
    obtain ⟨u, rfl, ru⟩ := vals_one rv
    rw [← hK] at dp
    obtain ⟨as, rd⟩ := Dp.reads I pd v u dp ru
    have fin : ∀ (h' : Heap) (t : Tok) (tk : Nat), (∀ b o, s.heap.get? b = some o → h'.get? b = some o) → EP X pins σ' Q (.str pd.shown t) { s with heap := h', toks := tk } := fun h' t tk k => ⟨.str pd.shown, H, I.kept k, ⟨t, rfl⟩, kp_val h6 R rfl⟩
    cases dp with
    | non => cases (show u = Value.none from ru); exact PySem.P.repr_of_none (fin s.heap _ _ fun _ _ z => z)
    | bl b => cases (show u = Value.bool b from ru); exact PySem.P.repr_of_bool (by have := fin s.heap s.toks (s.toks + 1) fun _ _ z => z; cases b <;> exact this)
    | int i => obtain ⟨t, e⟩ := ru; cases e; exact PySem.P.repr_of_int (of_decide_eq_true h2) (fin s.heap _ _ fun _ _ z => z)
    | str z => obtain ⟨t, e⟩ := ru; cases e; exact PySem.P.repr_of_str (fin s.heap _ _ fun _ _ z => z) h4
    | lst hq ha => cases (show u = Value.ref _ from ru); exact PySem.repr_of_reads' rd h2 (fun z => by rw [h5] at z; cases z) hg (by omega) (fun _ _ z => z) (fun h' t tk k => fin h' t tk k) h4
    | tup hq ha => cases (show u = Value.ref _ from ru); exact PySem.repr_of_reads' rd h2 (fun z => by rw [h5] at z; cases z) hg (by omega) (fun _ _ z => z) (fun h' t tk k => fin h' t tk k) h4
  · exact h.elim
theorem kitOk (d : D) (t : Ty) : ∀ n, (match d with | .non => some "NoneType" | .bl _ => some "bool" | .int _ => some "int" | .str _ => some "str" | .tup _ => some "tuple" | .lst _ => some "list" | .dct _ => some "dict" | _ => none) = some n → kitB n t.nm = some (isTy d t) := by
  intro n h
  cases d <;> simp only [reduceCtorEq, Option.some.injEq] at h <;> subst h <;> cases t <;> simp only [isTy, Ty.nm] <;> decide +kernel
theorem cr_isi (hK : X.K = B.K) : CallR X (.builtin "isinstance") (rGN B oIsi) := by
  intro pins s σ' H vs us Q I rv ⟨σ, F, r, en, st, ds, R, p, h⟩
  unfold oIsi at h
  split at h
  · rename_i d t
    obtain ⟨v, u, rfl, q, rfl⟩ := reps2 p
    have kt := kitOk d t
    cases d <;> simp only [hasTy, reduceCtorEq, false_and] at h
    · cases q; exact call_isi pins s σ' H _ us Q I rv ⟨_, _, _, _, _, rfl, .ty _, .base .non, kit_ty (kt _ rfl), kp_val h.2 R rfl⟩
    · cases q; exact call_isi pins s σ' H _ us Q I rv ⟨_, _, _, _, _, rfl, .ty _, .base (.bl _), kit_ty (kt _ rfl), kp_val h.2 R rfl⟩
    · cases q; exact call_isi pins s σ' H _ us Q I rv ⟨_, _, _, _, _, rfl, .ty _, .base (.int _), kit_ty (kt _ rfl), kp_val h.2 R rfl⟩
    · cases q; exact call_isi pins s σ' H _ us Q I rv ⟨_, _, _, _, _, rfl, .ty _, .base (.str _), kit_ty (kt _ rfl), kp_val h.2 R rfl⟩
    · obtain ⟨l, ws, rfl, e1, w1⟩ := q
      have ty : TyX X.K H (.ref l) (.type "tuple") := by
        rcases e1 with (e1 | ⟨o, e1⟩) | ⟨o, its, n, e1, e2, _⟩
        · exact .base (.tup (R.w.sub _ _ e1))
        · exact .fTuple (R.w.sub _ _ e1)
        · exact .kTuple (by rw [hK]; exact e1) e2
      exact call_isi pins s σ' H _ us Q I rv ⟨_, _, _, _, _, rfl, .ty _, ty, kit_ty (kt _ rfl), kp_val h.2 R rfl⟩
    · obtain ⟨l, ws, rfl, e1, w1⟩ := q
      exact call_isi pins s σ' H _ us Q I rv ⟨_, _, _, _, _, rfl, .ty _, .base (.lst (R.w.sub _ _ e1)), kit_ty (kt _ rfl), kp_val h.2 R rfl⟩
    · obtain ⟨l, ws, rfl, e1, w1⟩ := q
      exact call_isi pins s σ' H _ us Q I rv ⟨_, _, _, _, _, rfl, .ty _, .base (.dK (R.w.sub _ _ e1)), kit_ty (kt _ rfl), kp_val h.2 R rfl⟩
  · exact h.elim
end
end Ev
set_option Elab.async false
set_option linter.all false
set_option autoImplicit false
set_option maxRecDepth 100000
/-! Ev, part G: statements. -/
namespace Ev
open PySem PySem.Spec PyProof.Rows L2
structure Post where
  nx : En → List D → Prop
  rt : T → List D → Prop
  bk : En → List D → Prop
  ct : En → List D → Prop
  ex : KX
structure Post.le (P P' : Post) : Prop where
  nx : ∀ n s, P.nx n s → P'.nx n s
  rt : ∀ x s, P.rt x s → P'.rt x s
  bk : ∀ n s, P.bk n s → P'.bk n s
  ct : ∀ n s, P.ct n s → P'.ct n s
  ex : ∀ x n s, P.ex x n s → P'.ex x n s
theorem Post.le.refl (P : Post) : Post.le P P := ⟨fun _ _ h => h, fun _ _ h => h, fun _ _ h => h, fun _ _ h => h, fun _ _ _ h => h⟩
theorem Post.le.nxs {P P' : Post} (h : Post.le P P') {n n' : En → List D → Prop} (hn : ∀ a b, n a b → n' a b) : Post.le { P with nx := n } { P' with nx := n' } := ⟨hn, h.rt, h.bk, h.ct, h.ex⟩
abbrev DTS := En → List D → Post → Prop
def MonoS (t : DTS) : Prop := ∀ (en : En) (st : List D) (P P' : Post), Post.le P P' → t en st P → t en st P'
theorem MonoS.app {t : DTS} {en : En} {st : List D} {P P' : Post} (m : MonoS t) (q : t en st P) (h : Post.le P P') : t en st P' := m _ _ _ _ h q
def RRep (B : Bg) (F : Hp) (r : List Addr) (H : Hp) (σ0 : Sl) (en0 : En) (H0 : Hp) : T → V → Prop
  | .v d, v => Rep B F r d v
  | .o d, v => ∃ a, v = .ref a ∧ Own B F r H d a ∧ (H0 a = none ∨ OwnAt σ0 en0 a)
def postOf (B : Bg) (W : WX) (D : Ends) (σ : Sl) (F : Hp) (r : List Addr) (en : En) (H : Hp) : Post where
  nx := fun en' st' => ∀ σ' F' r' H', Step σ en F r H σ' en' F' r' H' → Rel B F' r' en' st' σ' H' → D.nx σ' H'
  rt := fun x st' => ∀ F' r' H' v, (∃ σ' en', Step σ en F r H σ' en' F' r' H') → World B F' r' st' H' → RRep B F' r' H' σ en H x v → D.rt v H'
  bk := fun en' st' => ∀ σ' F' r' H', Step σ en F r H σ' en' F' r' H' → Rel B F' r' en' st' σ' H' → D.bk σ' H'
  ct := fun en' st' => ∀ σ' F' r' H', Step σ en F r H σ' en' F' r' H' → Rel B F' r' en' st' σ' H' → D.ct σ' H'
  ex := fun x en' st' => ∀ σ' F' r' H' cls d, Step σ en F r H σ' en' F' r' H' → Rel B F' r' en' st' σ' H' → XRep B F' r' x cls d → W cls d σ' H'
def tS (B : Bg) (W : WX) (t : DTS) : TS := fun D σ H => ∃ F r en st, Rel B F r en st σ H ∧ t en st (postOf B W D σ F r en H)
section
variable {B : Bg} {W : WX} {σ σ1 : Sl} {F F1 : Hp} {r r1 : List Addr} {en en1 : En} {H H1 : Hp} {D : Ends}
theorem postOf.shift (S : Step σ en F r H σ1 en1 F1 r1 H1) : Post.le (postOf B W D σ F r en H) (postOf B W D σ1 F1 r1 en1 H1) where
  nx := fun _ _ h σ' F' r' H' U R => h σ' F' r' H' (S.trans U) R
  rt := fun x _ h F' r' H' v ⟨σ', en', U⟩ R q => h F' r' H' v ⟨σ', en', S.trans U⟩ R (by
    cases x with
    | v d => exact q
    | o d =>
      obtain ⟨a, e, q1, q3⟩ := q
      refine ⟨a, e, q1, ?_⟩
      rcases q3 with q | q
      · exact .inl (S.there a q)
      · exact (S.owns a q).symm)
  bk := fun _ _ h σ' F' r' H' U R => h σ' F' r' H' (S.trans U) R
  ct := fun _ _ h σ' F' r' H' U R => h σ' F' r' H' (S.trans U) R
  ex := fun _ _ _ h σ' F' r' H' c d U R q => h σ' F' r' H' c d (S.trans U) R q
theorem TRep.rr {H0 : Hp} {en0 : En} {x : T} {v : V} (h : TRep B F r H σ en H0 en0 x v) : RRep B F r H σ en0 H0 x v := by
  cases x with
  | v d => exact h
  | o d => obtain ⟨a, e, q1, _, q3⟩ := h; exact ⟨a, e, q1, q3⟩
/-- an exception in an expression, in a statement -/
theorem ex_of {x : Xn} {n : En} {s : List Ev.D} (h : (postOf B W D σ F r en H).ex x n s) : Epost B σ W F r en H x n s := fun F' r' H' c d U R q => h σ F' r' H' c d U R q
end
theorem PS.weak {X : Cx} {s : Stmt} {t t' : TS} (h : PS X s t) (w : ∀ D σ H, t' D σ H → t D σ H) : PS X s t' := ⟨fun pins s σ H D I q => h.run pins s σ H D I (w D σ H q)⟩
theorem PSs.weak {X : Cx} {s : List Stmt} {t t' : TS} (h : PSs X s t) (w : ∀ D σ H, t' D σ H → t D σ H) : PSs X s t' := ⟨fun pins s σ H D I q => h.run pins s σ H D I (w D σ H q)⟩
structure DS (B : Bg) (W : WX) (X : Cx) (s : Stmt) (t : DTS) : Prop where
  mono : MonoS t
  run : PS X s (tS B W t)
structure DSs (B : Bg) (W : WX) (X : Cx) (s : List Stmt) (t : DTS) : Prop where
  mono : MonoS t
  run : PSs X s (tS B W t)
section
variable {B : Bg} {W : WX} {X : Cx} {e a b c : Expr} {es : List Expr} {pos : Pos} {te ta tb tc : DTE} {tA : DTA} {tt tu : DTT} {s : Stmt} {ss sr : List Stmt} {t u : DTS}
/-! ### blocks -/
def dNext : DTS := fun en st P => P.nx en st
def dBreak : DTS := fun en st P => P.bk en st
def dCont : DTS := fun en st P => P.ct en st
def dSeq (t u : DTS) : DTS := fun en st P => t en st { P with nx := fun en1 st1 => u en1 st1 P }
def dNever : DTS := fun _ _ _ => False
theorem dNext_mono : MonoS dNext := fun _ _ _ _ h q => h.nx _ _ q
theorem dSeq_mono (m : MonoS t) (m' : MonoS u) : MonoS (dSeq t u) := fun en st P P' h q => m _ _ _ _ (h.nxs fun _ _ z => m' _ _ _ _ h z) q
theorem dss_nil : DSs B W X [] dNext := ⟨dNext_mono, PSs.weak pss_nil fun D σ H ⟨F, r, en, st, R, q⟩ => q σ F r H Step.refl R⟩
theorem dss_cons (h : DS B W X s t) (h' : DSs B W X ss u) : DSs B W X (s :: ss) (dSeq t u) := by
  refine ⟨dSeq_mono h.mono h'.mono, PSs.weak (pss_cons h.run h'.run) fun D σ H ⟨F, r, en, st, R, q⟩ => ?_⟩
  have q' : t en st { postOf B W D σ F r en H with nx := fun en1 st1 => u en1 st1 (postOf B W D σ F r en H) } := q
  refine ⟨F, r, en, st, R, h.mono.app q' ⟨fun n s z => ?_, fun _ _ z => z, fun _ _ z => z, fun _ _ z => z, fun _ _ _ z => z⟩⟩
  intro σ' F' r' H' S R'
  exact ⟨F', r', n, s, R', h'.mono _ _ _ _ (postOf.shift S) z⟩
theorem ds_pass : DS B W X (.Pass pos) dNext := ⟨dNext_mono, PS.weak ps_pass fun D σ H ⟨F, r, en, st, R, q⟩ => q σ F r H Step.refl R⟩
theorem ds_break : DS B W X (.Break pos) dBreak := ⟨fun _ _ _ _ h q => h.bk _ _ q, PS.weak ps_break fun D σ H ⟨F, r, en, st, R, q⟩ => q σ F r H Step.refl R⟩
theorem ds_cont : DS B W X (.Continue pos) dCont := ⟨fun _ _ _ _ h q => h.ct _ _ q, PS.weak ps_continue fun D σ H ⟨F, r, en, st, R, q⟩ => q σ F r H Step.refl R⟩
theorem ds_never : DS B W X s dNever := ⟨fun _ _ _ _ _ q => q, PS.weak ps_never fun D σ H ⟨F, r, en, st, R, q⟩ => q⟩
theorem ds_doc {x : Str} {j : Nat} {pos' : Pos} : DS B W X (.Expr (.Constant (.str x) j pos) pos') dNext := ⟨dNext_mono, PS.weak ps_doc fun D σ H ⟨F, r, en, st, R, q⟩ => q σ F r H Step.refl R⟩
/-! ### e, return e -/
def dDrop (te : DTE) : DTS := fun en st P => te en st (fun _ en1 st1 => P.nx en1 st1) P.ex
theorem dDrop_mono (m : MonoE te) : MonoS (dDrop te) := fun _ _ _ _ h q => m _ _ _ _ _ _ (fun _ _ _ z => h.nx _ _ z) h.ex q
theorem ds_expr (h : DE B W X e te) (hs : swapsWith e none pos.line X.env = pure false) : DS B W X (.Expr e pos) (dDrop te) := by
  refine ⟨dDrop_mono h.mono, PS.weak (ps_expr h.run hs) fun D σ H ⟨F, r, en, st, R, q⟩ => ?_⟩
  exact ⟨F, r, en, st, R, h.mono _ _ _ _ _ _ (fun x n s z F' r' H' v S R' _ => z σ F' r' H' S R') (fun _ _ _ z => ex_of z) q⟩
def dRet (te : DTE) : DTS := fun en st P => te en st (fun x _ st1 => P.rt x st1) P.ex
theorem dRet_mono (m : MonoE te) : MonoS (dRet te) := fun _ _ _ _ h q => m _ _ _ _ _ _ (fun _ _ _ z => h.rt _ _ z) h.ex q
theorem ds_ret (h : DE B W X e te) : DS B W X (.Return (some e) pos) (dRet te) := by
  refine ⟨dRet_mono h.mono, PS.weak (ps_ret h.run) fun D σ H ⟨F, r, en, st, R, q⟩ => ?_⟩
  exact ⟨F, r, en, st, R, h.mono _ _ _ _ _ _ (fun x n s z F' r' H' v S R' t => z F' r' H' v ⟨σ, n, S⟩ R'.w t.rr) (fun _ _ _ z => ex_of z) q⟩
/-- return x: a thing goes out as it is -/
def dRetV (i : Nat) : DTS := fun en st P => match en[i]? with
  | some (some x) => P.rt x st
  | _ => False
theorem ds_retv {i : Nat} (h : PE X e (tVar i)) : DS B W X (.Return (some e) pos) (dRetV i) := by
  refine ⟨fun en st P P' h q => ?_, PS.weak (ps_ret h) fun D σ H ⟨F, r, en, st, R, q⟩ => ?_⟩
  · unfold dRetV at q ⊢
    split at q
    · exact h.rt _ _ q
    · exact q.elim
  · unfold dRetV at q
    split at q
    · rename_i x hx
      cases x with
      | v d =>
        obtain ⟨v, e1, e2⟩ := R.val i d hx
        exact ⟨v, e1, q F r H v ⟨σ, en, Step.refl⟩ R.w e2⟩
      | o d =>
        obtain ⟨c, e1, e2⟩ := R.own i d hx
        exact ⟨.ref c, e1, q F r H _ ⟨σ, en, Step.refl⟩ R.w ⟨c, rfl, e2, .inr ⟨i, d, hx, e1⟩⟩⟩
    · exact q.elim
def dRetN : DTS := fun _ st P => P.rt (.v .non) st
theorem ds_retN : DS B W X (.Return none pos) dRetN := ⟨fun _ _ _ _ h q => h.rt _ _ q, PS.weak ps_retN fun D σ H ⟨F, r, en, st, R, q⟩ => q F r H .non ⟨σ, en, Step.refl⟩ R.w rfl⟩
/-! ### if, while -/
def dIfS (c : DTT) (t u : DTS) : DTS := fun en st P => c en st (fun b en1 st1 => if b = true then t en1 st1 P else u en1 st1 P) P.ex
theorem dIfS_mono (m : MonoT tt) (m1 : MonoS t) (m2 : MonoS u) : MonoS (dIfS tt t u) := fun _ _ _ _ h q => m _ _ _ _ _ _ (fun b n s z => by
  cases b
  · exact m2 _ _ _ _ h z
  · exact m1 _ _ _ _ h z) h.ex q
theorem ds_if (hc : DT B W X c tt) (h1 : DSs B W X ss t) (h2 : DSs B W X sr u) : DS B W X (.If c ss sr pos) (dIfS tt t u) := by
  refine ⟨dIfS_mono hc.mono h1.mono h2.mono, PS.weak (ps_if hc.run h1.run h2.run) fun D σ H ⟨F, r, en, st, R, q⟩ => ?_⟩
  refine ⟨F, r, en, st, R, hc.mono _ _ _ _ _ _ (fun b n s z => ?_) (fun _ _ _ z => ex_of z) q⟩
  intro F' r' H' S R'
  cases b with
  | true =>
    rw [if_pos rfl] at z ⊢
    exact ⟨F', r', n, s, R', h1.mono _ _ _ _ (postOf.shift S) z⟩
  | false =>
    rw [if_neg Bool.false_ne_true] at z ⊢
    exact ⟨F', r', n, s, R', h2.mono _ _ _ _ (postOf.shift S) z⟩
def dWhile (c : DTT) (t : DTS) : DTS := fun en st P => ∃ I : Nat → En → List D → Prop, (∃ m, I m en st) ∧ ∀ m en st, I m en st →
  c en st (fun b en1 st1 => if b = true then t en1 st1 { P with nx := fun n s => ∃ m', m' < m ∧ I m' n s, ct := fun n s => ∃ m', m' < m ∧ I m' n s, bk := P.nx } else P.nx en1 st1) P.ex
theorem dWhile_mono (m : MonoT tt) (m1 : MonoS t) : MonoS (dWhile tt t) := fun _ _ _ _ h ⟨I, i0, q⟩ => ⟨I, i0, fun k n s z => m _ _ _ _ _ _ (fun b n s z => by
  cases b
  · exact h.nx _ _ z
  · exact m1.app z ⟨fun _ _ y => y, h.rt, h.nx, fun _ _ y => y, h.ex⟩) h.ex (q k n s z)⟩
theorem ds_while (hp : PassesOwn (model X.prog X.w) X.A X.env X.xe) (hc : DT B W X c tt) (h1 : DSs B W X ss t) : DS B W X (.While c ss [] pos) (dWhile tt t) := by
  refine ⟨dWhile_mono hc.mono h1.mono, PS.weak (ps_while hp hc.run h1.run) fun D σ H ⟨F, r, en, st, R, I, ⟨m0, i0⟩, q⟩ => ?_⟩
  refine ⟨fun m σ' H' => ∃ F' r' en' st', Step σ en F r H σ' en' F' r' H' ∧ Rel B F' r' en' st' σ' H' ∧ I m en' st', ⟨m0, F, r, en, st, Step.refl, R, i0⟩, fun m σ1 H1 ⟨F1, r1, en1, st1, S1, R1, i1⟩ => ?_⟩
  refine ⟨F1, r1, en1, st1, R1, hc.mono _ _ _ _ _ _ (fun b n s z => ?_) (fun _ _ _ z => ex_of ((postOf.shift S1).ex _ _ _ z)) (q m en1 st1 i1)⟩
  intro F2 r2 H2 S2 R2
  have S := S1.trans S2
  cases b with
  | true =>
    rw [if_pos rfl] at z ⊢
    refine ⟨fun σ' H' => ∃ m', m' < m ∧ ∃ F' r' en' st', Step σ en F r H σ' en' F' r' H' ∧ Rel B F' r' en' st' σ' H' ∧ I m' en' st', fun σ' H' y => y, F2, r2, n, s, R2, h1.mono.app z ⟨?_, ?_, ?_, ?_, ?_⟩⟩
    · rintro n' s' ⟨m', lt, i'⟩ σ' F' r' H' U R'
      exact ⟨m', lt, F', r', n', s', S.trans U, R', i'⟩
    · exact fun x s y => (postOf.shift (W := W) S).rt x s y
    · exact fun n' s' y => (postOf.shift (W := W) S).nx n' s' y
    · rintro n' s' ⟨m', lt, i'⟩ σ' F' r' H' U R'
      exact ⟨m', lt, F', r', n', s', S.trans U, R', i'⟩
    · exact fun x n s y => (postOf.shift S).ex x n s y
  | false =>
    rw [if_neg Bool.false_ne_true] at z ⊢
    exact z σ1 F2 r2 H2 S R2
end
/-! ### stores -/
section
variable {B : Bg} {σ : Sl} {en en0 : En} {F F0 : Hp} {r r0 : List Addr} {H H0 : Hp} {st : List D}
theorem own_set {i : Nat} {x : Option T} {v : Option V} {j : Nat} {a : Addr} (h : OwnI (σ.set i v) (en.set i x) j a) : (j ≠ i ∧ OwnI σ en j a) ∨ (j = i ∧ ∃ d, x = some (.o d) ∧ v = some (.ref a)) := by
  obtain ⟨d, h1, h2⟩ := h
  by_cases q : j = i
  · subst q
    have hl : j < en.length := by have := (List.getElem?_eq_some_iff.mp h1).1; rwa [List.length_set] at this
    have hl2 : j < σ.length := by have := (List.getElem?_eq_some_iff.mp h2).1; rwa [List.length_set] at this
    rw [List.getElem?_set_self hl] at h1
    rw [List.getElem?_set_self hl2] at h2
    exact .inr ⟨rfl, d, Option.some.inj h1, Option.some.inj h2⟩
  · rw [List.getElem?_set_ne (Ne.symm q)] at h1 h2
    exact .inl ⟨q, d, h1, h2⟩
/-- a slot is stored -/
theorem Rel.set {i : Nat} {x : T} {v : V} (S : Step σ en0 F0 r0 H0 σ en F r H) (R : Rel B F r en st σ H) (t : TRep B F r H σ en H0 en0 x v) (hi : i < σ.length) :
    Step σ en0 F0 r0 H0 (σ.set i (some v)) (en.set i (some x)) F r H ∧ Rel B F r (en.set i (some x)) st (σ.set i (some v)) H := by
  have hie : i < en.length := by rw [R.len]; exact hi
  constructor
  · refine ⟨S.keep, S.there, S.grow, S.pre, S.new, fun a ⟨j, z⟩ => ?_⟩
    rcases own_set z with ⟨_, z⟩ | ⟨_, d, e1, e2⟩
    · exact S.owns a ⟨j, z⟩
    · cases e1; cases e2
      obtain ⟨a', e, _, _, q⟩ := t
      cases e
      exact q.symm
  · refine ⟨R.w, fun j d e => ?_, fun j d e => ?_, fun j k a z1 z2 => ?_, by rw [List.length_set, List.length_set]; exact R.len⟩
    · by_cases q : j = i
      · subst q
        rw [List.getElem?_set_self hie] at e
        cases e
        exact ⟨v, by rw [List.getElem?_set_self hi], t⟩
      · rw [List.getElem?_set_ne (Ne.symm q)] at e ⊢
        exact R.val j d e
    · by_cases q : j = i
      · subst q
        rw [List.getElem?_set_self hie] at e
        cases e
        obtain ⟨a', rfl, q1, _, _⟩ := t
        exact ⟨a', by rw [List.getElem?_set_self hi], q1⟩
      · rw [List.getElem?_set_ne (Ne.symm q)] at e ⊢
        exact R.own j d e
    · rcases own_set z1 with ⟨n1, y1⟩ | ⟨n1, d, e1, e2⟩ <;> rcases own_set z2 with ⟨n2, y2⟩ | ⟨n2, d', f1, f2⟩
      · exact R.dis j k a y1 y2
      · cases f1; cases f2
        obtain ⟨a', e, _, no, _⟩ := t
        cases e
        exact absurd ⟨j, y1⟩ no
      · cases e1; cases e2
        obtain ⟨a', e, _, no, _⟩ := t
        cases e
        exact absurd ⟨k, y2⟩ no
      · rw [n1, n2]
/-- a slot's thing is changed -/
theorem Rel.put {i : Nat} {d d' : D} {a : Addr} {o' : HO} (R : Rel B F r en st σ H) (hi : en[i]? = some (some (.o d))) (ha : σ[i]? = some (some (.ref a))) (h : ORep B F r d' o') :
    Step σ en F r H σ (en.set i (some (.o d'))) F r (upd H a o') ∧ Rel B F r (en.set i (some (.o d'))) st σ (upd H a o') := by
  obtain ⟨b, e1, q1, q2, o, q3, q4⟩ := R.own i d hi
  rw [ha] at e1
  cases e1
  have hie : i < en.length := (List.getElem?_eq_some_iff.mp hi).1
  have own' : ∀ j c, OwnI σ (en.set i (some (.o d'))) j c → OwnI σ en j c := fun j c ⟨x, z1, z2⟩ => by
    by_cases q : j = i
    · subst q; exact ⟨d, hi, z2⟩
    · rw [List.getElem?_set_ne (Ne.symm q)] at z1; exact ⟨x, z1, z2⟩
  constructor
  · refine ⟨fun c u e hr ho => ?_, fun c e => ?_, Sub.refl _, ⟨[], by simp, fun _ z => by cases z⟩, fun _ _ e => .inl e, fun c ⟨j, z⟩ => .inl ⟨j, own' j c z⟩⟩
    · have ne : c ≠ a := fun z => ho ⟨i, d, hi, z ▸ ha⟩
      rw [upd_ne ne]; exact e
    · by_cases q : c = a
      · subst q; rw [upd_same] at e; cases e
      · rw [upd_ne q] at e; exact e
  · refine ⟨⟨fun c u e => ?_, R.w.nd, R.w.len, fun n c x f1 f2 => ?_⟩, fun j x e => ?_, fun j x e => ?_, fun j k c z1 z2 => R.dis j k c (own' j c z1) (own' k c z2), by rw [List.length_set]; exact R.len⟩
    · have ne : c ≠ a := fun z => by rw [z, q1] at e; cases e
      rw [upd_ne ne]; exact R.w.sub c u e
    · obtain ⟨g1, u, g2, g3⟩ := R.w.box n c x f1 f2
      have ne : c ≠ a := fun z => q2 (z ▸ List.mem_of_getElem? f1)
      exact ⟨g1, u, by rw [upd_ne ne]; exact g2, g3⟩
    · by_cases q : j = i
      · subst q; rw [List.getElem?_set_self hie] at e; cases e
      · rw [List.getElem?_set_ne (Ne.symm q)] at e; exact R.val j x e
    · by_cases q : j = i
      · subst q
        rw [List.getElem?_set_self hie] at e
        cases e
        exact ⟨a, ha, q1, q2, o', upd_same, h⟩
      · rw [List.getElem?_set_ne (Ne.symm q)] at e
        obtain ⟨c, g1, g2, g3, u, g4, g5⟩ := R.own j x e
        have ne : c ≠ a := fun z => q (R.dis j i a ⟨x, e, z ▸ g1⟩ ⟨d, hi, ha⟩)
        exact ⟨c, g1, g2, g3, u, by rw [upd_ne ne]; exact g4, g5⟩
/-- a box is changed -/
theorem Rel.putBox {n : Nat} {d d' : D} {a : Addr} {o' : HO} (R : Rel B F r en st σ H) (hn : st[n]? = some d) (ha : r[n]? = some a) (h : ORep B F r d' o') :
    Step σ en F r H σ en F r (upd H a o') ∧ Rel B F r en (st.set n d') σ (upd H a o') := by
  obtain ⟨q1, o, q2, q3⟩ := R.w.box n a d ha hn
  have har : a ∈ r := List.mem_of_getElem? ha
  have hnl : n < st.length := (List.getElem?_eq_some_iff.mp hn).1
  constructor
  · refine ⟨fun c u e hr ho => ?_, fun c e => ?_, Sub.refl _, ⟨[], by simp, fun _ z => by cases z⟩, fun _ _ e => .inl e, fun c z => .inl z⟩
    · have ne : c ≠ a := fun z => hr (z ▸ har)
      rw [upd_ne ne]; exact e
    · by_cases q : c = a
      · subst q; rw [upd_same] at e; cases e
      · rw [upd_ne q] at e; exact e
  · refine ⟨⟨fun c u e => ?_, R.w.nd, by rw [List.length_set]; exact R.w.len, fun m c x f1 f2 => ?_⟩, R.val, fun j x e => ?_, R.dis, R.len⟩
    · have ne : c ≠ a := fun z => by rw [z, q1] at e; cases e
      rw [upd_ne ne]; exact R.w.sub c u e
    · by_cases q : m = n
      · subst q
        rw [ha] at f1; cases f1
        rw [List.getElem?_set_self hnl] at f2; cases f2
        exact ⟨q1, o', upd_same, h⟩
      · rw [List.getElem?_set_ne (Ne.symm q)] at f2
        obtain ⟨g1, u, g2, g3⟩ := R.w.box m c x f1 f2
        have ne : c ≠ a := fun z => q (by
          subst z
          have hm : m < r.length := (List.getElem?_eq_some_iff.mp f1).1
          have hn' : n < r.length := (List.getElem?_eq_some_iff.mp ha).1
          have e1 := (List.getElem?_eq_some_iff.mp f1).2
          have e2 := (List.getElem?_eq_some_iff.mp ha).2
          exact (List.getElem_inj R.w.nd).mp (e1.trans e2.symm))
        exact ⟨g1, u, by rw [upd_ne ne]; exact g2, g3⟩
    · obtain ⟨c, g1, g2, g3, u, g4, g5⟩ := R.own j x e
      have ne : c ≠ a := fun z => g3 (z ▸ har)
      exact ⟨c, g1, g2, g3, u, by rw [upd_ne ne]; exact g4, g5⟩
end
end Ev
set_option Elab.async false
set_option linter.all false
set_option autoImplicit false
set_option maxRecDepth 100000
/-! Ev, part H: targets, assignments, methods that change a list. -/
namespace Ev
open PySem PySem.Spec PyProof.Rows L2
abbrev KG := En → List D → Prop
abbrev DTG := D → En → List D → KG → KX → Prop
abbrev DTGs := List D → En → List D → KG → KX → Prop
def MonoG (t : DTG) : Prop := ∀ (d : D) (en : En) (st : List D) (k k' : KG) (e e' : KX), (∀ n s, k n s → k' n s) → (∀ x n s, e x n s → e' x n s) → t d en st k e → t d en st k' e'
def MonoGs (t : DTGs) : Prop := ∀ (d : List D) (en : En) (st : List D) (k k' : KG) (e e' : KX), (∀ n s, k n s → k' n s) → (∀ x n s, e x n s → e' x n s) → t d en st k e → t d en st k' e'
def Gpost (B : Bg) (σ : Sl) (Q : Sl → Hp → Prop) (F : Hp) (r : List Addr) (en : En) (H : Hp) : KG := fun en' st' => ∀ σ' F' r' H', Step σ en F r H σ' en' F' r' H' → Rel B F' r' en' st' σ' H' → Q σ' H'
def Xpost (B : Bg) (W : WX) (σ : Sl) (F : Hp) (r : List Addr) (en : En) (H : Hp) : KX := fun x en' st' =>
  ∀ σ' F' r' H' cls d, Step σ en F r H σ' en' F' r' H' → Rel B F' r' en' st' σ' H' → XRep B F' r' x cls d → W cls d σ' H'
def tG (B : Bg) (W : WX) (g : DTG) : TG := fun v σ H Q => ∃ F r en st d, Rel B F r en st σ H ∧ Rep B F r d v ∧ g d en st (Gpost B σ Q F r en H) (Xpost B W σ F r en H)
def tGs (B : Bg) (W : WX) (g : DTGs) : TGs := fun vs σ H Q => ∃ F r en st ds, Rel B F r en st σ H ∧ Reps B F r ds vs ∧ g ds en st (Gpost B σ Q F r en H) (Xpost B W σ F r en H)
section
variable {B : Bg} {W : WX} {σ σ1 : Sl} {F F1 : Hp} {r r1 : List Addr} {en en1 : En} {H H1 : Hp}
theorem Gpost.shift {Q : Sl → Hp → Prop} (S : Step σ en F r H σ1 en1 F1 r1 H1) {n : En} {s : List D} (h : Gpost B σ Q F r en H n s) : Gpost B σ1 Q F1 r1 en1 H1 n s := fun σ' F' r' H' U R => h σ' F' r' H' (S.trans U) R
theorem Xpost.shift (S : Step σ en F r H σ1 en1 F1 r1 H1) {x : Xn} {n : En} {s : List D} (h : Xpost B W σ F r en H x n s) : Xpost B W σ1 F1 r1 en1 H1 x n s := fun σ' F' r' H' c d U R q => h σ' F' r' H' c d (S.trans U) R q
theorem Xpost.ep {x : Xn} {n : En} {s : List D} (h : Xpost B W σ F r en H x n s) : Epost B σ W F r en H x n s := fun F' r' H' c d U R q => h σ F' r' H' c d U R q
theorem set_far {α : Type} {l : List α} {i : Nat} {x : α} (h : ¬ i < l.length) : l.set i x = l := List.set_eq_of_length_le (Nat.le_of_not_lt h)
theorem Rel.set' {st : List D} {en0 : En} {F0 H0 : Hp} {r0 : List Addr} {i : Nat} {x : T} {v : V} (S : Step σ en0 F0 r0 H0 σ en F r H) (R : Rel B F r en st σ H) (t : TRep B F r H σ en H0 en0 x v) :
    Step σ en0 F0 r0 H0 (σ.set i (some v)) (en.set i (some x)) F r H ∧ Rel B F r (en.set i (some x)) st (σ.set i (some v)) H := by
  by_cases hi : i < σ.length
  · exact Rel.set S R t hi
  · rw [set_far hi, set_far (by rw [R.len]; exact hi)]
    exact ⟨S, R⟩
end
theorem PG.weak {X : Cx} {e : Expr} {t t' : TG} (h : PG X e t) (w : ∀ v σ H Q, t' v σ H Q → t v σ H Q) : PG X e t' := ⟨fun pins s σ H v u Q I r q => h.run pins s σ H v u Q I r (w v σ H Q q)⟩
theorem PGs.weak {X : Cx} {e : List Expr} {t t' : TGs} (h : PGs X e t) (w : ∀ v σ H Q, t' v σ H Q → t v σ H Q) : PGs X e t' := ⟨fun pins s σ H v u Q I r q => h.run pins s σ H v u Q I r (w v σ H Q q)⟩
structure DG (B : Bg) (W : WX) (X : Cx) (e : Expr) (t : DTG) : Prop where
  mono : MonoG t
  run : PG X e (tG B W t)
structure DGs (B : Bg) (W : WX) (X : Cx) (e : List Expr) (t : DTGs) : Prop where
  mono : MonoGs t
  run : PGs X e (tGs B W t)
section
variable {B : Bg} {W : WX} {X : Cx} {e a b c tg : Expr} {es : List Expr} {pos : Pos} {te ta tb tc : DTE} {tA : DTA} {tt tu : DTT} {s : Stmt} {ss sr : List Stmt} {t u : DTS} {g : DTG} {gs : DTGs}
def dgName (i : Nat) : DTG := fun d en st k _ => k (en.set i (some (.v d))) st
theorem dg_name {i : Nat} (h : PG X tg (gName i)) : DG B W X tg (dgName i) := by
  refine ⟨fun _ _ _ _ _ _ _ hk _ q => hk _ _ q, PG.weak h fun v σ H Q ⟨F, r, en, st, d, R, p, q⟩ => ?_⟩
  obtain ⟨S1, R1⟩ := Rel.set' (i := i) (x := .v d) (v := v) Step.refl R p
  exact q _ F r H S1 R1
def dgNil : DTGs := fun ds en st k _ => ds = [] ∧ k en st
def dgCons (g : DTG) (gs : DTGs) : DTGs := fun ds en st k e => match ds with
  | d :: rest => g d en st (fun en1 st1 => gs rest en1 st1 k e) e
  | [] => False
theorem dgs_nil : DGs B W X [] dgNil := by
  refine ⟨fun _ _ _ _ _ _ _ hk _ q => ⟨q.1, hk _ _ q.2⟩, PGs.weak pgs_nil fun vs σ H Q ⟨F, r, en, st, ds, R, p, q1, q2⟩ => ?_⟩
  subst q1
  exact ⟨p, q2 σ F r H Step.refl R⟩
theorem dgs_cons (h : DG B W X e g) (h' : DGs B W X es gs) (hs : (assignEach (e :: es) X.env).map (·.2) = assign e X.env :: (assignEach es X.env).map (·.2)) : DGs B W X (e :: es) (dgCons g gs) := by
  refine ⟨fun ds _ _ _ _ _ _ hk he q => ?_, PGs.weak (pgs_cons h.run h'.run hs) fun vs σ H Q ⟨F, r, en, st, ds, R, p, q⟩ => ?_⟩
  · cases ds with
    | nil => exact q
    | cons d rest => exact h.mono _ _ _ _ _ _ _ (fun _ _ z => h'.mono _ _ _ _ _ _ _ hk he z) he q
  · cases ds with
    | nil => exact q.elim
    | cons d rest =>
      obtain ⟨v, t, rfl, p1, p2⟩ := p
      refine ⟨v, t, rfl, F, r, en, st, d, R, p1, h.mono _ _ _ _ _ _ _ (fun n s z => ?_) (fun _ _ _ z => z) q⟩
      intro σ' F' r' H' S R'
      exact ⟨F', r', n, s, rest, R', p2.step S, h'.mono _ _ _ _ _ _ _ (fun _ _ z => z.shift S) (fun _ _ _ z => z.shift S) z⟩
def dgTup (n : Nat) (gs : DTGs) : DTG := fun d en st k e => match d with
  | .tup ds => ds.length = n ∧ gs ds en st k e
  | _ => False
theorem dg_tup {j n : Nat} (hK : X.K = B.K) (hc : X.calm = true) (h : DGs B W X es gs) (hn : (assignEach es X.env).length = n) (hst : (assignEach es X.env).findIdx? (·.1) = none) : DG B W X (.Tuple es j pos) (dgTup n gs) := by
  refine ⟨fun d _ _ _ _ _ _ hk he q => ?_, PG.weak (pg_tup hc h.run hn hst) fun v σ H Q ⟨F, r, en, st, d, R, p, q⟩ => ?_⟩
  · unfold dgTup at q ⊢
    split at q
    · exact ⟨q.1, h.mono _ _ _ _ _ _ _ hk he q.2⟩
    · exact q.elim
  · unfold dgTup at q
    split at q
    · obtain ⟨l, vs, rfl, e1, w1⟩ := p
      exact ⟨l, vs, rfl, by rw [hK]; exact R.w.sub.sqT e1, by rw [w1.len]; exact q.1, F, r, en, st, _, R, w1, q.2⟩
    · exact q.elim
/-! ### x[i] = .., x a name of a thing of one's own or of a box -/
def putD (kvs : List (Key × D)) (k : Key) (d : D) : List (Key × D) :=
  if (kvs.any fun kv => decide (kv.1 = k)) = true then kvs.map (fun kv => if kv.1 = k then (kv.1, d) else kv) else kvs ++ [(k, d)]
def keyD : D → Option Key
  | .int i => some (.inl i)
  | .str s => some (.inr s)
  | _ => none
/-- what o[i] = d makes of a thing -/
def putIx (o : D) (i d : D) : Option D := match o with
  | .lst xs => match i with
    | .int k => (ixN xs.length k).map fun j => .lst (xs.set j d)
    | _ => none
  | .dct kvs => if kvs.length < sizeLine then (keyD i).map fun k => .dct (putD kvs k d) else none
  | _ => none
def dgSub (j : Nat) (ti : DTE) : DTG := fun d en st k e => match en[j]? with
  | some (some (.o _)) => ti en st (fun y en1 st1 => ∃ o o', en1[j]? = some (some (.o o)) ∧ putIx o y.d d = some o' ∧ k (en1.set j (some (.o o'))) st1) e
  | some (some (.v (.box n))) => ti en st (fun y en1 st1 => ∃ o o', st1[n]? = some o ∧ putIx o y.d d = some o' ∧ k en1 (st1.set n o')) e
  | _ => False
theorem repK_any {F : Hp} {r : List Addr} {k : Key} : ∀ {kvs : List (Key × D)} {ws : List (Key × V)}, RepK B F r kvs ws → (ws.any fun kv => decide (kv.1 = k)) = kvs.any fun kv => decide (kv.1 = k)
  | [], ws, h => by cases h; rfl
  | (k', d') :: kvs, ws, ⟨u, t, e, p, h⟩ => by
    subst e
    rw [List.any_cons, List.any_cons, repK_any h]
theorem repK_map {F : Hp} {r : List Addr} {k : Key} {d : D} {v : V} (q : Rep B F r d v) : ∀ {kvs : List (Key × D)} {ws : List (Key × V)}, RepK B F r kvs ws → RepK B F r (kvs.map fun kv => if kv.1 = k then (kv.1, d) else kv) (ws.map fun kv => if kv.1 = k then (kv.1, v) else kv)
  | [], ws, h => by cases h; rfl
  | (k', d') :: kvs, ws, ⟨u, t, e, p, h⟩ => by
    subst e
    rw [List.map_cons, List.map_cons]
    by_cases hk : k' = k
    · rw [if_pos hk, if_pos hk]; exact ⟨v, _, rfl, q, repK_map q h⟩
    · rw [if_neg hk, if_neg hk]; exact ⟨u, _, rfl, p, repK_map q h⟩
theorem repK_app {F : Hp} {r : List Addr} {k : Key} {d : D} {v : V} (q : Rep B F r d v) : ∀ {kvs : List (Key × D)} {ws : List (Key × V)}, RepK B F r kvs ws → RepK B F r (kvs ++ [(k, d)]) (ws ++ [(k, v)])
  | [], ws, h => by cases h; exact ⟨v, [], rfl, q, rfl⟩
  | (k', d') :: kvs, ws, ⟨u, t, e, p, h⟩ => by
    subst e
    exact ⟨u, _, rfl, p, repK_app q h⟩
theorem repK_put {F : Hp} {r : List Addr} {k : Key} {d : D} {v : V} (q : Rep B F r d v) {kvs : List (Key × D)} {ws : List (Key × V)} (h : RepK B F r kvs ws) : RepK B F r (putD kvs k d) (putK ws k v) := by
  unfold putD putK
  rw [repK_any h]
  split
  · exact repK_map q h
  · exact repK_app q h
def rSetD : TSet := fun o i v H Q => ∃ a H', o = .ref a ∧ DPut H a i v H' ∧ Q H'
theorem set_dict (hu : X.A.units + 1 < cLine) : PSet X rSetD := by
  intro pins s σ H o i v ov iv u Q I r1 r2 r3 ⟨a, H', e, g, q⟩
  subst e
  obtain rfl : ov = Value.ref a := r1
  exact d_setItem hu I g r2 r3 fun s4 I4 => ⟨H', I4, q⟩
theorem PSet.or {t t' : TSet} (h : PSet X t) (h' : PSet X t') : PSet X fun o i v H Q => t o i v H Q ∨ t' o i v H Q := fun pins s σ H o i v ov iv u Q I r1 r2 r3 q => by
  rcases q with q | q
  · exact h pins s σ H o i v ov iv u Q I r1 r2 r3 q
  · exact h' pins s σ H o i v ov iv u Q I r1 r2 r3 q
theorem repK_len {F : Hp} {r : List Addr} : ∀ {ks : List (Key × D)} {ws : List (Key × V)}, RepK B F r ks ws → ws.length = ks.length
  | [], ws, h => by cases h; rfl
  | (k, d) :: ks, ws, ⟨v, t, e, q, h⟩ => by rw [e, List.length_cons, List.length_cons, repK_len h]
theorem Reps.set {F : Hp} {r : List Addr} {d : D} {v : V} (q : Rep B F r d v) : ∀ {ds : List D} {vs : List V} (j : Nat), Reps B F r ds vs → Reps B F r (ds.set j d) (vs.set j v)
  | [], vs, j, h => by cases h; rfl
  | x :: ds, vs, 0, ⟨u, t, e, p, h⟩ => ⟨v, t, by rw [e]; rfl, q, h⟩
  | x :: ds, vs, j + 1, ⟨u, t, e, p, h⟩ => ⟨u, t.set j v, by rw [e]; rfl, p, Reps.set q j h⟩
theorem keyD_rep {F : Hp} {r : List Addr} {i : D} {k : Key} {v : V} (h : keyD i = some k) (q : Rep B F r i v) : v = kV k := by
  cases i <;> simp only [keyD, reduceCtorEq, Option.some.injEq] at h <;> subst h <;> exact q
theorem put_ok {F : Hp} {r : List Addr} {o o' i d : D} {x : HO} {a : Addr} {iv v : V} {H : Hp} {Q : Hp → Prop} (ho : ORep B F r o x) (ha : H a = some x) (hi : Rep B F r i iv) (hd : Rep B F r d v) (h : putIx o i d = some o') (hq : ∀ x', ORep B F r o' x' → Q (upd H a x')) :
    rSetL (.ref a) iv v H Q ∨ rSetD (.ref a) iv v H Q := by
  unfold putIx at h
  split at h
  · split at h
    · obtain ⟨vs, rfl, w⟩ := ho
      obtain ⟨j, h1, rfl⟩ := Option.map_eq_some_iff.mp h
      cases hi
      exact .inl ⟨a, vs, _, j, rfl, rfl, ha, by rw [w.len]; exact h1, hq _ ⟨_, rfl, w.set hd j⟩⟩
    · cases h
  · obtain ⟨vs, rfl, w⟩ := ho
    split at h
    · rename_i hl
      obtain ⟨k, h1, rfl⟩ := Option.map_eq_some_iff.mp h
      have e := keyD_rep h1 hi
      subst e
      exact .inr ⟨a, _, rfl, DPut.k ha (by rw [repK_len w]; exact hl), hq _ ⟨_, rfl, repK_put hd w⟩⟩
    · cases h
  · cases h
theorem dg_sub {j : Nat} {i : Expr} {x : Str} {p : Pos} {ti : DTE} (hx : PE X (.Name x p) (tVar j)) (hi : DE B W X i ti) (hu : X.A.units + 1 < cLine) (hsl : ∀ a b c p, i ≠ .Slice a b c p) : DG B W X (.Subscript (.Name x p) i pos) (dgSub j ti) := by
  refine ⟨fun d en _ _ _ _ _ hk he q => ?_, PG.weak (pg_sub hx hi.run (PSet.or set_list (set_dict hu)) (by cases i <;> first | (intro _; rfl) | exact absurd rfl (hsl _ _ _ _))) fun v σ H Q ⟨F, r, en, st, d, R, p, q⟩ => ?_⟩
  · unfold dgSub at q ⊢
    split at q
    · exact hi.mono _ _ _ _ _ _ (fun y n s ⟨o, o', e1, e2, z⟩ => ⟨o, o', e1, e2, hk _ _ z⟩) he q
    · exact hi.mono _ _ _ _ _ _ (fun y n s ⟨o, o', e1, e2, z⟩ => ⟨o, o', e1, e2, hk _ _ z⟩) he q
    · exact q.elim
  · unfold dgSub at q
    split at q
    · rename_i d0 hj
      obtain ⟨a, e1, _⟩ := R.own j d0 hj
      refine ⟨.ref a, e1, ?_⟩
      refine at_bind (k := fun y _ en1 st1 => ∃ o o', en1[j]? = some (some (.o o)) ∧ putIx o y d = some o' ∧ Gpost B σ Q F r en H (en1.set j (some (.o o'))) st1) hi.mono R (hi.mono _ _ _ _ _ _ (fun _ _ _ z => z) (fun _ _ _ z => z.ep) q) fun y en1 st1 F1 r1 H1 iv S1 R1 rep1 ⟨o, o', h1, h2, h3⟩ => ?_
      obtain ⟨a', f1, _, _, x0, f2, f3⟩ := R1.own j o h1
      rw [e1] at f1; cases f1
      refine put_ok f3 f2 rep1 (p.step S1) h2 fun x' hx' => ?_
      obtain ⟨S2, R2⟩ := R1.put h1 e1 hx'
      exact h3 σ F1 r1 _ (S1.trans S2) R2
    · rename_i n hj
      obtain ⟨w, e1, a, e2, rfl⟩ := R.val j _ hj
      refine ⟨.ref a, e1, ?_⟩
      refine at_bind (k := fun y _ en1 st1 => ∃ o o', st1[n]? = some o ∧ putIx o y d = some o' ∧ Gpost B σ Q F r en H en1 (st1.set n o')) hi.mono R (hi.mono _ _ _ _ _ _ (fun _ _ _ z => z) (fun _ _ _ z => z.ep) q) fun y en1 st1 F1 r1 H1 iv S1 R1 rep1 ⟨o, o', h1, h2, h3⟩ => ?_
      have e2' := S1.prx.get e2
      obtain ⟨_, x0, f2, f3⟩ := R1.w.box n a o e2' h1
      refine put_ok f3 f2 rep1 (p.step S1) h2 fun x' hx' => ?_
      obtain ⟨S2, R2⟩ := R1.putBox h1 e2' hx'
      exact h3 σ F1 r1 _ (S1.trans S2) R2
    · exact q.elim
/-! ### assignments -/
def dSet (i : Nat) (te : DTE) : DTS := fun en st P => te en st (fun x en1 st1 => P.nx (en1.set i (some x)) st1) P.ex
theorem dSet_mono {i : Nat} (m : MonoE te) : MonoS (dSet i te) := fun _ _ _ _ h q => m _ _ _ _ _ _ (fun _ _ _ z => h.nx _ _ z) h.ex q
theorem set_read {i : Nat} {D : Ends} {σ : Sl} {H : Hp} (m : MonoE te) (h : tS B W (dSet i te) D σ H) : tAsg (tM B W te) (gName i) D σ H := by
  obtain ⟨F, r, en, st, R, q⟩ := h
  refine ⟨F, r, en, st, R, m _ _ _ _ _ _ (fun x n s z F' r' H' v S R' t => ?_) (fun _ _ _ z => ex_of z) q⟩
  obtain ⟨S1, R1⟩ := Rel.set' (i := i) S R' t
  exact z _ F' r' H' S1 R1
theorem ds_set {i : Nat} {x : Str} {p : Pos} (hN : X.N.Nodup) (hi : X.N[i]? = some x) (hx : Loc X.env.scope x) (h : DE B W X e te) (hs : swapsWith e (some (.Name x p)) pos.line X.env = pure false) (hf : X.fn x = true ∨ X.env.scope.names.lookup x = some .local) :
    DS B W X (.Assign [.Name x p] e pos) (dSet i te) := ⟨dSet_mono h.mono, PS.weak (ps_set hN hi hx h.run hs hf) fun D σ H q => set_read h.mono q⟩
def dAsg (te : DTE) (g : DTG) : DTS := fun en st P => te en st (fun x en1 st1 => g x.d en1 st1 P.nx P.ex) P.ex
theorem ds_asg (h : DE B W X e te) (hg : DG B W X tg g) (hs : swapsWithSole [tg] e pos.line X.env = pure false) (hw : swappedStores [tg] e X.env = pure none) (h1 : (assignEach [tg] X.env).map (·.2) = [assign tg X.env]) : DS B W X (.Assign [tg] e pos) (dAsg te g) := by
  refine ⟨fun _ _ _ _ h' q => h.mono _ _ _ _ _ _ (fun _ _ _ z => hg.mono _ _ _ _ _ _ _ h'.nx h'.ex z) h'.ex q, PS.weak (ps_asg h.run hg.run hs hw h1) fun D σ H ⟨F, r, en, st, R, q⟩ => ?_⟩
  refine at_bind (k := fun d _ en1 st1 => g d en1 st1 (postOf B W D σ F r en H).nx (postOf B W D σ F r en H).ex) h.mono R (h.mono _ _ _ _ _ _ (fun _ _ _ z => z) (fun _ _ _ z => ex_of z) q) fun d en1 st1 F1 r1 H1 v S1 R1 rep1 h1 => ?_
  exact ⟨F1, r1, en1, st1, d, R1, rep1, hg.mono _ _ _ _ _ _ _ (fun n s z => (postOf.shift (W := W) S1).nx n s z) (fun x n s z => (postOf.shift S1).ex x n s z) h1⟩
/-! ### x += e, x -= e (whole numbers) -/
def dAug (i : Nat) (f : Int → Int → Int) (te : DTE) : DTS := fun en st P => match en[i]? with
  | some (some (.v (.int a))) => te en st (fun y en1 st1 => ∃ b, y.d = .int b ∧ P.nx (en1.set i (some (.v (.int (f a b))))) st1) P.ex
  | _ => False
theorem ds_aug {i : Nat} {x : Str} {p : Pos} {op : Operator} {f : Int → Int → Int} (hN : X.N.Nodup) (hi : X.N[i]? = some x) (hx : Loc X.env.scope x) (h : DE B W X e te) (ho : PIp X op (ipI f)) (hf : X.fn x = true ∨ X.env.scope.names.lookup x = some .local) :
    DS B W X (.AugAssign (.Name x p) op e pos) (dAug i f te) := by
  refine ⟨fun en _ _ _ h' q => ?_, PS.weak (ps_aug hN hi hx h.run ho hf) fun D σ H ⟨F, r, en, st, R, q⟩ => ?_⟩
  · unfold dAug at q ⊢
    split at q
    · exact h.mono _ _ _ _ _ _ (fun _ _ _ ⟨b, e1, z⟩ => ⟨b, e1, h'.nx _ _ z⟩) h'.ex q
    · exact q.elim
  · unfold dAug at q
    split at q
    · rename_i n hj
      obtain ⟨v, e1, rfl⟩ := R.val i _ hj
      refine ⟨_, e1, ?_⟩
      refine at_bind (k := fun d _ en1 st1 => ∃ b, d = .int b ∧ (postOf B W D σ F r en H).nx (en1.set i (some (.v (.int (f n b))))) st1) h.mono R (h.mono _ _ _ _ _ _ (fun _ _ _ z => z) (fun _ _ _ z => ex_of z) q) fun d en1 st1 F1 r1 H1 v S1 R1 rep1 ⟨b, hb, h1⟩ => ?_
      subst hb
      cases rep1
      refine ⟨n, b, rfl, rfl, ?_⟩
      obtain ⟨S2, R2⟩ := Rel.set' (i := i) (x := .v (.int (f n b))) (v := .int (f n b)) S1 R1 rfl
      exact h1 _ F1 r1 H1 S2 R2
    · exact q.elim
/-! ### x.append(e), x.extend(e) -/
def dApp (j : Nat) (f : List D → D → Option (List D)) (te : DTE) : DTS := fun en st P => match en[j]? with
  | some (some (.o (.lst _))) => te en st (fun y en1 st1 => ∃ xs ys, en1[j]? = some (some (.o (.lst xs))) ∧ f xs y.d = some ys ∧ P.nx (en1.set j (some (.o (.lst ys)))) st1) P.ex
  | _ => False
def fApp : List D → D → Option (List D) := fun xs d => if xs.length < sizeLine then some (xs ++ [d]) else none
def fExt : List D → D → Option (List D) := fun xs d => match d with
  | .lst ys => if xs.length + ys.length ≤ sizeLine then some (xs ++ ys) else none
  | _ => none
theorem dApp_mono {j : Nat} {f : List D → D → Option (List D)} (m : MonoE te) : MonoS (dApp j f te) := fun en _ _ _ h' q => by
  unfold dApp at q ⊢
  split at q
  · exact m _ _ _ _ _ _ (fun _ _ _ ⟨xs, ys, e1, e2, z⟩ => ⟨xs, ys, e1, e2, h'.nx _ _ z⟩) h'.ex q
  · exact q.elim
theorem app_read {j : Nat} {f : List D → D → Option (List D)} {rr : V → List V → Hp → VK → Prop} {D : Ends} {σ : Sl} {H : Hp} (hs : ∀ x p, e ≠ .Starred x p) (m : MonoE te)
    (hf : ∀ (F : Hp) (r : List Addr) (H : Hp) (l : Addr) (xs : List Ev.D) (d : Ev.D) (ys : List Ev.D) (vs : List V) (v : V) (Q : VK), Sub F H → H l = some (.lst vs) → Reps B F r xs vs → Rep B F r d v → f xs d = some ys → (∀ us, Reps B F r ys us → Q .non (upd H l (.lst us))) → rr (.ref l) [v] H Q)
    (h : tS B W (dApp j f te) D σ H) : tDrop (tBM X.K "list" rr (tVar j) (tMA B W (dCons te dNil))) D σ H := by
  obtain ⟨F, r, en, st, R, q⟩ := h
  unfold dApp at q
  split at q
  · rename_i xs0 hj
    obtain ⟨a, e1, _, _, o0, f2, vs0, rfl, _⟩ := R.own j _ hj
    refine ⟨.ref a, e1, .inl ⟨rfl, vs0, SqL.of f2⟩, ?_⟩
    refine at_bindA (k := fun ds en1 st1 => ∃ d xs ys, ds = [d] ∧ en1[j]? = some (some (.o (.lst xs))) ∧ f xs d = some ys ∧ (postOf B W D σ F r en H).nx (en1.set j (some (.o (.lst ys)))) st1) (dCons_mono m dNil_mono) R (m _ _ _ _ _ _ (fun y n s ⟨xs, ys, z1, z2, z3⟩ => ⟨y.d, xs, ys, rfl, z1, z2, z3⟩) (fun _ _ _ z => ex_of z) q) fun ds en1 st1 F1 r1 H1 vs S1 R1 rep1 ⟨d, xs, ys, e3, h1, h2, h3⟩ => ?_
    subst e3
    obtain ⟨v, rfl, rd⟩ := reps1 rep1
    obtain ⟨a', g1, _, _, o1, g2, ws, rfl, w⟩ := R1.own j _ h1
    rw [e1] at g1; cases g1
    refine hf F1 r1 H1 a xs d ys ws v _ R1.w.sub g2 w rd h2 fun us hus => ?_
    obtain ⟨S2, R2⟩ := R1.put h1 e1 (d' := .lst ys) (o' := .lst us) ⟨us, rfl, hus⟩
    exact h3 σ F1 r1 _ (S1.trans S2) R2
  · exact q.elim
theorem app_f {F : Hp} {r : List Addr} {H : Hp} {l : Addr} {xs : List D} {d : D} {ys : List D} {vs : List V} {v : V} {Q : VK} (hs : Sub F H) (hl : H l = some (.lst vs)) (w : Reps B F r xs vs) (p : Rep B F r d v) (e : fApp xs d = some ys) (q : ∀ us, Reps B F r ys us → Q .non (upd H l (.lst us))) : rAppend (.ref l) [v] H Q := by
  unfold fApp at e
  split at e
  · rename_i hz
    cases e
    exact ⟨l, vs, v, rfl, rfl, hl, by rw [w.len]; exact hz, q _ (Reps.app (show Reps B F r [d] [v] from ⟨v, [], rfl, p, rfl⟩) w)⟩
  · cases e
theorem ext_f {F : Hp} {r : List Addr} {H : Hp} {l : Addr} {xs : List D} {d : D} {ys : List D} {vs : List V} {v : V} {Q : VK} (hs : Sub F H) (hl : H l = some (.lst vs)) (w : Reps B F r xs vs) (p : Rep B F r d v) (e : fExt xs d = some ys) (q : ∀ us, Reps B F r ys us → Q .non (upd H l (.lst us))) : rExtend (.ref l) [v] H Q := by
  unfold fExt at e
  split at e
  · obtain ⟨b, us, rfl, f1, w2⟩ := p
    split at e
    · rename_i hz
      cases e
      exact ⟨l, b, vs, us, rfl, rfl, hl, hs _ _ f1, by rw [w.len, w2.len]; exact hz, q _ (Reps.app w2 w)⟩
    · cases e
  · cases e
theorem ds_append {j : Nat} {x : Str} {p ap cp : Pos} (hx : PE X (.Name x p) (tVar j)) (h : DE B W X e te) (hs : ∀ x p, e ≠ .Starred x p) (hline : (ap.endLine == cp.line) = true) : DS B W X (.Expr (.Call (.Attribute (.Name x p) "append" ap) [e] [] cp) pos) (dApp j fApp te) := by
  have ha := da_cons h (da_nil (B := B) (W := W) (X := X)) hs
  refine ⟨dApp_mono h.mono, PS.weak (ps_expr (pe_bm PySem.F.plainAttrs_list PySem.F.slot_list_append PySem.F.type_list_append mt_append hx ha.run rfl ?_ hline (notStar_each hs) rfl) rfl) fun D σ H q => app_read hs h.mono (fun F r H l xs d ys vs v Q => app_f) q⟩
  rw [notStar_each hs]
  rfl
theorem ds_extend {j : Nat} {x : Str} {p ap cp : Pos} (hx : PE X (.Name x p) (tVar j)) (h : DE B W X e te) (hs : ∀ x p, e ≠ .Starred x p) (hline : (ap.endLine == cp.line) = true) : DS B W X (.Expr (.Call (.Attribute (.Name x p) "extend" ap) [e] [] cp) pos) (dApp j fExt te) := by
  have ha := da_cons h (da_nil (B := B) (W := W) (X := X)) hs
  refine ⟨dApp_mono h.mono, PS.weak (ps_expr (pe_bm PySem.F.plainAttrs_list PySem.F.slot_list_extend PySem.F.type_list_extend mt_extend hx ha.run rfl ?_ hline (notStar_each hs) rfl) rfl) fun D σ H q => app_read hs h.mono (fun F r H l xs d ys vs v Q => ext_f) q⟩
  rw [notStar_each hs]
  rfl
end
end Ev
set_option Elab.async false
set_option linter.all false
set_option autoImplicit false
set_option maxRecDepth 100000
/-! Ev, part I: what is walked, for, comprehensions. -/
namespace Ev
open PySem PySem.Spec PyProof.Rows L2 RZ
/-- J yields the data ds, one after another, whatever is laid meanwhile -/
def Wk (B : Bg) (F : Hp) (r : List Addr) (J : It) (ds : List D) : Prop := ∀ (i : Nat) (H : Hp), Sub F H → (ds.length ≤ i → J.stop i H) ∧ ∀ d, ds[i]? = some d → J.go i H ∧ ∀ x H', J.yld i H x H' →
  (H' = H ∧ Rep B F r d x) ∨ ∃ p vs es, H p = none ∧ H' = upd H p (.tup vs) ∧ x = .ref p ∧ d = .tup es ∧ Reps B F r es vs
abbrev DTI := En → List D → KA → KX → Prop
def tI (B : Bg) (W : WX) (t : DTI) : TI := fun σ H R => ∃ F r en st, Rel B F r en st σ H ∧
  t en st (fun ds en' st' => ∀ F' r' H' J, Step σ en F r H σ en' F' r' H' → Rel B F' r' en' st' σ H' → Wk B F' r' J ds → R J H') (Epost B σ W F r en H)
structure DI (B : Bg) (W : WX) (X : Cx) (tg e : Expr) (t : DTI) : Prop where
  mono : MonoA t
  run : PI X tg e (tI B W t)
theorem PI.weak {X : Cx} {tg e : Expr} {t t' : TI} (h : PI X tg e t) (w : ∀ σ H Q, t' σ H Q → t σ H Q) : PI X tg e t' := ⟨fun pins s σ H Q I q => h.run pins s σ H Q I (w σ H Q q)⟩
section
variable {B : Bg} {F : Hp} {r : List Addr}
theorem wk_list {a : Addr} {vs : List V} {ds : List D} (e : SqL B.K F a vs) (w : Reps B F r ds vs) : Wk B F r (Itl B.K a) ds := fun i H s => by
  have q : SqL B.K H a vs := s.sqL e
  refine ⟨fun h => ⟨vs, q, by rw [w.len]; exact h⟩, fun d hd => ?_⟩
  obtain ⟨v, e1, e2⟩ := w.get hd
  refine ⟨⟨vs, v, q, e1⟩, fun x H' ⟨e3, e4⟩ => .inl ⟨e3, ?_⟩⟩
  have e5 := e4 vs q
  rw [e1] at e5
  cases e5
  exact e2
theorem wk_tup {a : Addr} {vs : List V} {ds : List D} (e : SqT B.K F a vs) (w : Reps B F r ds vs) : Wk B F r (Itt B.K a) ds := fun i H s => by
  have q : SqT B.K H a vs := s.sqT e
  refine ⟨fun h => ⟨vs, q, by rw [w.len]; exact h⟩, fun d hd => ?_⟩
  obtain ⟨v, e1, e2⟩ := w.get hd
  refine ⟨⟨vs, v, q, e1⟩, fun x H' ⟨e3, e4⟩ => .inl ⟨e3, ?_⟩⟩
  have e5 := e4 vs q
  rw [e1] at e5
  cases e5
  exact e2
def rangeD (lo c : Int) (n : Nat) : List D := (List.range n).map fun i => .int (lo + (i : Nat) * c)
theorem wk_rangeC (lo c : Int) (n : Nat) : Wk B F r (Itc lo c n) (rangeD lo c n) := fun i H s => by
  unfold rangeD
  refine ⟨fun h => by rw [List.length_map, List.length_range] at h; exact h, fun d hd => ?_⟩
  rw [List.getElem?_map] at hd
  obtain ⟨j, h1, rfl⟩ := Option.map_eq_some_iff.mp hd
  have hlt := (List.getElem?_eq_some_iff.mp h1).1
  have hj := (List.getElem?_eq_some_iff.mp h1).2
  rw [List.getElem_range] at hj
  subst hj
  rw [List.length_range] at hlt
  exact ⟨hlt, fun x H' ⟨e1, e2⟩ => .inl ⟨e1, e2⟩⟩
theorem wk_range (lo : Int) (n : Nat) : Wk B F r (Itr lo n) (rangeD lo 1 n) := fun i H s => by
  unfold rangeD
  refine ⟨fun h => by rw [List.length_map, List.length_range] at h; exact h, fun d hd => ?_⟩
  rw [List.getElem?_map] at hd
  obtain ⟨j, h1, rfl⟩ := Option.map_eq_some_iff.mp hd
  have hlt := (List.getElem?_eq_some_iff.mp h1).1
  have hj := (List.getElem?_eq_some_iff.mp h1).2
  rw [List.getElem_range] at hj
  subst hj
  rw [List.length_range] at hlt
  exact ⟨hlt, fun x H' ⟨e1, e2⟩ => .inl ⟨e1, by rw [Int.mul_one]; exact e2⟩⟩
def charsD (z : Str) : List D := z.cps.toList.map fun c => .str ⟨#[c]⟩
theorem wk_str (z : Str) : Wk B F r (Its z) (charsD z) := fun i H s => by
  unfold charsD
  refine ⟨fun h => by rw [List.length_map, Array.length_toList] at h; exact h, fun d hd => ?_⟩
  rw [List.getElem?_map] at hd
  obtain ⟨c, h1, rfl⟩ := Option.map_eq_some_iff.mp hd
  have hlt := (List.getElem?_eq_some_iff.mp h1).1
  rw [Array.length_toList] at hlt
  refine ⟨hlt, fun x H' ⟨e1, c', e2, e3⟩ => .inl ⟨e1, ?_⟩⟩
  rw [Array.getElem?_toList] at h1
  rw [h1] at e2
  cases e2
  exact e3
def zipD (xs ys : List D) : List D := List.zipWith (fun x y => .tup [x, y]) xs ys
theorem zipD_get {xs ys : List D} {i : Nat} {d : D} (h : (zipD xs ys)[i]? = some d) : ∃ x y, xs[i]? = some x ∧ ys[i]? = some y ∧ d = .tup [x, y] := by
  unfold zipD at h
  rw [List.getElem?_zipWith] at h
  split at h
  · rename_i x y h1 h2
    exact ⟨x, y, h1, h2, (Option.some.inj h).symm⟩
  · cases h
theorem wk_zip {a b : Addr} {vs us : List V} {ds es : List D} (e : SqL B.K F a vs) (w : Reps B F r ds vs) (e' : SqL B.K F b us) (w' : Reps B F r es us) : Wk B F r (Itz B.K a b) (zipD ds es) := fun i H s => by
  have q : SqL B.K H a vs := s.sqL e
  have q' : SqL B.K H b us := s.sqL e'
  refine ⟨fun h => ⟨vs, us, q, q', ?_⟩, fun d hd => ?_⟩
  · unfold zipD at h
    rw [List.length_zipWith] at h
    rw [w.len, w'.len]
    omega
  · obtain ⟨x, y, h1, h2, rfl⟩ := zipD_get hd
    obtain ⟨v, f1, f2⟩ := w.get h1
    obtain ⟨u, g1, g2⟩ := w'.get h2
    refine ⟨⟨vs, us, v, u, q, q', f1, g1⟩, fun z H' ⟨T, x', y', e1, e2, e3, e4, e5⟩ => .inr ⟨T, [x', y'], [x, y], e2, e3, e1, rfl, ?_⟩⟩
    have k1 := e4 vs q
    have k2 := e5 us q'
    rw [f1] at k1; rw [g1] at k2
    cases k1; cases k2
    exact ⟨_, _, rfl, f2, _, _, rfl, g2, rfl⟩
theorem wk_zipT {a b : Addr} {vs us : List V} {ds es : List D} (e : SqT B.K F a vs) (w : Reps B F r ds vs) (e' : SqT B.K F b us) (w' : Reps B F r es us) : Wk B F r (ItzT B.K a b) (zipD ds es) := fun i H s => by
  have q : SqT B.K H a vs := s.sqT e
  have q' : SqT B.K H b us := s.sqT e'
  refine ⟨fun h => ⟨vs, us, q, q', ?_⟩, fun d hd => ?_⟩
  · unfold zipD at h
    rw [List.length_zipWith] at h
    rw [w.len, w'.len]
    omega
  · obtain ⟨x, y, h1, h2, rfl⟩ := zipD_get hd
    obtain ⟨v, f1, f2⟩ := w.get h1
    obtain ⟨u, g1, g2⟩ := w'.get h2
    refine ⟨⟨vs, us, v, u, q, q', f1, g1⟩, fun z H' ⟨T, x', y', e1, e2, e3, e4, e5⟩ => .inr ⟨T, [x', y'], [x, y], e2, e3, e1, rfl, ?_⟩⟩
    have k1 := e4 vs q
    have k2 := e5 us q'
    rw [f1] at k1; rw [g1] at k2
    cases k1; cases k2
    exact ⟨_, _, rfl, f2, _, _, rfl, g2, rfl⟩
def enumD (xs : List D) : List D := List.zipWith (fun i x => .tup [.int (i : Nat), x]) (List.range xs.length) xs
theorem enumD_get {xs : List D} {i : Nat} {d : D} (h : (enumD xs)[i]? = some d) : ∃ x, xs[i]? = some x ∧ d = .tup [.int (i : Nat), x] := by
  unfold enumD at h
  rw [List.getElem?_zipWith] at h
  split at h
  · rename_i j y h1 h2
    have hj := (List.getElem?_eq_some_iff.mp h1).2
    rw [List.getElem_range] at hj
    subst hj
    exact ⟨y, h2, (Option.some.inj h).symm⟩
  · cases h
theorem wk_enum {a : Addr} {vs : List V} {ds : List D} (e : SqL B.K F a vs) (w : Reps B F r ds vs) : Wk B F r (Ite B.K a) (enumD ds) := fun i H s => by
  have q : SqL B.K H a vs := s.sqL e
  refine ⟨fun h => ⟨vs, q, ?_⟩, fun d hd => ?_⟩
  · unfold enumD at h
    rw [List.length_zipWith, List.length_range] at h
    rw [w.len]
    omega
  · obtain ⟨x, h1, rfl⟩ := enumD_get hd
    obtain ⟨v, f1, f2⟩ := w.get h1
    refine ⟨⟨vs, v, q, f1⟩, fun z H' ⟨T, x', e1, e2, e3, e4⟩ => .inr ⟨T, _, [.int (i : Nat), x], e2, e3, e1, rfl, ?_⟩⟩
    have k1 := e4 vs q
    rw [f1] at k1
    cases k1
    exact ⟨_, _, rfl, rfl, _, _, rfl, f2, rfl⟩
end
section
variable {B : Bg} {W : WX} {X : Cx} {e a b c tg : Expr} {es : List Expr} {pos : Pos} {te ta tb tc : DTE} {tA : DTA} {tt tu : DTT} {s : Stmt} {ss sr : List Stmt} {t u : DTS} {g : DTG} {gs : DTGs} {ti : DTI}
/-- the items of a list, a tuple, a text -/
def itemsOf : D → (List D → Prop) → Prop
  | .lst xs, k => k xs
  | .tup xs, k => k xs
  | .scr ns, k => k (ns.map D.int)
  | .str z, k => k (charsD z)
  | _, _ => False
theorem itemsOf_mono {d : D} {k k' : List D → Prop} (h : ∀ x, k x → k' x) (q : itemsOf d k) : itemsOf d k' := by
  cases d <;> simp only [itemsOf] at q ⊢ <;> first | exact h _ q | exact q
/-- a list, a tuple or a text by its value -/
def iAny (K : PySem.W.Frag) (tl : TE) : TI := fun σ H R => tl σ H fun x H1 => (∃ a, x = .ref a ∧ (∃ xs, SqL K H1 a xs) ∧ R (Itl K a) H1) ∨ (∃ a, x = .ref a ∧ (∃ xs, SqT K H1 a xs) ∧ R (Itt K a) H1) ∨ ∃ z, x = .str z ∧ R (Its z) H1
theorem pi_any {l : Expr} {tl : TE} (hl : PE X l tl) : PI X tg l (iAny X.K tl) := by
  constructor
  intro pins s σ H R I h
  refine thn (hl.run pins s σ H _ I h) ?_
  rintro v s1 ⟨x, H1, I1, r1, q1⟩
  rcases q1 with ⟨p, rfl, ⟨xs, hq⟩, q⟩ | ⟨p, rfl, ⟨xs, hq⟩, q⟩ | ⟨z, rfl, q⟩
  · cases r1
    obtain ⟨its, _, pl, _⟩ := I1.list hq
    refine wpAny_pyIter_list pl.isList ⟨_, [s1.heap.objs.size], _, _, H1, rfl, I1.kept (t' := s1.toks) (fun b o e => Heap.get?_push_of_some _ e), turn_list p _, ⟨_, Heap.get?_push_size _ rfl, rfl, rfl⟩, ?_, q⟩
    intro b hb
    rw [List.mem_singleton] at hb
    rw [hb]
    exact I1.fpOk (Nat.le_refl _) (I1.hok.fresh (Nat.le_refl _))
  · cases r1
    obtain ⟨its, _, pl, _⟩ := I1.tuple hq
    refine wpAny_pyIter_tuple (show s1.heap.IsTuple p its.toArray from pl) ⟨_, [s1.heap.objs.size], _, _, H1, rfl, I1.kept (t' := s1.toks) (fun b o e => Heap.get?_push_of_some _ e), turn_tuple p _, ⟨_, Heap.get?_push_size _ rfl, rfl, rfl⟩, ?_, q⟩
    intro b hb
    rw [List.mem_singleton] at hb
    rw [hb]
    exact I1.fpOk (Nat.le_refl _) (I1.hok.fresh (Nat.le_refl _))
  · obtain ⟨tk, rfl⟩ := r1
    cases ha : z.cps.all (· < 128) with
    | false => exact wpAny_pyIter_wide ha (pi_one (tk := s1.toks) I1 _ (turn_str _ z tk "str_iterator" (.inr rfl)) ⟨_, Heap.get?_push_size _ rfl, rfl, rfl⟩ q)
    | true => exact wpAny_pyIter_ascii ha (pi_one (tk := s1.toks) I1 _ (turn_str _ z tk "str_ascii_iterator" (.inl rfl)) ⟨_, Heap.get?_push_size _ rfl, rfl, rfl⟩ q)
def dAny (te : DTE) : DTI := fun en st k e => te en st (fun x en1 st1 => itemsOf x.d fun ds => k ds en1 st1) e
theorem di_any (hK : X.K = B.K) (h : DE B W X e te) : DI B W X tg e (dAny te) := by
  refine ⟨fun _ _ _ _ _ _ hk he q => h.mono _ _ _ _ _ _ (fun _ _ _ z => itemsOf_mono (fun _ y => hk _ _ _ y) z) he q, PI.weak (pi_any h.run) fun σ H R' ⟨F, r, en, st, R, q⟩ => ?_⟩
  refine at_bind (k := fun d _ en1 st1 => itemsOf d fun ds => ∀ F' r' H' J, Step σ en F r H σ en1 F' r' H' → Rel B F' r' en1 st1 σ H' → Wk B F' r' J ds → R' J H') h.mono R q fun d en1 st1 F1 r1 H1 v S1 R1 rep1 h1 => ?_
  rw [hK]
  cases d <;> simp only [itemsOf] at h1
  · cases rep1
    exact .inr (.inr ⟨_, rfl, h1 F1 r1 H1 _ S1 R1 (wk_str _)⟩)
  · obtain ⟨l, vs, rfl, e1, w⟩ := rep1
    exact .inr (.inl ⟨l, rfl, ⟨vs, R1.w.sub.sqT e1⟩, h1 F1 r1 H1 _ S1 R1 (wk_tup e1 w)⟩)
  · obtain ⟨l, vs, rfl, e1, w⟩ := rep1
    exact .inl ⟨l, rfl, ⟨vs, SqL.of (R1.w.sub _ _ e1)⟩, h1 F1 r1 H1 _ S1 R1 (wk_list (SqL.of e1) w)⟩
  · obtain ⟨l, rfl, e1⟩ := rep1
    exact .inl ⟨l, rfl, ⟨_, R1.w.sub.sqL e1⟩, h1 F1 r1 H1 _ S1 R1 (wk_list e1 (reps_ints _))⟩
/-- range(n), range(a, b), range(a, b, c) -/
def rgOk (i : Int) : Prop := -(2 ^ 62) ≤ i ∧ i < 2 ^ 62
def dRange1 (ta : DTA) : DTI := fun en st k e => ta en st (fun ds en1 st1 => match ds with
  | [.int n] => rgOk n ∧ k (rangeD 0 1 n.toNat) en1 st1
  | _ => False) e
def dRange2 (ta : DTA) : DTI := fun en st k e => ta en st (fun ds en1 st1 => match ds with
  | [.int a, .int b] => (rgOk a ∧ rgOk b) ∧ k (rangeD a 1 (b - a).toNat) en1 st1
  | _ => False) e
def dRange3 (ta : DTA) : DTI := fun en st k e => ta en st (fun ds en1 st1 => match ds with
  | [.int a, .int b, .int c] => ∃ n, RgC a b c n ∧ k (rangeD a c n) en1 st1
  | _ => False) e
theorem dRange1_mono (m : MonoA tA) : MonoA (dRange1 tA) := fun _ _ _ _ _ _ hk he q => m _ _ _ _ _ _ (fun ds _ _ z => by
  split at z
  · exact ⟨z.1, hk _ _ _ z.2⟩
  · exact z.elim) he q
theorem dRange2_mono (m : MonoA tA) : MonoA (dRange2 tA) := fun _ _ _ _ _ _ hk he q => m _ _ _ _ _ _ (fun ds _ _ z => by
  split at z
  · exact ⟨z.1, hk _ _ _ z.2⟩
  · exact z.elim) he q
theorem dRange3_mono (m : MonoA tA) : MonoA (dRange3 tA) := fun _ _ _ _ _ _ hk he q => m _ _ _ _ _ _ (fun ds _ _ z => by
  split at z
  · obtain ⟨n, h1, h2⟩ := z
    exact ⟨n, h1, hk _ _ _ h2⟩
  · exact z.elim) he q
theorem di_range1 {p : Pos} (hg : Gl X "range") (hm : X.mg "range" = none) (ha : DA B W X [a] tA) (hs : ∀ x p, a ≠ .Starred x p) : DI B W X tg (.Call (.Name "range" p) [a] [] pos) (dRange1 tA) := by
  refine ⟨dRange1_mono ha.mono, PI.weak (pi_range1 hg hm ha.run (notStar_each hs)) fun σ H R' ⟨F, r, en, st, R, q⟩ => ?_⟩
  refine at_bindA (k := fun ds en1 st1 => match ds with
    | [.int n] => rgOk n ∧ ∀ F' r' H' J, Step σ en F r H σ en1 F' r' H' → Rel B F' r' en1 st1 σ H' → Wk B F' r' J (rangeD 0 1 n.toNat) → R' J H'
    | _ => False) ha.mono R q fun ds en1 st1 F1 r1 H1 vs S1 R1 rep1 h1 => ?_
  split at h1
  · obtain ⟨v, rfl, rfl⟩ := reps1 rep1
    exact ⟨_, rfl, h1.1.1, h1.1.2, h1.2 F1 r1 H1 _ S1 R1 (wk_range _ _)⟩
  · exact h1.elim
theorem di_range2 {p : Pos} (hg : Gl X "range") (hm : X.mg "range" = none) (ha : DA B W X [a, b] tA) (hs : ∀ x p, a ≠ .Starred x p) (hs' : ∀ x p, b ≠ .Starred x p) : DI B W X tg (.Call (.Name "range" p) [a, b] [] pos) (dRange2 tA) := by
  refine ⟨dRange2_mono ha.mono, PI.weak (pi_range2 hg hm ha.run (by rw [notStar_each hs, notStar_each hs']; rfl) (notStar_each hs')) fun σ H R' ⟨F, r, en, st, R, q⟩ => ?_⟩
  refine at_bindA (k := fun ds en1 st1 => match ds with
    | [.int a, .int b] => (rgOk a ∧ rgOk b) ∧ ∀ F' r' H' J, Step σ en F r H σ en1 F' r' H' → Rel B F' r' en1 st1 σ H' → Wk B F' r' J (rangeD a 1 (b - a).toNat) → R' J H'
    | _ => False) ha.mono R q fun ds en1 st1 F1 r1 H1 vs S1 R1 rep1 h1 => ?_
  split at h1
  · obtain ⟨v, u, rfl, rfl, rfl⟩ := reps2 rep1
    exact ⟨_, _, rfl, ⟨h1.1.1.1, h1.1.1.2, h1.1.2.1, h1.1.2.2⟩, h1.2 F1 r1 H1 _ S1 R1 (wk_range _ _)⟩
  · exact h1.elim
theorem di_range3 {p : Pos} (hg : Gl X "range") (hm : X.mg "range" = none) (ha : DA B W X [a, b, c] tA) (hs : ∀ x p, a ≠ .Starred x p) (hs' : ∀ x p, b ≠ .Starred x p) (hs2 : ∀ x p, c ≠ .Starred x p) : DI B W X tg (.Call (.Name "range" p) [a, b, c] [] pos) (dRange3 tA) := by
  refine ⟨dRange3_mono ha.mono, PI.weak (pi_range3 hg hm ha.run (notStar_each hs) (by rw [notStar_each hs', notStar_each hs2]; rfl)) fun σ H R' ⟨F, r, en, st, R, q⟩ => ?_⟩
  refine at_bindA (k := fun ds en1 st1 => match ds with
    | [.int a, .int b, .int c] => ∃ n, RgC a b c n ∧ ∀ F' r' H' J, Step σ en F r H σ en1 F' r' H' → Rel B F' r' en1 st1 σ H' → Wk B F' r' J (rangeD a c n) → R' J H'
    | _ => False) ha.mono R q fun ds en1 st1 F1 r1 H1 vs S1 R1 rep1 h1 => ?_
  split at h1
  · obtain ⟨v, t, rfl, rfl, rep2⟩ := rep1
    obtain ⟨u, w, rfl, rfl, rfl⟩ := reps2 rep2
    obtain ⟨n, h2, h3⟩ := h1
    exact ⟨_, _, _, n, rfl, h2, h3 F1 r1 H1 _ S1 R1 (wk_rangeC _ _ _)⟩
  · exact h1.elim
def dZip (ta : DTA) : DTI := fun en st k e => ta en st (fun ds en1 st1 => match ds with
  | [.lst xs, .lst ys] => k (zipD xs ys) en1 st1
  | [.tup xs, .tup ys] => k (zipD xs ys) en1 st1
  | _ => False) e
theorem dZip_mono (m : MonoA tA) : MonoA (dZip tA) := fun _ _ _ _ _ _ hk he q => m _ _ _ _ _ _ (fun ds _ _ z => by
  split at z
  · exact hk _ _ _ z
  · exact hk _ _ _ z
  · exact z.elim) he q
theorem di_zip {p tp : Pos} {kk : Nat} (hK : X.K = B.K) (hg : Gl X "zip") (hm : X.mg "zip" = none) (ha : DA B W X [a, b] tA) (hs : ∀ x p, a ≠ .Starred x p) (hs' : ∀ x p, b ≠ .Starred x p) : DI B W X (.Tuple es kk tp) (.Call (.Name "zip" p) [a, b] [] pos) (dZip tA) := by
  refine ⟨dZip_mono ha.mono, PI.weak (pi_zipA hg hm ha.run (notStar_each hs) (by rw [notStar_each hs']; rfl)) fun σ H R' ⟨F, r, en, st, R, q⟩ => ?_⟩
  refine at_bindA (k := fun ds en1 st1 => match ds with
    | [.lst xs, .lst ys] => ∀ F' r' H' J, Step σ en F r H σ en1 F' r' H' → Rel B F' r' en1 st1 σ H' → Wk B F' r' J (zipD xs ys) → R' J H'
    | [.tup xs, .tup ys] => ∀ F' r' H' J, Step σ en F r H σ en1 F' r' H' → Rel B F' r' en1 st1 σ H' → Wk B F' r' J (zipD xs ys) → R' J H'
    | _ => False) ha.mono R q fun ds en1 st1 F1 r1 H1 vs S1 R1 rep1 h1 => ?_
  rw [hK]
  split at h1
  · obtain ⟨v, u, rfl, ⟨l, ws, rfl, e1, w1⟩, l', ws', rfl, e2, w2⟩ := reps2 rep1
    exact ⟨l, l', ws, ws', rfl, .inl ⟨SqL.of (R1.w.sub _ _ e1), SqL.of (R1.w.sub _ _ e2), h1 F1 r1 H1 _ S1 R1 (wk_zip (SqL.of e1) w1 (SqL.of e2) w2)⟩⟩
  · obtain ⟨v, u, rfl, ⟨l, ws, rfl, e1, w1⟩, l', ws', rfl, e2, w2⟩ := reps2 rep1
    exact ⟨l, l', ws, ws', rfl, .inr ⟨R1.w.sub.sqT e1, R1.w.sub.sqT e2, h1 F1 r1 H1 _ S1 R1 (wk_zipT e1 w1 e2 w2)⟩⟩
  · exact h1.elim
def dEnum (ta : DTA) : DTI := fun en st k e => ta en st (fun ds en1 st1 => match ds with
  | [.lst xs] => k (enumD xs) en1 st1
  | _ => False) e
theorem dEnum_mono (m : MonoA tA) : MonoA (dEnum tA) := fun _ _ _ _ _ _ hk he q => m _ _ _ _ _ _ (fun ds _ _ z => by
  split at z
  · exact hk _ _ _ z
  · exact z.elim) he q
theorem di_enum {p tp : Pos} {kk : Nat} (hK : X.K = B.K) (hg : Gl X "enumerate") (hm : X.mg "enumerate" = none) (ha : DA B W X [a] tA) (hs : ∀ x p, a ≠ .Starred x p) : DI B W X (.Tuple es kk tp) (.Call (.Name "enumerate" p) [a] [] pos) (dEnum tA) := by
  refine ⟨dEnum_mono ha.mono, PI.weak (pi_enum hg hm ha.run (notStar_each hs)) fun σ H R' ⟨F, r, en, st, R, q⟩ => ?_⟩
  refine at_bindA (k := fun ds en1 st1 => match ds with
    | [.lst xs] => ∀ F' r' H' J, Step σ en F r H σ en1 F' r' H' → Rel B F' r' en1 st1 σ H' → Wk B F' r' J (enumD xs) → R' J H'
    | _ => False) ha.mono R q fun ds en1 st1 F1 r1 H1 vs S1 R1 rep1 h1 => ?_
  rw [hK]
  split at h1
  · obtain ⟨v, rfl, l, ws, rfl, e1, w1⟩ := reps1 rep1
    exact ⟨l, ws, rfl, SqL.of (R1.w.sub _ _ e1), h1 F1 r1 H1 _ S1 R1 (wk_enum (SqL.of e1) w1)⟩
  · exact h1.elim
/-! ### for -/
theorem MonoG.app {g : DTG} {d : D} {en : En} {st : List D} {k k' : KG} {e e' : KX} (m : MonoG g) (q : g d en st k e) (hk : ∀ n s, k n s → k' n s) (he : ∀ x n s, e x n s → e' x n s) : g d en st k' e' := m _ _ _ _ _ _ _ hk he q
def forL (g : DTG) (t : DTS) : List D → DTS
  | [] => fun en st P => P.nx en st
  | d :: ds => fun en st P => g d en st (fun en1 st1 => t en1 st1 { P with nx := fun n s => forL g t ds n s P, ct := fun n s => forL g t ds n s P, bk := P.nx }) P.ex
theorem forL_mono (mg : MonoG g) (m : MonoS t) : ∀ ds, MonoS (forL g t ds)
  | [] => fun _ _ _ _ h q => h.nx _ _ q
  | d :: ds => fun en st P P' h q => by
    have q' : g d en st (fun en1 st1 => t en1 st1 { P with nx := fun n s => forL g t ds n s P, ct := fun n s => forL g t ds n s P, bk := P.nx }) P.ex := q
    exact mg.app q' (fun _ _ z => m.app z ⟨fun _ _ y => forL_mono mg m ds _ _ _ _ h y, h.rt, h.nx, fun _ _ y => forL_mono mg m ds _ _ _ _ h y, h.ex⟩) h.ex
def dFor (ti : DTI) (g : DTG) (t : DTS) : DTS := fun en st P => ti en st (fun ds en1 st1 => forL g t ds en1 st1 P) P.ex
theorem dFor_mono (mi : MonoA ti) (mg : MonoG g) (m : MonoS t) : MonoS (dFor ti g t) := fun _ _ _ _ h q => mi _ _ _ _ _ _ (fun ds _ _ z => forL_mono mg m ds _ _ _ _ h z) h.ex q
/-- a turn's item is laid -/
theorem yield_ok {F : Hp} {r : List Addr} {F1 : Hp} {r1 : List Addr} {en : En} {st : List D} {σ : Sl} {H H' : Hp} {J : It} {ds : List D} {i : Nat} {d : D} {x : V} (wk : Wk B F r J ds) (R : Rel B F1 r1 en st σ H) (s : Sub F F1) (p : Pre r r1) (hd : ds[i]? = some d) (y : J.yld i H x H') :
    ∃ F2, Step σ en F1 r1 H σ en F2 r1 H' ∧ Rel B F2 r1 en st σ H' ∧ Rep B F2 r1 d x := by
  rcases ((wk i H (s.trans R.w.sub)).2 d hd).2 x H' y with ⟨rfl, q⟩ | ⟨b, vs, es, hb, rfl, rfl, rfl, q⟩
  · exact ⟨F1, Step.refl, R, q.mono s p⟩
  · exact ⟨upd F1 b (.tup vs), Step.newF R hb, R.newF hb, ⟨b, vs, rfl, .inl (.inl upd_same), Reps.mono (s.trans (sub_upd (R.w.fresh hb).1)) p _ _ q⟩⟩
theorem drop_get {α : Type} {l : List α} {i : Nat} {x : α} {r : List α} (h : l.drop i = x :: r) : l[i]? = some x ∧ l.drop (i + 1) = r ∧ i < l.length := by
  have h1 : (l.drop i)[0]? = some x := by rw [h]; rfl
  rw [List.getElem?_drop] at h1
  refine ⟨by simpa using h1, ?_, ?_⟩
  · rw [← List.tail_drop, h]; rfl
  · exact (List.getElem?_eq_some_iff.mp (by simpa using h1)).1
theorem ds_for (hp : PassesOwn (model X.prog X.w) X.A X.env X.xe) (hc : X.calm = true) (hi : DI B W X tg e ti) (hg : DG B W X tg g) (hb : DSs B W X ss t) (hs : ∀ x, foldedSetIterable e X.env x = pure x) : DS B W X (.For tg e ss [] pos) (dFor ti g t) := by
  refine ⟨dFor_mono hi.mono hg.mono hb.mono, PS.weak (ps_for hp hc hi.run hg.run hb.run hs) fun D σ H ⟨F, r, en, st, R, q⟩ => ?_⟩
  refine ⟨F, r, en, st, R, hi.mono _ _ _ _ _ _ (fun ds n s z => ?_) (fun _ _ _ z => ex_of z) q⟩
  intro F0 r0 H0 J S0 R0 wk
  refine ⟨fun i m σ' H' => m = ds.length - i ∧ ∃ F' r' en' st', Step σ en F r H σ' en' F' r' H' ∧ Sub F0 F' ∧ Pre r0 r' ∧ Rel B F' r' en' st' σ' H' ∧ forL g t (ds.drop i) en' st' (postOf B W D σ F r en H),
    ⟨ds.length, rfl, F0, r0, n, s, S0, Sub.refl _, Pre.refl _, R0, z⟩, ?_⟩
  rintro i m σ1 H1 ⟨rfl, F1, r1, en1, st1, S1, s1, p1, R1, z1⟩
  have hs1 := s1.trans R1.w.sub
  cases hd : ds.drop i with
  | nil =>
    rw [hd] at z1
    refine .inl ⟨(wk i H1 hs1).1 (List.drop_eq_nil_iff.mp hd), z1 σ1 F1 r1 H1 S1 R1⟩
  | cons d rest =>
    rw [hd] at z1
    obtain ⟨g1, g2, g3⟩ := drop_get hd
    refine .inr ⟨((wk i H1 hs1).2 d g1).1, fun σ' H' => ∃ F' r' en' st', Step σ en F r H σ' en' F' r' H' ∧ Sub F0 F' ∧ Pre r0 r' ∧ Rel B F' r' en' st' σ' H' ∧ forL g t (ds.drop (i + 1)) en' st' (postOf B W D σ F r en H), fun σ' H' y => ⟨ds.length - (i + 1), by omega, rfl, y⟩, fun x H2 y => ?_⟩
    obtain ⟨F2, S2, R2, rep2⟩ := yield_ok wk R1 s1 p1 g1 y
    have S12 := S1.trans S2
    refine ⟨F2, r1, en1, st1, d, R2, rep2, hg.mono _ _ _ _ _ _ _ (fun n2 s2 z2 => ?_) (fun x n s y => (postOf.shift S12).ex x n s y) z1⟩
    intro σ3 F3 r3 H3 S3 R3
    have S := S12.trans S3
    have s3 : Sub F0 F3 := (s1.trans S2.grow).trans S3.grow
    have pre_trans : ∀ {a b c : List Addr}, Pre a b → Pre b c → Pre a c := fun ⟨x, hx⟩ ⟨y, hy⟩ => ⟨x ++ y, by rw [hy, hx, List.append_assoc]⟩
    have p3 : Pre r0 r3 := pre_trans p1 S3.prx
    refine ⟨F3, r3, n2, s2, R3, hb.mono.app z2 ⟨?_, fun x s y => (postOf.shift (W := W) S).rt x s y, fun n s y => (postOf.shift (W := W) S).nx n s y, ?_, fun x n s y => (postOf.shift S).ex x n s y⟩⟩
    · intro n' s' z' σ' F' r' H' U R'
      exact ⟨F', r', n', s', S.trans U, s3.trans U.grow, pre_trans p3 U.prx, R', by rw [g2]; exact z'⟩
    · intro n' s' z' σ' F' r' H' U R'
      exact ⟨F', r', n', s', S.trans U, s3.trans U.grow, pre_trans p3 U.prx, R', by rw [g2]; exact z'⟩
end
end Ev
set_option Elab.async false
set_option linter.all false
set_option autoImplicit false
set_option maxRecDepth 100000
/-! Ev, part J: list comprehensions. -/
namespace Ev
open PySem PySem.Spec PyProof.Rows L2
def wipeE (en : En) : List Nat → En
  | [] => en
  | v :: vs => (wipeE en vs).set v none
def restE (en en' : En) : List Nat → En
  | [] => en'
  | v :: vs => (restE en en' vs).set v (en.getD v none)
theorem wipeE_len (en : En) : ∀ vs, (wipeE en vs).length = en.length
  | [] => rfl
  | v :: vs => by unfold wipeE; rw [List.length_set, wipeE_len en vs]
theorem restE_len (en en' : En) : ∀ vs, (restE en en' vs).length = en'.length
  | [] => rfl
  | v :: vs => by unfold restE; rw [List.length_set, restE_len en en' vs]
theorem wipeE_get {en : En} {i : Nat} {x : T} : ∀ {vs : List Nat}, (wipeE en vs)[i]? = some (some x) → en[i]? = some (some x) ∧ i ∉ vs
  | [], h => ⟨h, by simp⟩
  | v :: vs, h => by
    unfold wipeE at h
    by_cases hv : v = i
    · subst hv
      rw [List.getElem?_set] at h
      split at h
      · split at h <;> cases h
      · contradiction
    · rw [List.getElem?_set_ne hv] at h
      obtain ⟨h1, h2⟩ := wipeE_get h
      exact ⟨h1, by rw [List.mem_cons, not_or]; exact ⟨fun e => hv e.symm, h2⟩⟩
theorem restE_get {en en' : En} (hl : en'.length = en.length) {i : Nat} {x : T} : ∀ {vs : List Nat}, (restE en en' vs)[i]? = some (some x) → (i ∈ vs ∧ en[i]? = some (some x)) ∨ (i ∉ vs ∧ en'[i]? = some (some x))
  | [], h => .inr ⟨by simp, h⟩
  | v :: vs, h => by
    unfold restE at h
    by_cases hv : v = i
    · subst hv
      rw [List.getElem?_set] at h
      rw [if_pos rfl] at h
      split at h
      · rename_i hlt
        rw [restE_len, hl] at hlt
        refine .inl ⟨List.mem_cons_self, ?_⟩
        rw [List.getD_eq_getElem?_getD, List.getElem?_eq_getElem hlt] at h
        rw [List.getElem?_eq_getElem hlt]
        exact h
      · cases h
    · rw [List.getElem?_set_ne hv] at h
      rcases restE_get hl h with ⟨h1, h2⟩ | ⟨h1, h2⟩
      · exact .inl ⟨List.mem_cons_of_mem _ h1, h2⟩
      · exact .inr ⟨by rw [List.mem_cons, not_or]; exact ⟨fun e => hv e.symm, h1⟩, h2⟩
theorem wipe_get {σ : Sl} {i : Nat} {vs : List Nat} (h : i ∉ vs) : (wipe σ vs)[i]? = σ[i]? := wipe_out h
theorem wipe_set {σ : Sl} {i : Nat} {v : Option V} : ∀ {vs : List Nat}, i ∈ vs → wipe (σ.set i v) vs = wipe σ vs
  | [], h => by cases h
  | w :: vs, h => by
    unfold wipe
    by_cases hw : i ∈ vs
    · rw [wipe_set hw]
    · have e : i = w := by rcases List.mem_cons.mp h with z | z; exact z; exact absurd z hw
      subst e
      apply List.ext_getElem?
      intro j
      rw [List.getElem?_set, List.getElem?_set, wipe_length, wipe_length, List.length_set]
      by_cases hj : i = j
      · rw [if_pos hj, if_pos hj]
      · rw [if_neg hj, if_neg hj]
        by_cases hjv : j ∈ vs
        · have : ∀ (σ' : Sl), σ'.length = σ.length → (wipe σ' vs)[j]? = if j < σ.length then some none else none := fun σ' hl => wipe_in hl hjv
          rw [this _ (List.length_set), this σ rfl]
        · rw [wipe_get hjv, wipe_get hjv, List.getElem?_set_ne hj]
where
  wipe_in {σ σ' : Sl} (hl : σ'.length = σ.length) : ∀ {vs : List Nat} {j : Nat}, j ∈ vs → (wipe σ' vs)[j]? = if j < σ.length then some none else none
  | [], j, h => by cases h
  | w :: vs, j, h => by
    unfold wipe
    rw [List.getElem?_set, wipe_length, hl]
    by_cases hw : w = j
    · subst hw
      rw [if_pos rfl]
    · rw [if_neg hw]
      exact wipe_in hl (by rcases List.mem_cons.mp h with z | z; exact absurd z.symm hw; exact z)
theorem wipe_wipe {σ : Sl} : ∀ {vs ws : List Nat}, (∀ i ∈ ws, i ∈ vs) → wipe (wipe σ ws) vs = wipe σ vs
  | vs, [], _ => rfl
  | vs, w :: ws, h => by
    show wipe ((wipe σ ws).set w none) vs = _
    rw [wipe_set (h w List.mem_cons_self)]
    exact wipe_wipe fun i hi => h i (List.mem_cons_of_mem _ hi)
section
variable {B : Bg} {σ σ2 : Sl} {en en2 : En} {F F2 : Hp} {r r2 : List Addr} {H H2 : Hp} {st st2 : List D} {vs : List Nat}
theorem own_wipe {i : Nat} {a : Addr} (h : OwnI (wipe σ vs) (wipeE en vs) i a) : OwnI σ en i a ∧ i ∉ vs := by
  obtain ⟨d, h1, h2⟩ := h
  obtain ⟨h3, h4⟩ := wipeE_get h1
  rw [wipe_get h4] at h2
  exact ⟨⟨d, h3, h2⟩, h4⟩
theorem Rel.wipe (R : Rel B F r en st σ H) (vs : List Nat) : Rel B F r (wipeE en vs) st (wipe σ vs) H where
  w := R.w
  val := fun i d e => by
    obtain ⟨h3, h4⟩ := wipeE_get e
    rw [wipe_get h4]
    exact R.val i d h3
  own := fun i d e => by
    obtain ⟨h3, h4⟩ := wipeE_get e
    rw [wipe_get h4]
    exact R.own i d h3
  dis := fun i j a h1 h2 => R.dis i j a (own_wipe h1).1 (own_wipe h2).1
  len := by rw [wipeE_len, wipe_length]; exact R.len
theorem Rel.back (R : Rel B F r en st σ H) (S : Step (L2.wipe σ vs) (wipeE en vs) F r H σ2 en2 F2 r2 H2) (R2 : Rel B F2 r2 en2 st2 σ2 H2) (hw : L2.wipe σ2 vs = L2.wipe σ vs) :
    Rel B F2 r2 (restE en en2 vs) st2 σ H2 ∧ Step σ en F r H σ (restE en en2 vs) F2 r2 H2 := by
  have hl : σ2.length = σ.length := by
    have := congrArg List.length hw
    rw [wipe_length, wipe_length] at this
    exact this
  have hle : en2.length = en.length := by rw [R2.len, R.len, hl]
  have same : ∀ i, i ∉ vs → σ2[i]? = σ[i]? := fun i hi => by rw [← wipe_get (σ := σ2) hi, ← wipe_get (σ := σ) hi, hw]
  have ownR : ∀ i a, OwnI σ (restE en en2 vs) i a → (i ∈ vs ∧ OwnI σ en i a) ∨ (i ∉ vs ∧ OwnI σ2 en2 i a) := fun i a ⟨d, h1, h2⟩ => by
    rcases restE_get hle h1 with ⟨g1, g2⟩ | ⟨g1, g2⟩
    · exact .inl ⟨g1, d, g2, h2⟩
    · exact .inr ⟨g1, d, g2, by rw [same i g1]; exact h2⟩
  have hid : ∀ i a, i ∈ vs → OwnI σ en i a → ¬ OwnAt (L2.wipe σ vs) (wipeE en vs) a := fun i a hi h ⟨j, z⟩ => by
    obtain ⟨z1, z2⟩ := own_wipe z
    exact z2 (R.dis i j a h z1 ▸ hi)
  constructor
  · refine ⟨R2.w, fun i d e => ?_, fun i d e => ?_, fun i j a h1 h2 => ?_, by rw [restE_len, hle]; exact R.len⟩
    · rcases restE_get hle e with ⟨g1, g2⟩ | ⟨g1, g2⟩
      · obtain ⟨v, f1, f2⟩ := R.val i d g2
        exact ⟨v, f1, f2.step S⟩
      · rw [← same i g1]
        exact R2.val i d g2
    · rcases restE_get hle e with ⟨g1, g2⟩ | ⟨g1, g2⟩
      · obtain ⟨a, f1, q1, q2, o, q3, q4⟩ := R.own i d g2
        have no := hid i a g1 ⟨d, g2, f1⟩
        refine ⟨a, f1, ?_, ?_, o, S.keep a o q3 q2 no, q4.mono S.grow S.prx⟩
        · cases z : F2 a with
          | none => rfl
          | some u =>
            rcases S.new a u z with y | y | y
            · rw [q1] at y; cases y
            · rw [q3] at y; cases y
            · exact absurd y no
        · obtain ⟨t, e1, e2⟩ := S.pre
          rw [e1]
          intro z
          rcases List.mem_append.mp z with z | z
          · exact q2 z
          · rcases e2 a z with y | y
            · rw [q3] at y; cases y
            · exact no y
      · rw [← same i g1]
        exact R2.own i d g2
    · have mix : ∀ i j, i ∈ vs → OwnI σ en i a → OwnI σ2 en2 j a → False := fun i j hi h1 h2 => by
        rcases S.owns a ⟨j, h2⟩ with y | y
        · exact hid i a hi h1 y
        · obtain ⟨_, _, o, q⟩ := R.ownH ⟨i, h1⟩
          rw [q] at y; cases y
      rcases ownR i a h1 with ⟨g1, g2⟩ | ⟨g1, g2⟩ <;> rcases ownR j a h2 with ⟨k1, k2⟩ | ⟨k1, k2⟩
      · exact R.dis i j a g2 k2
      · exact (mix i j g1 g2 k2).elim
      · exact (mix j i k1 k2 g2).elim
      · exact R2.dis i j a g2 k2
  · refine ⟨fun a o e hr ho => S.keep a o e hr fun ⟨j, z⟩ => ho ⟨j, (own_wipe z).1⟩, S.there, S.grow, ?_, fun a o e => ?_, fun a ⟨i, z⟩ => ?_⟩
    · obtain ⟨t, e1, e2⟩ := S.pre
      exact ⟨t, e1, fun a ha => (e2 a ha).imp id fun ⟨j, z⟩ => ⟨j, (own_wipe z).1⟩⟩
    · rcases S.new a o e with y | y | ⟨j, y⟩
      · exact .inl y
      · exact .inr (.inl y)
      · exact .inr (.inr ⟨j, (own_wipe y).1⟩)
    · rcases ownR i a z with ⟨g1, g2⟩ | ⟨g1, g2⟩
      · exact .inl ⟨i, g2⟩
      · rcases S.owns a ⟨i, g2⟩ with ⟨j, y⟩ | y
        · exact .inl ⟨j, (own_wipe y).1⟩
        · exact .inr y
/-- a thing that stands by itself -/
structure Lone (F : Hp) (r : List Addr) (en : En) (σ : Sl) (H : Hp) (p : Addr) (o : HO) : Prop where
  at_ : H p = some o
  fr : F p = none
  nb : p ∉ r
  no : ¬ OwnAt σ en p
theorem Lone.step {σ' : Sl} {en' : En} {p : Addr} {o : HO} (L : Lone F r en σ H p o) (S : Step σ en F r H σ' en' F2 r2 H2) : Lone F2 r2 en' σ' H2 p o where
  at_ := S.keep p o L.at_ L.nb L.no
  fr := by
    cases z : F2 p with
    | none => rfl
    | some u =>
      rcases S.new p u z with y | y | y
      · rw [L.fr] at y; cases y
      · rw [L.at_] at y; cases y
      · exact absurd y L.no
  nb := by
    obtain ⟨t, e1, e2⟩ := S.pre
    rw [e1]
    intro z
    rcases List.mem_append.mp z with z | z
    · exact L.nb z
    · rcases e2 p z with y | y
      · rw [L.at_] at y; cases y
      · exact L.no y
  no := fun z => by
    rcases S.owns p z with y | y
    · exact L.no y
    · rw [L.at_] at y; cases y
theorem Lone.put {p : Addr} {o o' : HO} (L : Lone F r en σ H p o) (R : Rel B F r en st σ H) : Rel B F r en st σ (upd H p o') ∧ Lone F r en σ (upd H p o') p o' := by
  refine ⟨⟨⟨fun a u e => ?_, R.w.nd, R.w.len, fun n a d e1 e2 => ?_⟩, R.val, fun i d e => ?_, R.dis, R.len⟩, ⟨upd_same, L.fr, L.nb, L.no⟩⟩
  · have ne : a ≠ p := fun z => by rw [z, L.fr] at e; cases e
    rw [upd_ne ne]; exact R.w.sub a u e
  · obtain ⟨q1, u, q2, q3⟩ := R.w.box n a d e1 e2
    have ne : a ≠ p := fun z => L.nb (z ▸ List.mem_of_getElem? e1)
    exact ⟨q1, u, by rw [upd_ne ne]; exact q2, q3⟩
  · obtain ⟨a, f1, q1, q2, u, q3, q4⟩ := R.own i d e
    have ne : a ≠ p := fun z => L.no ⟨i, d, e, z ▸ f1⟩
    exact ⟨a, f1, q1, q2, u, by rw [upd_ne ne]; exact q3, q4⟩
theorem Step.lone {H0 : Hp} {σ0 : Sl} {en0 : En} {F0 : Hp} {r0 : List Addr} {p : Addr} {o : HO} (S : Step σ0 en0 F0 r0 H0 σ en F r H) (h : H0 p = none) : Step σ0 en0 F0 r0 H0 σ en F r (upd H p o) where
  keep := fun a u e hr ho => by
    have ne : a ≠ p := fun z => by rw [z, h] at e; cases e
    rw [upd_ne ne]; exact S.keep a u e hr ho
  there := fun a e => by
    by_cases q : a = p
    · subst q; exact h
    · rw [upd_ne q] at e; exact S.there a e
  grow := S.grow
  pre := S.pre
  new := S.new
  owns := S.owns
end
/-! ### the targets of a comprehension -/
inductive CT where
  | one (i : Nat)
  | many (is : List Nat)
def setsE : List Nat → List D → En → En
  | i :: is, d :: ds, en => setsE is ds (en.set i (some (.v d)))
  | _, _, en => en
def aCT : CT → D → En → Option En
  | .one i, d, en => some (en.set i (some (.v d)))
  | .many is, .tup ds, en => if ds.length = is.length then some (setsE is ds en) else none
  | _, _, _ => none
def gNms : List Nat → TGs
  | [] => gNil
  | i :: is => gCons (gName i) (gNms is)
def tCT (K : PySem.W.Frag) : CT → TG
  | .one i => gName i
  | .many is => gTup K is.length (gNms is)
def CT.slots : CT → List Nat
  | .one i => [i]
  | .many is => is
section
variable {B : Bg} {σ : Sl} {en : En} {F : Hp} {r : List Addr} {H : Hp} {st : List D} {vs : List Nat}
theorem sets_ok {Q : Sl → Hp → Prop} : ∀ {is : List Nat} {ds : List D} {ws : List V} {σ : Sl} {en : En}, (∀ i ∈ is, i ∈ vs) → Rel B F r en st σ H → Reps B F r ds ws → ds.length = is.length →
    (∀ σ1, wipe σ1 vs = wipe σ vs → Step σ en F r H σ1 (setsE is ds en) F r H → Rel B F r (setsE is ds en) st σ1 H → Q σ1 H) → gNms is ws σ H Q
  | [], [], ws, σ, en, _, R, p, _, k => ⟨p, k σ rfl Step.refl R⟩
  | i :: is, d :: ds, ws, σ, en, hv, R, p, hl, k => by
    obtain ⟨v, t, e, p1, p2⟩ := p
    refine ⟨v, t, e, ?_⟩
    obtain ⟨S1, R1⟩ := Rel.set' (i := i) (x := .v d) (v := v) Step.refl R p1
    refine sets_ok (fun j hj => hv j (List.mem_cons_of_mem _ hj)) R1 p2 (Nat.succ.inj hl) fun σ1 hw S2 R2 => k σ1 ?_ (S1.trans S2) R2
    rw [hw, wipe_set (hv i List.mem_cons_self)]
theorem ct_ok {Q : Sl → Hp → Prop} {ct : CT} {d : D} {v : V} {en1 : En} (hv : ∀ i ∈ ct.slots, i ∈ vs) (R : Rel B F r en st σ H) (p : Rep B F r d v) (h : aCT ct d en = some en1)
    (k : ∀ σ1, wipe σ1 vs = wipe σ vs → Step σ en F r H σ1 en1 F r H → Rel B F r en1 st σ1 H → Q σ1 H) : tCT B.K ct v σ H Q := by
  cases ct with
  | one i =>
    cases h
    obtain ⟨S1, R1⟩ := Rel.set' (i := i) (x := .v d) (v := v) Step.refl R p
    exact k _ (wipe_set (hv i List.mem_cons_self)) S1 R1
  | many is =>
    unfold aCT at h
    split at h
    · rename_i e; cases e
    · rename_i is' ds e
      cases e
      split at h
      · rename_i hl
        cases h
        obtain ⟨l, ws, rfl, e1, w⟩ := p
        exact ⟨l, ws, rfl, R.w.sub.sqT e1, by rw [w.len]; exact hl, sets_ok hv R w hl k⟩
      · cases h
    · cases h
end
/-! ### the comprehension -/
def noX : KX := fun _ _ _ => False
def W0 : WX := fun _ _ _ _ => False
def lcL (ct : CT) (c : DTT) (te : DTE) (vs : List Nat) : List D → List D → En → List D → (List D → En → List D → Prop) → Prop
  | [], acc, en, st, k => k acc en st
  | d :: ds, acc, en, st, k => ∃ en1, aCT ct d (wipeE en vs) = some en1 ∧ c en1 st (fun b en2 st2 => if b = true then te en2 st2 (fun y en3 st3 => acc.length < sizeLine ∧ lcL ct c te vs ds (acc ++ [y.d]) (restE en en3 vs) st3 k) noX else lcL ct c te vs ds acc (restE en en2 vs) st2 k) noX
theorem lcL_mono {ct : CT} {c : DTT} {te : DTE} {vs : List Nat} (mc : MonoT c) (me : MonoE te) {k k' : List D → En → List D → Prop} (hk : ∀ a n s, k a n s → k' a n s) : ∀ (ds acc : List D) (en : En) (st : List D), lcL ct c te vs ds acc en st k → lcL ct c te vs ds acc en st k'
  | [], acc, en, st, h => hk _ _ _ h
  | d :: ds, acc, en, st, ⟨en1, e1, h⟩ => ⟨en1, e1, mc _ _ _ _ _ _ (fun b n s z => by
    cases b
    · exact lcL_mono mc me hk ds _ _ _ z
    · exact me _ _ _ _ _ _ (fun y n s ⟨z1, z2⟩ => ⟨z1, lcL_mono mc me hk ds _ _ _ z2⟩) (fun _ _ _ z => z) z) (fun _ _ _ z => z) h⟩
def dLc (ti : DTI) (ct : CT) (c : DTT) (te : DTE) (vs : List Nat) : DTE := fun en st k e => ti en st (fun ds en1 st1 => lcL ct c te vs ds [] en1 st1 fun acc en2 st2 => k (.o (.lst acc)) en2 st2) e
theorem dLc_mono {ti : DTI} {ct : CT} {c : DTT} {te : DTE} {vs : List Nat} (mi : MonoA ti) (mc : MonoT c) (me : MonoE te) : MonoE (dLc ti ct c te vs) := fun _ _ _ _ _ _ hk he q => mi _ _ _ _ _ _ (fun ds n s z => lcL_mono mc me (fun _ _ _ y => hk _ _ _ y) ds _ _ _ z) he q
theorem noX_ep {B : Bg} {σ : Sl} {W : WX} {F : Hp} {r : List Addr} {en : En} {H : Hp} {x : Xn} {n : En} {s : List D} (h : noX x n s) : Epost B σ W F r en H x n s := h.elim
section
variable {B : Bg} {W : WX} {X : Cx} {ti : DTI} {ct : CT} {c : DTT} {te : DTE} {vs : List Nat} {σ : Sl} {H : Hp} {Q : VK}
theorem lc_read (hv : ∀ i ∈ ct.slots, i ∈ vs) (mi : MonoA ti) (mc : MonoT c) (me : MonoE te) (h : tM B W (dLc ti ct c te vs) σ H Q) : tLc (tI B W ti) (tCT B.K ct) (tMT B W0 c) (tM B W0 te) vs σ H Q := by
  obtain ⟨F, r, en, st, R, q⟩ := h
  refine ⟨F, r, en, st, R, mi _ _ _ _ _ _ (fun ds n s z => ?_) (fun _ _ _ z => z) q⟩
  intro F0 r0 H0 J S0 R0 wk D0 hD0
  have hDs : H D0 = none := S0.there D0 hD0
  refine ⟨fun i m H' => m = ds.length - i ∧ ∃ F' r' en' st' acc ws, Step σ en F r H σ en' F' r' H' ∧ Sub F0 F' ∧ Pre r0 r' ∧ Rel B F' r' en' st' σ H' ∧ Lone F' r' en' σ H' D0 (.lst ws) ∧ Reps B F' r' acc ws ∧ lcL ct c te vs (ds.drop i) acc en' st' fun acc en2 st2 => Kpost B σ Q F r en H (.o (.lst acc)) en2 st2,
    ⟨ds.length, rfl, F0, r0, n, s, [], [], S0.lone hDs, Sub.refl _, Pre.refl _, R0.alloc hD0, ⟨upd_same, (R0.w.fresh hD0).1, (R0.w.fresh hD0).2, R0.noOwn hD0⟩, rfl, z⟩, ?_⟩
  rintro i m H1 ⟨rfl, F1, r1, en1, st1, acc, ws, S1, s1, p1, R1, L1, w1, z1⟩
  have hs1 := s1.trans R1.w.sub
  have pre_trans : ∀ {a b c : List Addr}, Pre a b → Pre b c → Pre a c := fun ⟨x, hx⟩ ⟨y, hy⟩ => ⟨x ++ y, by rw [hy, hx, List.append_assoc]⟩
  cases hd : ds.drop i with
  | nil =>
    rw [hd] at z1
    refine .inl ⟨(wk i H1 hs1).1 (List.drop_eq_nil_iff.mp hd), z1 F1 r1 H1 _ S1 R1 ⟨D0, rfl, ⟨L1.fr, L1.nb, _, L1.at_, ws, rfl, w1⟩, L1.no, .inl hDs⟩⟩
  | cons d rest =>
    rw [hd] at z1
    obtain ⟨g1, g2, g3⟩ := drop_get hd
    refine .inr ⟨((wk i H1 hs1).2 d g1).1, fun H' => ∃ F' r' en' st' acc ws, Step σ en F r H σ en' F' r' H' ∧ Sub F0 F' ∧ Pre r0 r' ∧ Rel B F' r' en' st' σ H' ∧ Lone F' r' en' σ H' D0 (.lst ws) ∧ Reps B F' r' acc ws ∧ lcL ct c te vs (ds.drop (i + 1)) acc en' st' fun acc en2 st2 => Kpost B σ Q F r en H (.o (.lst acc)) en2 st2,
      fun H' y => ⟨ds.length - (i + 1), by omega, rfl, y⟩, fun x H2 y => ?_⟩
    obtain ⟨F2, S2, R2, rep2⟩ := yield_ok wk R1 s1 p1 g1 y
    obtain ⟨en2, a1, z2⟩ := z1
    refine ct_ok hv (R2.wipe vs) rep2 a1 fun σ3 hw S3 R3 => ⟨by rw [hw, wipe_wipe fun _ h => h], ?_⟩
    have hw' : L2.wipe σ3 vs = L2.wipe σ vs := by rw [hw, wipe_wipe fun _ h => h]
    refine ⟨F2, r1, en2, st1, R3, mc _ _ _ _ _ _ (fun b n4 s4 z4 => ?_) (fun _ _ _ z => noX_ep z) z2⟩
    intro F4 r4 H4 S4 R4
    cases b with
    | false =>
      rw [if_neg Bool.false_ne_true] at z4 ⊢
      obtain ⟨R5, S5⟩ := R2.back (S3.trans S4) R4 hw'
      have S25 := S2.trans S5
      exact ⟨F4, r4, _, s4, acc, ws, S1.trans S25, s1.trans S25.grow, pre_trans p1 S25.prx, R5, L1.step S25, w1.step S25, by rw [g2]; exact z4⟩
    | true =>
      rw [if_pos rfl] at z4 ⊢
      refine ⟨F4, r4, n4, s4, R4, me _ _ _ _ _ _ (fun y5 n5 s5 z5 => ?_) (fun _ _ _ z => noX_ep z) z4⟩
      intro F5 r5 H5 v5 S5 R5 t5
      obtain ⟨F6, S6, R6, rep6, _⟩ := freezeT S5 R5 t5
      obtain ⟨R7, S7⟩ := R2.back ((S3.trans S4).trans S6) R6 hw'
      have S27 := S2.trans S7
      have L7 := L1.step S27
      obtain ⟨R8, L8⟩ := L7.put (o' := .lst (ws ++ [v5])) R7
      obtain ⟨z6, z7⟩ := z5
      refine ⟨ws, L7.at_, by rw [w1.len]; exact z6, F6, r5, _, s5, acc ++ [y5.d], ws ++ [v5], (S1.trans S27).lone hDs, s1.trans S27.grow, pre_trans p1 S27.prx, R8, L8, Reps.app (show Reps B F6 r5 [y5.d] [v5] from ⟨v5, [], rfl, rep6, rfl⟩) (w1.step S27), by rw [g2]; exact z7⟩
end
end Ev
set_option Elab.async false
set_option linter.all false
set_option autoImplicit false
set_option maxRecDepth 100000
/-! Ev, part K: calls of defs, boxes, comprehensions as expressions, pairs stored at once. -/
namespace Ev
open PySem PySem.Spec PyProof.Rows L2
/-- what a call of a def means -/
abbrev Gam := List D → List D → (T → List D → Prop) → (Xn → List D → Prop) → Prop
def MonoC (g : Gam) : Prop := ∀ (ds st : List D) (k k' : T → List D → Prop) (e e' : Xn → List D → Prop), (∀ t s, k t s → k' t s) → (∀ x s, e x s → e' x s) → g ds st k e → g ds st k' e'
structure CallOk (B : Bg) (W : WX) (X : Cx) (x : Str) (n : Nat) (ks : List Str) (g : Gam) : Prop where
  mono : MonoC g
  run : ∃ fa : Addr, X.mg x = some (.ref fa) ∧ PySem.W.keepIn X.K (.ref fa) = true ∧ ∀ (pins : List (Addr × Obj)) (σ : Sl) (H : Hp) (s : Shared) (Q : VK) (us ws : List Value) (vs zs : List V) (F : Hp) (r : List Addr) (en : En) (st ds : List D),
    Inv X pins σ H s → Vals vs us → Vals zs ws → vs.length = n → zs.length = ks.length → Rel B F r en st σ H → Reps B F r ds (vs ++ zs) → g ds st (fun t st' => Kpost B σ Q F r en H t en st') (fun x st' => Epost B σ W F r en H x en st') →
    wpAny (model X.prog X.w) X.A (call (.ref fa) us (ks.zip ws)) (EP X pins σ Q) X.xe s
structure DK (B : Bg) (W : WX) (X : Cx) (ks : List Keyword) (t : DTA) : Prop where
  mono : MonoA t
  run : PK X ks (tMA B W t)
theorem PK.weak {X : Cx} {e : List Keyword} {t t' : TA} (h : PK X e t) (w : ∀ σ H Q, t' σ H Q → t σ H Q) : PK X e t' := ⟨fun pos pins s σ H Q I q => h.run pos pins s σ H Q I (w σ H Q q)⟩
section
variable {B : Bg} {W : WX} {X : Cx} {e a b c tg : Expr} {es : List Expr} {kws : List Keyword} {pos : Pos} {te ta tb tc : DTE} {tA tB : DTA} {tt tu : DTT} {g : Gam}
theorem dk_nil : DK B W X [] dNil := ⟨dNil_mono, PK.weak pk_nil fun σ H Q ⟨F, r, en, st, R, q⟩ => q F r H [] Step.refl R rfl⟩
theorem dk_cons {nm : Option Str} {kp : Pos} (h : DE B W X e te) (h' : DK B W X kws tA) : DK B W X (⟨nm, e, kp⟩ :: kws) (dCons te tA) := by
  refine ⟨dCons_mono h.mono h'.mono, PK.weak (pk_cons h.run h'.run) fun σ H Q ⟨F, r, en, st, R, q⟩ => ?_⟩
  refine at_bind (k := fun d _ en1 st1 => tA en1 st1 (fun ds en2 st2 => Apost B σ Q F r en H (d :: ds) en2 st2) (Epost B σ W F r en H)) h.mono R q fun d en1 st1 F1 r1 H1 v S1 R1 rep1 h1 => ?_
  refine at_bindA (k := fun ds en2 st2 => Apost B σ Q F r en H (d :: ds) en2 st2) h'.mono R1 (h'.mono _ _ _ _ _ _ (fun _ _ _ z => z) (fun _ _ _ z => z.shift S1) h1) fun ds en2 st2 F2 r2 H2 vs S2 R2 rep2 h2 => ?_
  exact h2 F2 r2 H2 (v :: vs) (S1.trans S2) R2 ⟨v, vs, rfl, rep1.step S2, rep2⟩
def dCall (g : Gam) (n m : Nat) (ta tk : DTA) : DTE := fun en st k e => ta en st (fun ds en1 st1 => tk en1 st1 (fun zs en2 st2 => ds.length = n ∧ zs.length = m ∧ g (ds ++ zs) st2 (fun t st3 => k t en2 st3) (fun x st3 => e x en2 st3)) e) e
theorem dCall_mono {n m : Nat} (mg : MonoC g) (ma : MonoA tA) (mk : MonoA tB) : MonoE (dCall g n m tA tB) := fun _ _ _ _ _ _ hk he q => ma _ _ _ _ _ _ (fun _ _ _ z => mk _ _ _ _ _ _ (fun _ _ _ ⟨y1, y2, y3⟩ => ⟨y1, y2, mg _ _ _ _ _ _ (fun _ _ x => hk _ _ _ x) (fun _ _ x => he _ _ _ x) y3⟩) he z) he q
/-- what the arguments' readings leave -/
theorem call_args {n m : Nat} {σ : Sl} {H : Hp} {Q : VK} (mg : MonoC g) (ma : MonoA tA) (mk : MonoA tB) (h : tM B W (dCall g n m tA tB) σ H Q) : tMA B W tA σ H fun vs H1 => tMA B W tB σ H1 fun zs H2 => vs.length = n ∧ zs.length = m ∧
    ∃ F r en st ds, Rel B F r en st σ H2 ∧ Reps B F r ds (vs ++ zs) ∧ g ds st (fun t st' => Kpost B σ Q F r en H2 t en st') (fun x st' => Epost B σ W F r en H2 x en st') := by
  obtain ⟨F, r, en, st, R, q⟩ := h
  refine at_bindA (k := fun ds en1 st1 => tB en1 st1 (fun zs en2 st2 => ds.length = n ∧ zs.length = m ∧ g (ds ++ zs) st2 (fun t st3 => Kpost B σ Q F r en H t en2 st3) (fun x st3 => Epost B σ W F r en H x en2 st3)) (Epost B σ W F r en H)) ma R q fun ds en1 st1 F1 r1 H1 vs S1 R1 rep1 h1 => ?_
  refine at_bindA (k := fun zs en2 st2 => ds.length = n ∧ zs.length = m ∧ g (ds ++ zs) st2 (fun t st3 => Kpost B σ Q F r en H t en2 st3) (fun x st3 => Epost B σ W F r en H x en2 st3)) mk R1 (mk _ _ _ _ _ _ (fun _ _ _ z => z) (fun _ _ _ z => z.shift S1) h1) fun zs en2 st2 F2 r2 H2 us S2 R2 rep2 ⟨l1, l2, h2⟩ => ?_
  have S := S1.trans S2
  exact ⟨by rw [rep1.len]; exact l1, by rw [rep2.len]; exact l2, F2, r2, en2, st2, ds ++ zs, R2, Reps.app rep2 (rep1.step S2), mg _ _ _ _ _ _ (fun _ _ z => z.shift S) (fun _ _ z => z.shift S) h2⟩
theorem noStars {env : PySem.Env} : ∀ {es : List Expr}, (∀ e ∈ es, ∀ x p, e ≠ .Starred x p) → ∀ pos : Pos, (backTo pos (starEach es env)).any (·.1) = false
  | [], _, pos => rfl
  | e :: es, h, pos => by
    have ih := noStars (env := env) (es := es) (fun x hx => h x (List.mem_cons_of_mem _ hx)) pos
    rw [notStar_each (h e List.mem_cons_self)]
    exact ih
theorem noKw {env : PySem.Env} : ∀ {ks : List Keyword}, (∀ k ∈ ks, k.arg.isSome = true) → ∀ pos : Pos, (backToKw pos (keywordEach ks env)).all (·.1.isSome) = true ∧ (backToKw pos (keywordEach ks env)).any (·.1.isNone) = false ∧ (backToKw pos (keywordEach ks env)).filterMap (·.1) = ks.filterMap (·.arg)
  | [], _, pos => ⟨rfl, rfl, rfl⟩
  | ⟨nm, v, p⟩ :: ks, h, pos => by
    obtain ⟨i1, i2, i3⟩ := noKw (env := env) (ks := ks) (fun x hx => h x (List.mem_cons_of_mem _ hx)) pos
    have h0 := h _ List.mem_cons_self
    cases nm with
    | none => cases h0
    | some y =>
      refine ⟨i1, i2, ?_⟩
      show y :: (backToKw pos (keywordEach ks env)).filterMap (·.1) = y :: ks.filterMap (·.arg)
      rw [i3]
theorem de_call {x : Str} {p : Pos} {ks : List Str} (hc : CallOk B W X x es.length ks g) (hg : Gl X x) (hdb : (x == ("__debug__" : Str)) = false) (ha : DA B W X es tA) (hk : DK B W X kws tB) (hs : ∀ e ∈ es, ∀ x p, e ≠ .Starred x p)
    (hkn : ∀ k ∈ kws, k.arg.isSome = true) (hks : kws.filterMap (·.arg) = ks) (h0 : es = [] → tA = dNil) : DE B W X (.Call (.Name x p) es kws pos) (dCall g es.length ks.length tA tB) := by
  refine ⟨dCall_mono hc.mono ha.mono hk.mono, ⟨fun pins s σ H Q I h => ?_⟩⟩
  have h' := call_args hc.mono ha.mono hk.mono h
  obtain ⟨fa, hm, hkeep, run⟩ := hc.run
  obtain ⟨k1, k2, k3⟩ := noKw (env := X.env) hkn pos
  refine wpAny_Call_Name_kw (ld_glob I hg hm ?_ hdb)
  cases es with
  | nil =>
    rw [h0 rfl] at h'
    obtain ⟨F0, r0, en0, st0, R0, q0⟩ := h'
    have q1 := q0 F0 r0 H [] Step.refl R0 rfl
    refine PySem.W.callWith_KW0 (h₀ := X.base) I.ok.mod.kin hkeep k1 ?_ (by rw [k2]; rfl)
    refine thn (hk.run.run pos pins s σ H _ I q1) fun ws s2 ⟨zs, H2, I2, r2, l1, l2, F, r, en, st, ds, R, rep, q2⟩ => ⟨I2.kIn, ?_⟩
    rw [k3, hks]
    exact run pins σ H2 s2 Q [] ws [] zs F r en st ds I2 .nil r2 l1 l2 R rep q2
  | cons e0 er =>
    refine PySem.W.callWith_KW (h₀ := X.base) I.ok.mod.kin hkeep k1 (thn (ha.run.run pos pins s σ H _ I h') fun us s1 ⟨vs, H1, I1, r1, q1⟩ => ?_) (by rw [noStars hs, k2]; rfl) (notStar_each (hs e0 List.mem_cons_self))
    refine thn (hk.run.run pos pins s1 σ H1 _ I1 q1) fun ws s2 ⟨zs, H2, I2, r2, l1, l2, F, r, en, st, ds, R, rep, q2⟩ => ⟨I2.kIn, ?_⟩
    rw [k3, hks]
    exact run pins σ H2 s2 Q us ws vs zs F r en st ds I2 r1 r2 l1 l2 R rep q2
/-! ### a thing becomes a box -/
def dBox (te : DTE) : DTE := fun en st k e => te en st (fun x en1 st1 => match x with
  | .o d => k (.v (.box st1.length)) en1 (st1 ++ [d])
  | .v _ => False) e
theorem Rel.box {F : Hp} {r : List Addr} {en en0 : En} {st : List D} {σ : Sl} {H H0 : Hp} {F0 : Hp} {r0 : List Addr} {d : D} {v : V} (S : Step σ en0 F0 r0 H0 σ en F r H) (R : Rel B F r en st σ H) (t : TRep B F r H σ en H0 en0 (.o d) v) :
    ∃ r', Step σ en0 F0 r0 H0 σ en F r' H ∧ Rel B F r' en (st ++ [d]) σ H ∧ Rep B F r' (.box st.length) v := by
  obtain ⟨a, rfl, ⟨q1, q2, o, q3, q4⟩, q5, q6⟩ := t
  have pr : Pre r (r ++ [a]) := ⟨[a], rfl⟩
  refine ⟨r ++ [a], ⟨S.keep, S.there, S.grow, ?_, S.new, S.owns⟩, ⟨⟨R.w.sub, ?_, ?_, fun n b x e1 e2 => ?_⟩, fun i x e => ?_, fun i x e => ?_, R.dis, R.len⟩, a, ?_, rfl⟩
  · obtain ⟨t, e1, e2⟩ := S.pre
    refine ⟨t ++ [a], by rw [e1, List.append_assoc], fun b hb => ?_⟩
    rcases List.mem_append.mp hb with z | z
    · exact e2 b z
    · rw [List.mem_singleton] at z
      rw [z]
      exact q6
  · rw [List.nodup_append]
    refine ⟨R.w.nd, by simp, fun b hb b' hb' => ?_⟩
    rw [List.mem_singleton] at hb'
    rw [hb']
    intro z
    exact q2 (z ▸ hb)
  · rw [List.length_append, List.length_append, R.w.len]
    rfl
  · by_cases hn : n < r.length
    · rw [List.getElem?_append_left hn] at e1
      rw [List.getElem?_append_left (by rw [R.w.len]; exact hn)] at e2
      obtain ⟨g1, u, g2, g3⟩ := R.w.box n b x e1 e2
      exact ⟨g1, u, g2, g3.mono (Sub.refl _) pr⟩
    · have hn' : n = r.length := by
        have := (List.getElem?_eq_some_iff.mp e1).1
        rw [List.length_append] at this
        have l1 : [a].length = 1 := rfl
        omega
      subst hn'
      rw [List.getElem?_append_right (Nat.le_refl _)] at e1
      rw [List.getElem?_append_right (by rw [R.w.len]; exact Nat.le_refl _)] at e2
      rw [Nat.sub_self] at e1
      rw [R.w.len, Nat.sub_self] at e2
      cases e1; cases e2
      exact ⟨q1, o, q3, q4.mono (Sub.refl _) pr⟩
  · obtain ⟨w, f1, f2⟩ := R.val i x e
    exact ⟨w, f1, f2.mono (Sub.refl _) pr⟩
  · obtain ⟨b, f1, g1, g2, u, g3, g4⟩ := R.own i x e
    refine ⟨b, f1, g1, fun z => ?_, u, g3, g4.mono (Sub.refl _) pr⟩
    rcases List.mem_append.mp z with z | z
    · exact g2 z
    · rw [List.mem_singleton] at z
      exact q5 ⟨i, x, e, z ▸ f1⟩
  · rw [R.w.len, List.getElem?_append_right (Nat.le_refl _), Nat.sub_self]
    rfl
theorem dBox_mono (m : MonoE te) : MonoE (dBox te) := fun _ _ _ _ _ _ hk he q => m _ _ _ _ _ _ (fun x _ _ z => by
  cases x with
  | o d => exact hk _ _ _ z
  | v d => exact z.elim) he q
theorem de_box (h : DE B W X e te) : DE B W X e (dBox te) := by
  refine ⟨dBox_mono h.mono, PE.weak h.run fun σ H Q ⟨F, r, en, st, R, q⟩ => ⟨F, r, en, st, R, h.mono _ _ _ _ _ _ (fun x n s z => ?_) (fun _ _ _ z => z) q⟩⟩
  intro F' r' H' v S R' t
  cases x with
  | v d => exact z.elim
  | o d =>
    obtain ⟨r2, S2, R2, p2⟩ := Rel.box S R' t
    exact z F' r2 H' v S2 R2 p2
/-! ### comprehensions -/
theorem de_lc {elt iter : Expr} {ifs : List Expr} {scope : Scope} {own : List (Str × Nat)} {ti : DTI} {ct : CT} {cc : DTT} (hK : X.K = B.K) (hc : X.calm = true) (hN : X.N.Nodup) (hi : DI B W X tg iter ti) (ok : BlkOk X.N X.env.scope scope own) (mc : MonoT cc) (me : MonoE te) (hv : ∀ i ∈ ct.slots, i ∈ own.map (·.2))
    (hg : ∀ (s : Shared) (H : Hp) (C : Addr) (cl : List (Str × Addr)) (fp : List Addr), PG (X.blk s H scope (compEnvC scope cl C X.env) fp) tg (tCT B.K ct))
    (ht : ∀ (s : Shared) (H : Hp) (C : Addr) (cl : List (Str × Addr)) (fp : List Addr), PTs (X.blk s H scope (compEnvC scope cl C X.env) fp) ifs (tMT B W0 cc))
    (he : ∀ (s : Shared) (H : Hp) (C : Addr) (cl : List (Str × Addr)) (fp : List Addr), PE (X.blk s H scope (compEnvC scope cl C X.env) fp) elt (tM B W0 te))
    (hs : ∀ x, foldedSetIterable iter X.env x = pure x) : DE B W X (.ListComp elt [⟨tg, iter, ifs, 0⟩] scope pos) (dLc ti ct cc te (own.map (·.2))) :=
  ⟨dLc_mono hi.mono mc me, PE.weak (pe_lc hc hN hi.run ok hg ht he hs) fun σ H Q h => lc_read hv hi.mono mc me h⟩
theorem ds_setLc {i : Nat} {y : Str} {py spos : Pos} {elt iter : Expr} {ifs : List Expr} {scope : Scope} {own : List (Str × Nat)} {ti : DTI} {ct : CT} {cc : DTT} (hK : X.K = B.K) (hc : X.calm = true) (hN : X.N.Nodup) (hy : X.N[i]? = some y) (hyl : X.env.scope.names.lookup y = some .local)
    (hsw : swapsWith (.ListComp elt [⟨tg, iter, ifs, 0⟩] scope pos) (some (.Name y py)) spos.line X.env = pure true) (hi : DI B W X tg iter ti) (ok : BlkOk X.N X.env.scope scope own) (mc : MonoT cc) (me : MonoE te) (hv : ∀ i ∈ ct.slots, i ∈ own.map (·.2))
    (hg : ∀ (s : Shared) (H : Hp) (C : Addr) (cl : List (Str × Addr)) (fp : List Addr), PG (X.blk s H scope (compEnvC scope cl C X.env) fp) tg (tCT B.K ct))
    (ht : ∀ (s : Shared) (H : Hp) (C : Addr) (cl : List (Str × Addr)) (fp : List Addr), PTs (X.blk s H scope (compEnvC scope cl C X.env) fp) ifs (tMT B W0 cc))
    (he : ∀ (s : Shared) (H : Hp) (C : Addr) (cl : List (Str × Addr)) (fp : List Addr), PE (X.blk s H scope (compEnvC scope cl C X.env) fp) elt (tM B W0 te))
    (hs : ∀ x, foldedSetIterable iter X.env x = pure x) : DS B W X (.Assign [.Name y py] (.ListComp elt [⟨tg, iter, ifs, 0⟩] scope pos) spos) (dSet i (dLc ti ct cc te (own.map (·.2)))) :=
  ⟨dSet_mono (dLc_mono hi.mono mc me), PS.weak (ps_setLc hc hN hy hyl hsw hi.run ok hg ht he hs) fun D σ H h => lc_read hv hi.mono mc me (set_read (dLc_mono hi.mono mc me) h)⟩
end
end Ev
set_option Elab.async false
set_option linter.all false
set_option autoImplicit false
set_option maxRecDepth 100000
/-! Ev, part Ks: set(x) of a list of ints; sorted(set(x)). -/
namespace Ev
open PySem PySem.Spec PyProof.Rows L2
abbrev eSet (w : PySem.World) : Obj := { cls := .type "set", dict := none, data := .set #[] 0 (.fresh 0 0 (!w.params.followText "set-order")) }
section
variable {P : Program} {w : PySem.World} {A : Around} {E : Value → Shared → Prop} {sh : Shared}
set_option maxHeartbeats 3200000 in
theorem call_set_lst {la : Addr} {its : Array Value} (ns : List Int) {Q : Value → Shared → Prop} (hd0 : A.handled = none) (hL : sh.heap.IsList la its) (hint : IntsAre its.toList ns) (hb : ns.length + 1 < scanBound)
    (h : ∀ (h' : Heap) (tk c : Nat), SetR w h' sh.heap.objs.size (fun j => decide (j ∈ ns)) c → c ≤ ns.length → (∀ b o, sh.heap.get? b = some o → h'.get? b = some o) → Q (.ref sh.heap.objs.size) { sh with heap := h', toks := tk }) :
    wpAny (model P w) A (call (.type "set") [.ref la]) Q E sh := by
  have isz : its.size = ns.length := by
    have q := IntsAre.length hint
    rw [Array.length_toList] at q
    exact q
  obtain ⟨c, tl, zmro⟩ := F.called_set.mro
  have zmade := F.called_set.made
  have zsub := F.called_set.sub
  refine wpAny_call (codeAny_of_tree ?_)
  show wpAny _ _ (callAny (.type "set") _) _ _ _
  refine wpAny_pure ⟨Code.quiet_builtin _ (by decide +kernel), codeAny_builtin F.entry_type_call ?_⟩
  rw [Around.under_plain (weight_type_call_type "set" [.ref la] []) rfl]
  have z1 := F.called_set.notType
  have z2 := F.called_set.canCreate
  have zct := F.typeCall_set_1 (.ref la)
  repeat (any_goals (first | assumption | wp_step))

  refine codeAny_mono (code_set_led1 (.ref la) (E := E) (Q₁ := fun ob sh1 => ob = .ref sh.heap.objs.size ∧ sh1 = { sh with heap := sh.heap.push (eSet w) }) ⟨rfl, rfl⟩) fun r sh1 yr => ?_
  cases r with
  | error e => exact yr
  | ok fw =>
    cases fw with
    | ret ob =>
      obtain ⟨rfl, rfl⟩ := yr
      have yS : (sh.heap.push (eSet w)).get? sh.heap.objs.size = some (eSet w) := Heap.get?_push_size _ rfl
      have yT : Shared.TypeIs { sh with heap := sh.heap.push (eSet w) } (.ref sh.heap.objs.size) "set" := ⟨_, yS, rfl⟩
      have yli := F.called_set.init.lookup
      have ybi := F.called_set.init.bind (.ref sh.heap.objs.size)
      repeat (any_goals (first | assumption | wp_step))

      refine codeAny_mono (codeAny_call_builtin (R := wants (fun r sh2 => r = .none ∧ ∃ h' tk c, sh2 = { sh with heap := h', toks := tk } ∧ SetR w h' sh.heap.objs.size (fun j => decide (j ∈ ns)) c ∧ c ≤ ns.length ∧
          (∀ b o, sh.heap.get? b = some o → h'.get? b = some o)) E) F.called_set.init.plain F.entry_set_init (check_set_init_1 yT ?_)) fun rr sh2 yr2 => ?_
      · obtain ⟨ol, yol, ycl, nl, ydl⟩ := hL
        obtain ⟨ocls, odict, odata, oslots⟩ := ol
        simp only at ycl ydl
        subst ycl; subst ydl
        have yol' : (sh.heap.push (eSet w)).get? la = some { cls := .type "list", dict := odict, data := .seq its nl, slots := oslots } := Heap.get?_push_of_some _ yol
        have ysls := F.sub_list_set
        have yslf := F.sub_list_frozenset
        have yne : (Value.type "list" == Value.type "dict") = false := by decide
        have yl1 : (sh.heap.push (eSet w)).IsList la its := ⟨_, yol', rfl, nl, rfl⟩
        unfold Builtin.«set.__init__» noKeywords Builtin.Frozenset.updateFrom
        generalize yPI : pyIter = PJ
        wp_walk
        subst yPI

        refine wpAny_pyIter_list yl1 ?_
        refine wpAny_bind (wpAny_runValue ?_)
        have ylS : la < sh.heap.objs.size := Heap.lt_size yol
        have yh3 : A.in1.in1.in1.handled = none := by simp [hd0]
        have hz1 : (sh.heap.push (eSet w)).objs.size = sh.heap.objs.size + 1 := Heap.size_push ..
        have yneI : la ≠ (sh.heap.push (eSet w)).objs.size := by
          rw [Heap.size_push]; exact Nat.ne_of_lt (Nat.lt_succ_of_lt ylS)
        have ySf : sh.heap.objs.size ∉ [(sh.heap.push (eSet w)).objs.size, la] := by
          rw [Heap.size_push]; simp only [List.mem_cons, List.mem_singleton, List.not_mem_nil, or_false, not_or]
          exact ⟨Nat.ne_of_lt (Nat.lt_succ_self _), Nat.ne_of_gt ylS⟩
        have yval : ∀ (i : Nat) (v : Value), its[i]? = some v → ∃ k t, ns[i]? = some k ∧ v = .int k t := fun i v hv => by
          have hi : i < ns.length := by rw [← isz]; exact (Array.getElem?_eq_some_iff.mp hv).1
          obtain ⟨t, e⟩ := PyProof.Rows.IntsAre.int_at hint i v (by rw [Array.getElem?_toList]; exact hv)
          refine ⟨ns[i], t, List.getElem?_eq_getElem hi, ?_⟩
          rw [e, List.getD_eq_getElem?_getD, List.getElem?_eq_getElem hi] <;> rfl
        refine set_update_ints ((Walks.list yh3 _ la yneI its).toS) sh.heap.objs.size
          ySf ns isz hb yval (its.size - 0) 0 _ (by omega) (Nat.zero_le _)
          ⟨⟨_, Heap.get?_push_size _ rfl, rfl, rfl⟩, (yl1.push _)⟩ ?hS0 ?hR
        case hS0 =>
          have yget : ((sh.heap.push (eSet w)).push { cls := .type "list_iterator", data := .fields #[.ref la, .int 0 0] }).get? sh.heap.objs.size
              = some (eSet w) := Heap.get?_push_of_some _ yS
          exact ⟨0, Nat.le_refl 0, setR_new_at yget⟩
        case hR =>
          intro sh' c' ym yc' yS'
          obtain ⟨h', g2, d', tk', os'⟩ := sh'
          have eg1 : g2 = sh.gens := ym.gens
          have ed1 : d' = sh.drawn := ym.drawn
          have eo1 : os' = sh.os := ym.os
          subst eg1; subst ed1; subst eo1
          show wpAny _ _ _ _ _ _
          refine wpAny_pure ?_
          show wpAny _ _ (ret Value.none) _ _ _
          rw [isz] at yc'
          refine wpAny_pure ⟨rfl, h', tk', c', rfl, yS', yc', fun b o e => ?_⟩
          have yb0 : b < sh.heap.objs.size := Heap.lt_size e
          have yb1 : b ≠ sh.heap.objs.size := Nat.ne_of_lt yb0
          have yb2 : b ≠ (sh.heap.push (eSet w)).objs.size := by
            rw [Heap.size_push]; exact Nat.ne_of_lt (Nat.lt_succ_of_lt yb0)
          exact ym.heap b o (by simp only [List.mem_cons, List.mem_singleton, List.not_mem_nil, or_false, not_or]; exact ⟨yb1, yb2⟩) (Heap.get?_push_of_some _ (Heap.get?_push_of_some _ e))

      · cases rr with
        | error e => exact yr2
        | ok fw2 =>
          cases fw2 with
          | ret r =>
            obtain ⟨rfl, h', tk, c', rfl, yS', yc', hk'⟩ := yr2
            repeat (any_goals (first | assumption | wp_step))
            exact h _ _ _ yS' yc' hk'
          | _ => exact yr2.elim
    | _ => exact yr.elim

end
end Ev
set_option Elab.async false
set_option linter.all false
set_option autoImplicit false
set_option maxRecDepth 100000
/-! Ev, part Ks: sorted(set(x)) of a list of ints. -/
namespace Ev
open PySem PySem.Spec PyProof.Rows L2
def oSset : OpN
  | [.lst xs], k => ∃ ns us : List Int, xs = ns.map D.int ∧ ns.length + 1 < scanBound ∧ us.length < 64 ∧ (∀ i ∈ ns, i ∈ us) ∧ ∀ ms : List Int, ms.Pairwise (· < ·) → (∀ i, i ∈ ms ↔ i ∈ ns) → k (.o (.lst (ms.map D.int)))
  | _, _ => False
theorem mono_oSset : MonoN oSset := fun x k k' hk h => by
  unfold oSset at h ⊢
  split at h
  · obtain ⟨ns, us, e1, e2, e3, e4, e5⟩ := h
    exact ⟨ns, us, e1, e2, e3, e4, fun ms h1 h2 => hk _ (e5 ms h1 h2)⟩
  · exact h.elim
theorem nodup_le {l : List Int} : ∀ {us : List Int}, l.Nodup → (∀ i ∈ l, i ∈ us) → l.length ≤ us.length := by
  induction l with
  | nil => intro us _ _; exact Nat.zero_le _
  | cons a l ih =>
    intro us hn hs
    have ha := hs a List.mem_cons_self
    have hn' := List.nodup_cons.mp hn
    have h1 := ih (us := us.erase a) hn'.2 fun i hi => by
      have ne : i ≠ a := fun z => hn'.1 (z ▸ hi)
      exact (List.mem_erase_of_ne ne).mpr (hs i (List.mem_cons_of_mem _ hi))
    rw [List.length_erase_of_mem ha] at h1
    have := List.length_pos_of_mem ha
    show l.length + 1 ≤ _
    omega
theorem setR_le {w : PySem.World} {h : Heap} {a : Addr} {S : Int → Bool} {n : Nat} {us : List Int} (R : SetR w h a S n) (hs : ∀ i, S i = true → i ∈ us) : n ≤ us.length := by
  obtain ⟨o, es, ep, t, _, _, _, _, nd, hm, _, _, hn, _, _⟩ := R
  have q := nodup_le nd fun i hi => hs i ((hm i).mpr hi)
  rw [List.length_map, Array.length_toList] at q
  omega
theorem de_sset {B : Bg} {W : WX} {X : Cx} {e : Expr} {te : DTE} {p p2 q pos : Pos} (hc : X.calm = true) (hg : Gl X "sorted") (hm : X.mg "sorted" = none) (hg2 : Gl X "set") (hm2 : X.mg "set" = none) (h : DE B W X e te) (hs : ∀ x p, e ≠ .Starred x p) :
    DE B W X (.Call (.Name "sorted" p) [.Call (.Name "set" p2) [e] [] q] [] pos) (dCB oSset (dCons te dNil)) := by
  have na : starEach [e] X.env = (false, eval e X.env) :: starEach [] X.env := notStar_each hs
  refine ⟨dCB_mono mono_oSset (dCons_mono h.mono dNil_mono), ⟨fun pins s σ H Q I hq => ?_⟩⟩
  obtain ⟨F, r, en, st, R, hq⟩ := hq
  have hq' : te en st (fun x en1 st1 => oSset [x.d] fun t => Kpost B σ Q F r en H t en1 st1) (Epost B σ W F r en H) := hq
  have hb := at_bind (k := fun d _ en1 st1 => oSset [d] fun t => Kpost B σ Q F r en H t en1 st1) (Q := fun v H1 => ∃ F1 r1 en1 st1 d, Rel B F1 r1 en1 st1 σ H1 ∧ Rep B F1 r1 d v ∧ oSset [d] fun t => Kpost B σ Q F1 r1 en1 H1 t en1 st1) h.mono R hq' fun d en1 st1 F1 r1 H1 v S1 R1 rep1 h1 => ⟨F1, r1, en1, st1, d, R1, rep1, mono_oSset _ _ _ (fun t z => z.shift S1) h1⟩
  refine Call_ (ld_blt I hg hm boot_sorted ?_)
  refine PyProof.Rows.callWith_builtin1 (PyProof.Rows.args_cons ?_ rfl) rfl rfl
  refine Call_ (ld_blt I hg2 hm2 PyProof.Rows.boot_set ?_)
  refine PyProof.Rows.callWith_type1 (PyProof.Rows.args_cons (thn (h.run.run pins s σ H _ I hb) fun v s1 ⟨x, H1, I1, r1, q1⟩ => PyProof.Rows.args_nil ?_) na) na rfl
  obtain ⟨F1, rr, en1, st1, d, R1, rep1, h1⟩ := q1
  unfold oSset at h1
  split at h1
  · rename_i xs0 kk xs ed
    have ed' := (List.cons.inj ed).1
    subst ed'
    obtain ⟨ns, us, e1, e2, e3, e4, h1⟩ := h1
    subst e1
    obtain ⟨a, ws, rfl, ea, wr⟩ := rep1
    have ew := reps_ints_inv wr
    subst ew
    cases r1
    obtain ⟨its, rv, pl, hz⟩ := I1.list (SqL.of (R1.w.sub _ _ ea))
    refine call_set_lst ns (I1.ok.hd hc) pl.isList (by simpa using rv.ints) e2 fun h' tk c RS hcn hk => ?_
    refine PyProof.Rows.args_nil ?_
    have hf : H1 s1.heap.objs.size = none := I1.hok.fresh (Nat.le_refl _)
    have I2 := I1.laid (t' := tk) (h' := h') hk (Nat.le_refl _) (setO_new RS)
    have hlt : c < 64 := Nat.lt_of_le_of_lt (setR_le RS fun i hi => e4 i (of_decide_eq_true hi)) e3
    refine cr_sortedSet hc pins _ σ _ [.ref s1.heap.objs.size] [.ref s1.heap.objs.size] Q I2 (.cons rfl .nil) ⟨_, _, c, rfl, upd_same, hlt, fun ms p2 hp hmem _ hn => ?_⟩
    have S2 : Step σ en1 F1 rr H1 σ en1 F1 rr (upd H1 s1.heap.objs.size (SetO X.w s1.heap.objs.size (fun j => decide (j ∈ ns)) c)) := Step.alloc hf
    exact kp_new ((h1 ms hp fun i => (hmem i).trans ⟨of_decide_eq_true, decide_eq_true⟩).shift S2) (R1.alloc hf) hn ⟨_, rfl, reps_ints ms⟩
  · exact h1.elim
end Ev
set_option Elab.async false
set_option linter.all false
set_option autoImplicit false
set_option maxRecDepth 100000
/-! Ev, part Kp: x, y = a, b and x, y, z = a, b, c: things stay one's own. -/
namespace Ev
open PySem PySem.Spec PyProof.Rows L2
abbrev KAT := List T → En → List D → Prop
abbrev DTAT := En → List D → KAT → KX → Prop
def MonoAT (t : DTAT) : Prop := ∀ (en : En) (st : List D) (k k' : KAT) (e e' : KX), (∀ x n s, k x n s → k' x n s) → (∀ x n s, e x n s → e' x n s) → t en st k e → t en st k' e'
def dNilT : DTAT := fun en st k _ => k [] en st
def dConsT (te : DTE) (ta : DTAT) : DTAT := fun en st k e => te en st (fun x en1 st1 => ta en1 st1 (fun xs en2 st2 => k (x :: xs) en2 st2) e) e
theorem dNilT_mono : MonoAT dNilT := fun _ _ _ _ _ _ hk _ h => hk _ _ _ h
theorem dConsT_mono {te : DTE} {ta : DTAT} (m : MonoE te) (m' : MonoAT ta) : MonoAT (dConsT te ta) := fun _ _ _ _ _ _ hk he h => m _ _ _ _ _ _ (fun _ _ _ z => m' _ _ _ _ _ _ (fun _ _ _ y => hk _ _ _ y) he z) he h
/-- a value on the way, seen from a state before -/
def GRep (B : Bg) (F : Hp) (r : List Addr) (H : Hp) (σ : Sl) (en : En) (σ0 : Sl) (en0 : En) (H0 : Hp) : T → V → Prop
  | .v d, v => Rep B F r d v
  | .o d, v => ∃ a, v = .ref a ∧ Own B F r H d a ∧ ¬ OwnAt σ en a ∧ (H0 a = none ∨ OwnAt σ0 en0 a)
def ownsAt : List T → List V → Addr → Prop
  | .o _ :: xs, v :: vs, a => v = .ref a ∨ ownsAt xs vs a
  | .v _ :: xs, _ :: vs, a => ownsAt xs vs a
  | _, _, _ => False
def GReps (B : Bg) (F : Hp) (r : List Addr) (H : Hp) (σ : Sl) (en : En) (σ0 : Sl) (en0 : En) (H0 : Hp) : List T → List V → Prop
  | [], vs => vs = []
  | x :: xs, vs => ∃ v t, vs = v :: t ∧ GRep B F r H σ en σ0 en0 H0 x v ∧ (∀ d a, x = .o d → v = .ref a → ¬ ownsAt xs t a) ∧ GReps B F r H σ en σ0 en0 H0 xs t
section
variable {B : Bg} {W : WX} {X : Cx} {σ σ0 : Sl} {en en0 en1 : En} {F F0 F1 : Hp} {r r0 r1 : List Addr} {H H0 H1 : Hp} {st : List D} {e : Expr} {es : List Expr} {te : DTE} {ta : DTAT}
theorem TRep.keep {x : T} {v : V} (S : Step σ en F r H σ en1 F1 r1 H1) (t : TRep B F r H σ en H0 en0 x v) : GRep B F1 r1 H1 σ en1 σ en0 H0 x v := by
  cases x with
  | v d => exact Rep.step t S
  | o d =>
    obtain ⟨a, rfl, ⟨q1, q2, o, q3, q4⟩, q5, q6⟩ := t
    refine ⟨a, rfl, ⟨?_, ?_, o, S.keep a o q3 q2 q5, q4.mono S.grow S.prx⟩, fun z => ?_, q6⟩
    · cases z : F1 a with
      | none => rfl
      | some u =>
        rcases S.new a u z with y | y | y
        · rw [q1] at y; cases y
        · rw [q3] at y; cases y
        · exact absurd y q5
    · obtain ⟨t, rfl, ht⟩ := S.pre
      intro z
      rcases List.mem_append.mp z with z | z
      · exact q2 z
      · rcases ht a z with y | y
        · rw [q3] at y; cases y
        · exact q5 y
    · rcases S.owns a z with y | y
      · exact q5 y
      · rw [q3] at y; cases y
theorem GRep.shift {F' : Hp} {r' : List Addr} {H' : Hp} {en' : En} {x : T} {v : V} (S : Step σ en F r H σ en1 F1 r1 H1) (t : GRep B F' r' H' σ en' σ en1 H1 x v) : GRep B F' r' H' σ en' σ en H x v := by
  cases x with
  | v d => exact t
  | o d =>
    obtain ⟨a, e, q1, q2, q3⟩ := t
    refine ⟨a, e, q1, q2, ?_⟩
    rcases q3 with q | q
    · exact .inl (S.there a q)
    · exact (S.owns a q).symm
theorem GReps.shift {F' : Hp} {r' : List Addr} {H' : Hp} {en' : En} (S : Step σ en F r H σ en1 F1 r1 H1) : ∀ {xs : List T} {vs : List V}, GReps B F' r' H' σ en' σ en1 H1 xs vs → GReps B F' r' H' σ en' σ en H xs vs
  | [], vs, h => h
  | x :: xs, vs, ⟨v, t, e, h1, h2, h3⟩ => ⟨v, t, e, h1.shift S, h2, h3.shift S⟩
theorem GReps.orig {a : Addr} : ∀ {xs : List T} {vs : List V}, GReps B F r H σ en σ0 en0 H0 xs vs → ownsAt xs vs a → H0 a = none ∨ OwnAt σ0 en0 a
  | [], vs, h, o => by cases h; exact o.elim
  | .v d :: xs, vs, ⟨v, t, e, h1, h2, h3⟩, o => by
    subst e
    exact h3.orig o
  | .o d :: xs, vs, ⟨v, t, e, h1, h2, h3⟩, o => by
    subst e
    rcases o with o | o
    · obtain ⟨b, e1, _, _, q⟩ := h1
      rw [o] at e1
      cases e1
      exact q
    · exact h3.orig o
theorem GReps.len : ∀ {xs : List T} {vs : List V}, GReps B F r H σ en σ0 en0 H0 xs vs → vs.length = xs.length
  | [], vs, h => by cases h; rfl
  | x :: xs, vs, ⟨v, t, e, h1, h2, h3⟩ => by
    subst e
    exact congrArg Nat.succ h3.len
def ApostT (B : Bg) (σ : Sl) (Q : List V → Hp → Prop) (F : Hp) (r : List Addr) (en : En) (H : Hp) : KAT := fun xs en' st' =>
  ∀ F' r' H' vs, Step σ en F r H σ en' F' r' H' → Rel B F' r' en' st' σ H' → GReps B F' r' H' σ en' σ en H xs vs → Q vs H'
def tMAT (B : Bg) (W : WX) (t : DTAT) : TA := fun σ H Q => ∃ F r en st, Rel B F r en st σ H ∧ t en st (ApostT B σ Q F r en H) (Epost B σ W F r en H)
structure DAT (B : Bg) (W : WX) (X : Cx) (es : List Expr) (t : DTAT) : Prop where
  mono : MonoAT t
  run : PA X es (tMAT B W t)
theorem dat_nil : DAT B W X [] dNilT := ⟨dNilT_mono, PA.weak pa_nil fun σ H Q ⟨F, r, en, st, R, q⟩ => q F r H [] Step.refl R rfl⟩
theorem dat_cons (h : DE B W X e te) (h' : DAT B W X es ta) (hs : ∀ x p, e ≠ .Starred x p) : DAT B W X (e :: es) (dConsT te ta) := by
  refine ⟨dConsT_mono h.mono h'.mono, PA.weak (pa_cons h.run h'.run (notStar_each hs)) fun σ H Q ⟨F, r, en, st, R, q⟩ => ?_⟩
  refine ⟨F, r, en, st, R, h.mono _ _ _ _ _ _ (fun x en1 st1 h1 => ?_) (fun _ _ _ z => z) q⟩
  intro F1 r1 H1 v S1 R1 t1
  refine ⟨F1, r1, en1, st1, R1, h'.mono _ _ _ _ _ _ (fun xs en2 st2 z => ?_) (fun _ _ _ z => z.shift S1) h1⟩
  intro F2 r2 H2 vs S2 R2 ts2
  refine z F2 r2 H2 (v :: vs) (S1.trans S2) R2 ⟨v, vs, rfl, t1.keep S2, fun d a e1 e2 o => ?_, ts2.shift S1⟩
  subst e1 e2
  obtain ⟨b, e, ⟨_, _, u, q3, _⟩, q5, _⟩ := t1
  cases e
  rcases ts2.orig o with y | y
  · rw [q3] at y; cases y
  · exact q5 y
/-- a slot is stored, seen from a state before -/
theorem Rel.setG {i : Nat} {x : T} {v : V} (S : Step σ0 en0 F0 r0 H0 σ en F r H) (R : Rel B F r en st σ H) (t : GRep B F r H σ en σ0 en0 H0 x v) :
    Step σ0 en0 F0 r0 H0 (σ.set i (some v)) (en.set i (some x)) F r H ∧ Rel B F r (en.set i (some x)) st (σ.set i (some v)) H := by
  by_cases hi : i < σ.length
  · have hie : i < en.length := by rw [R.len]; exact hi
    constructor
    · refine ⟨S.keep, S.there, S.grow, S.pre, S.new, fun a ⟨j, z⟩ => ?_⟩
      rcases own_set z with ⟨_, z⟩ | ⟨_, d, e1, e2⟩
      · exact S.owns a ⟨j, z⟩
      · cases e1
        cases e2
        obtain ⟨a', e, _, _, q⟩ := t
        cases e
        exact q.symm
    · -- the state alone: as from a heap in which nothing stood
      have tt : TRep B F r H σ en (fun _ => none) en x v := by
        cases x with
        | v d => exact t
        | o d =>
          obtain ⟨a, e, q1, q2, _⟩ := t
          exact ⟨a, e, q1, q2, .inl rfl⟩
      have SS : Step σ en (fun _ => none) [] (fun _ => none) σ en F r H := ⟨fun a o e => (nomatch e), fun _ _ => rfl, fun a o e => (nomatch e), ⟨r, rfl, fun _ _ => .inl rfl⟩, fun _ _ _ => .inr (.inl rfl), fun _ _ => .inr rfl⟩
      exact (Rel.set SS R tt hi).2
  · rw [set_far hi, set_far (by rw [R.len]; exact hi)]
    exact ⟨S, R⟩
theorem GReps.setOne {i : Nat} {x : T} {v : V} : ∀ {xs : List T} {vs : List V}, GReps B F r H σ en σ0 en0 H0 xs vs → (∀ d a, x = .o d → v = .ref a → ¬ ownsAt xs vs a) → GReps B F r H (σ.set i (some v)) (en.set i (some x)) σ0 en0 H0 xs vs
  | [], vs, h, _ => h
  | y :: xs, vs, ⟨u, t, e, h1, h2, h3⟩, hn => by
    subst e
    refine ⟨u, t, rfl, ?_, h2, h3.setOne fun d a e1 e2 o => hn d a e1 e2 ?_⟩
    · cases y with
      | v d => exact h1
      | o d =>
        obtain ⟨a, e, q1, q2, q3⟩ := h1
        refine ⟨a, e, q1, fun ⟨j, z⟩ => ?_, q3⟩
        rcases own_set z with ⟨_, z⟩ | ⟨_, d', e1, e2⟩
        · exact q2 ⟨j, z⟩
        · cases e1
          cases e2
          exact hn _ a rfl rfl (.inl e)
    · cases y with
      | v d' => exact o
      | o d' => exact .inr o
def setsT : List Nat → List T → En → En
  | i :: is, x :: xs, en => setsT is xs (en.set i (some x))
  | _, _, en => en
theorem sets_relG : ∀ {is : List Nat} {xs : List T} {ws : List V} {σ : Sl} {en : En}, Step σ0 en0 F0 r0 H0 σ en F r H → Rel B F r en st σ H → GReps B F r H σ en σ0 en0 H0 xs ws → xs.length = is.length →
    ∃ σ', σ' = (List.zip is ws).foldl (fun s p => s.set p.1 (some p.2)) σ ∧ Step σ0 en0 F0 r0 H0 σ' (setsT is xs en) F r H ∧ Rel B F r (setsT is xs en) st σ' H
  | [], [], ws, σ, en, S, R, p, _ => ⟨σ, by cases p; rfl, S, R⟩
  | i :: is, x :: xs, ws, σ, en, S, R, p, hl => by
    obtain ⟨v, t, e, p1, p2, p3⟩ := p
    subst e
    obtain ⟨S1, R1⟩ := Rel.setG (i := i) S R p1
    exact sets_relG (is := is) (xs := xs) (ws := t) S1 R1 (p3.setOne p2) (Nat.succ.inj hl)
def dPar (is : List Nat) (ta : DTAT) : DTS := fun en st P => ta en st (fun xs en1 st1 => xs.length = is.length ∧ P.nx (setsT is xs en1) st1) P.ex
theorem dPar_mono {is : List Nat} (m : MonoAT ta) : MonoS (dPar is ta) := fun _ _ _ _ h q => m _ _ _ _ _ _ (fun _ _ _ z => ⟨z.1, h.nx _ _ z.2⟩) h.ex q
end
section
variable {B : Bg} {W : WX} {X : Cx} {a b c : Expr} {tA : DTAT} {pos : Pos}
theorem par_read {is : List Nat} {D : Ends} {σ : Sl} {H : Hp} {es : List Expr} (m : MonoAT tA) (h : tS B W (dPar is tA) D σ H) : tMAT B W tA σ H fun vs H1 => vs.length = is.length ∧ D.nx ((List.zip is vs).foldl (fun s p => s.set p.1 (some p.2)) σ) H1 := by
  obtain ⟨F, r, en, st, R, q⟩ := h
  refine ⟨F, r, en, st, R, m _ _ _ _ _ _ (fun xs en1 st1 z => ?_) (fun _ _ _ z => ex_of z) q⟩
  intro F1 r1 H1 vs S1 R1 g
  obtain ⟨σ', e, S2, R2⟩ := sets_relG S1 R1 g z.1
  refine ⟨g.len.trans z.1, ?_⟩
  rw [← e]
  exact z.2 σ' F1 r1 H1 S2 R2
theorem ds_par2 {i j : Nat} {x y : Str} {px py pt : Pos} {kt k2 : Nat} {pt2 : Pos} (hc : X.calm = true) (hN : X.N.Nodup) (hi : X.N[i]? = some x) (hj : X.N[j]? = some y) (hij : i ≠ j) (hx : X.env.scope.names.lookup x = some .local) (hy : X.env.scope.names.lookup y = some .local) (ha : DAT B W X [a, b] tA)
    (hw : swappedStores [.Tuple [.Name x px, .Name y py] kt pt] (.Tuple [a, b] k2 pt2) X.env = pure (some [x, y])) : DS B W X (.Assign [.Tuple [.Name x px, .Name y py] kt pt] (.Tuple [a, b] k2 pt2) pos) (dPar [i, j] tA) := by
  refine ⟨dPar_mono ha.mono, PS.weak (ps_par hc hN hi hj hij hx hy (PA.weak ha.run fun σ H Q h => h) hw rfl) fun D σ H h => ?_⟩
  obtain ⟨F, r, en, st, R, q⟩ := par_read (es := [a, b]) ha.mono h
  refine ⟨F, r, en, st, R, ha.mono _ _ _ _ _ _ (fun xs en1 st1 z => ?_) (fun _ _ _ z => z) q⟩
  intro F1 r1 H1 vs S1 R1 g
  obtain ⟨l, z⟩ := z F1 r1 H1 vs S1 R1 g
  match vs, l with
  | [v, w], _ => exact ⟨v, w, rfl, z⟩
theorem ds_par3 {i j l : Nat} {x y z : Str} {px py pz pt : Pos} {kt k2 : Nat} {pt2 : Pos} (hc : X.calm = true) (hN : X.N.Nodup) (hi : X.N[i]? = some x) (hj : X.N[j]? = some y) (hl : X.N[l]? = some z) (hij : i ≠ j) (hil : i ≠ l) (hjl : j ≠ l) (hx : X.env.scope.names.lookup x = some .local) (hy : X.env.scope.names.lookup y = some .local) (hz : X.env.scope.names.lookup z = some .local) (ha : DAT B W X [a, b, c] tA)
    (hw : swappedStores [.Tuple [.Name x px, .Name y py, .Name z pz] kt pt] (.Tuple [a, b, c] k2 pt2) X.env = pure (some [x, y, z])) : DS B W X (.Assign [.Tuple [.Name x px, .Name y py, .Name z pz] kt pt] (.Tuple [a, b, c] k2 pt2) pos) (dPar [i, j, l] tA) := by
  refine ⟨dPar_mono ha.mono, PS.weak (ps_par3 hc hN hi hj hl hij hil hjl hx hy hz ha.run hw rfl) fun D σ H h => ?_⟩
  obtain ⟨F, r, en, st, R, q⟩ := par_read (es := [a, b, c]) ha.mono h
  refine ⟨F, r, en, st, R, ha.mono _ _ _ _ _ _ (fun xs en1 st1 z => ?_) (fun _ _ _ z => z) q⟩
  intro F1 r1 H1 vs S1 R1 g
  obtain ⟨l, z⟩ := z F1 r1 H1 vs S1 R1 g
  match vs, l with
  | [v, w, u], _ => exact ⟨v, w, u, rfl, z⟩
end
end Ev
set_option Elab.async false
set_option linter.all false
set_option autoImplicit false
set_option maxRecDepth 100000
/-! Ev, part L: the small syntax, its meaning, and how a text becomes one. -/
namespace Ev
open PySem PySem.Spec PyProof.Rows L2
inductive Bi where
  | len | abs | min | max | int | all | any | sum | sorted | tuple | list | divmod | str | repr | isinstance
  deriving DecidableEq
def Bi.nm : Bi → Str
  | .len => "len"
  | .abs => "abs"
  | .min => "min"
  | .max => "max"
  | .int => "int"
  | .all => "all"
  | .any => "any"
  | .sum => "sum"
  | .sorted => "sorted"
  | .tuple => "tuple"
  | .list => "list"
  | .divmod => "divmod"
  | .str => "str"
  | .repr => "repr"
  | .isinstance => "isinstance"
def Bi.g : Bi → OpN
  | .len => oLen
  | .abs => oAbs
  | .min => oMin
  | .max => oMax
  | .int => oInt
  | .all => oAll
  | .any => oAny
  | .sum => oSum
  | .sorted => oSorted
  | .tuple => oTuple
  | .list => oList
  | .divmod => oDivmod
  | .str => oStr
  | .repr => oRepr
  | .isinstance => oIsi
def biAll : List Bi := [.len, .abs, .min, .max, .int, .all, .any, .sum, .sorted, .tuple, .list, .divmod, .str, .repr, .isinstance]
def biOf (x : Str) : Option Bi := biAll.find? fun f => decide (f.nm = x)
theorem biOf_nm {x : Str} {f : Bi} (h : biOf x = some f) : f.nm = x := by
  have q := List.find?_some h
  exact of_decide_eq_true q
def tyAll : List Ty := [.int, .bool, .str, .tuple, .list, .dict]
def tyOf (x : Str) : Option Ty := tyAll.find? fun t => decide (Str.ofString t.nm = x)
theorem tyOf_nm {x : Str} {t : Ty} (h : tyOf x = some t) : Str.ofString t.nm = x := by
  have q := List.find?_some h
  exact of_decide_eq_true q
mutual
inductive ME where
  | c (d : D) | var (i : Nat)
  | bin (op : Operator) (a b : ME) | cmp (op : CmpOp) (a b : ME) | chain (op op' : CmpOp) (a b c : ME)
  | neg (a : ME) | not (a : ME) | and (a b : ME) | or (a b : ME) | ite (t : MT) (a b : ME)
  | tup (as : MA) | lst (as : MA) | ix (a b : ME) | sl (a : ME) (lo hi : MO)
  | bi (f : Bi) (as : MA) | sset (a : ME) | call (p n m : Nat) (as ks : MA) | box (a : ME)
  | lc (it : MI) (ct : CT) (t : MT) (e : ME) (vs : List Nat)
inductive MT where
  | val (e : ME) | not (t : MT) | and (t u : MT) | or (t u : MT) | yes
inductive MA where
  | nil | cons (e : ME) (as : MA)
inductive MO where
  | none | some (e : ME)
inductive MI where
  | any (e : ME) | range1 (as : MA) | range2 (as : MA) | range3 (as : MA) | zip (as : MA) | enum (as : MA)
end
mutual
inductive MG where
  | name (i : Nat) | tup (n : Nat) (gs : MGs) | sub (j : Nat) (e : ME)
inductive MGs where
  | nil | cons (g : MG) (gs : MGs)
end
mutual
inductive MS where
  | expr (e : ME) | ret (e : ME) | retv (i : Nat) | retN | ifs (t : MT) (a b : MSs) | whil (t : MT) (a : MSs) | forr (it : MI) (g : MG) (a : MSs)
  | set (i : Nat) (e : ME) | par (is : List Nat) (as : MA) | asg (e : ME) (g : MG) | inc (i : Nat) (e : ME) | dec (i : Nat) (e : ME) | app (j : Nat) (e : ME) | ext (j : Nat) (e : ME)
  | pass | brk | cnt | never
inductive MSs where
  | nil | cons (s : MS) (ss : MSs)
end
def noOp : Op2 := fun _ _ _ => False
def bopG : Operator → Op2
  | .Add => oAdd
  | .Sub => oSub
  | .Mult => oMul
  | .FloorDiv => oDiv
  | .Mod => oMod
  | .Pow => oPow
  | _ => noOp
def copG : CmpOp → Op2
  | .Eq => oEq
  | .NotEq => oNe
  | .Lt => oLt
  | .LtE => oLe
  | .Gt => oGt
  | .GtE => oGe
  | .Is => oIs
  | .IsNot => oIsNot
  | .In => oIn
  | .NotIn => oNotIn
def dYes : DTT := fun en st k _ => k true en st
mutual
def wE (Γ : Nat → Gam) : ME → DTE
  | .c d => dC d
  | .var i => dVar i
  | .bin op a b => dOp (bopG op) (wE Γ a) (wE Γ b)
  | .cmp op a b => dOp (copG op) (wE Γ a) (wE Γ b)
  | .chain op op' a b c => dChain (copG op) (copG op') (wE Γ a) (wE Γ b) (wE Γ c)
  | .neg a => dNeg (wE Γ a)
  | .not a => dNotV (wE Γ a)
  | .and a b => dAndV (wE Γ a) (wE Γ b)
  | .or a b => dOrV (wE Γ a) (wE Γ b)
  | .ite t a b => dIf (wT Γ t) (wE Γ a) (wE Γ b)
  | .tup as => dTup (wA Γ as)
  | .lst as => dLst (wA Γ as)
  | .ix a b => dIx (wE Γ a) (wE Γ b)
  | .sl a lo hi => dSl (wE Γ a) (wO Γ lo) (wO Γ hi)
  | .bi f as => dCB f.g (wA Γ as)
  | .sset a => dCB oSset (dCons (wE Γ a) dNil)
  | .call p n m as ks => dCall (Γ p) n m (wA Γ as) (wA Γ ks)
  | .box a => dBox (wE Γ a)
  | .lc it ct t e vs => dLc (wI Γ it) ct (wT Γ t) (wE Γ e) vs
def wT (Γ : Nat → Gam) : MT → DTT
  | .val e => dTst (wE Γ e)
  | .not t => dNotT (wT Γ t)
  | .and t u => dAndT (wT Γ t) (wT Γ u)
  | .or t u => dOrT (wT Γ t) (wT Γ u)
  | .yes => dYes
def wA (Γ : Nat → Gam) : MA → DTA
  | .nil => dNil
  | .cons e as => dCons (wE Γ e) (wA Γ as)
def wO (Γ : Nat → Gam) : MO → DTO
  | .none => dNoPart
  | .some e => dPart (wE Γ e)
def wI (Γ : Nat → Gam) : MI → DTI
  | .any e => dAny (wE Γ e)
  | .range1 as => dRange1 (wA Γ as)
  | .range2 as => dRange2 (wA Γ as)
  | .range3 as => dRange3 (wA Γ as)
  | .zip as => dZip (wA Γ as)
  | .enum as => dEnum (wA Γ as)
end
/-- values stored at once -/
def wP (Γ : Nat → Gam) : MA → DTAT
  | .nil => dNilT
  | .cons e as => dConsT (wE Γ e) (wP Γ as)
mutual
def wG (Γ : Nat → Gam) : MG → DTG
  | .name i => dgName i
  | .tup n gs => dgTup n (wGs Γ gs)
  | .sub j e => dgSub j (wE Γ e)
def wGs (Γ : Nat → Gam) : MGs → DTGs
  | .nil => dgNil
  | .cons g gs => dgCons (wG Γ g) (wGs Γ gs)
end
mutual
def wS (Γ : Nat → Gam) : MS → DTS
  | .expr e => dDrop (wE Γ e)
  | .ret e => dRet (wE Γ e)
  | .retv i => dRetV i
  | .retN => dRetN
  | .ifs t a b => dIfS (wT Γ t) (wSs Γ a) (wSs Γ b)
  | .whil t a => dWhile (wT Γ t) (wSs Γ a)
  | .forr it g a => dFor (wI Γ it) (wG Γ g) (wSs Γ a)
  | .set i e => dSet i (wE Γ e)
  | .par is as => dPar is (wP Γ as)
  | .asg e g => dAsg (wE Γ e) (wG Γ g)
  | .inc i e => dAug i (fun a b => a + b) (wE Γ e)
  | .dec i e => dAug i (fun a b => a - b) (wE Γ e)
  | .app j e => dApp j fApp (wE Γ e)
  | .ext j e => dApp j fExt (wE Γ e)
  | .pass => dNext
  | .brk => dBreak
  | .cnt => dCont
  | .never => dNever
def wSs (Γ : Nat → Gam) : MSs → DTS
  | .nil => dNext
  | .cons s ss => dSeq (wS Γ s) (wSs Γ ss)
end
/-! ### from the text -/
/-- a call of a def as it is written: the name, how many by position, the keywords' names, which places take boxes -/
structure Pat where
  x : Str
  n : Nat
  ks : List Str
  bx : List Bool
structure CC where
  N : List Str
  glob : List (Str × D)
  pats : List Pat
def slotOf : List Str → Str → Option Nat
  | [], _ => none
  | y :: ys, x => if y = x then some 0 else (slotOf ys x).map Nat.succ
theorem slotOf_get : ∀ {N : List Str} {x : Str} {i : Nat}, slotOf N x = some i → N[i]? = some x
  | [], x, i, h => by cases h
  | y :: ys, x, i, h => by
    unfold slotOf at h
    split at h
    · rename_i e
      cases h
      rw [e]
      rfl
    · obtain ⟨j, h1, rfl⟩ := Option.map_eq_some_iff.mp h
      rw [List.getElem?_cons_succ]
      exact slotOf_get h1
def visB (sc : Scope) (x : Str) : Bool := match sc.names.lookup x with
  | some .local => true
  | some .cell => true
  | some .free => true
  | _ => false
def locB (sc : Scope) (x : Str) : Bool := match sc.names.lookup x with
  | some .local => true
  | some .cell => true
  | _ => false
def gloB (sc : Scope) (x : Str) : Bool := match sc.names.lookup x with
  | some .globalImplicit => true
  | _ => false
theorem visB_vis {sc : Scope} {x : Str} (h : visB sc x = true) : Vis sc x := by
  unfold visB at h
  split at h
  · exact .inl (by assumption)
  · exact .inr (.inl (by assumption))
  · exact .inr (.inr (by assumption))
  · cases h
theorem locB_loc {sc : Scope} {x : Str} (h : locB sc x = true) : Loc sc x := by
  unfold locB at h
  split at h
  · exact .inl (by assumption)
  · exact .inr (by assumption)
  · cases h
theorem gloB_glo {sc : Scope} {x : Str} (h : gloB sc x = true) : sc.names.lookup x = some .globalImplicit := by
  unfold gloB at h
  split at h
  · assumption
  · cases h
def okNm (x : Str) : Bool := !(x == ("__debug__" : Str)) && !(x == ("__classdict__" : Str))
theorem okNm_1 {x : Str} (h : okNm x = true) : (x == ("__debug__" : Str)) = false ∧ (x == ("__classdict__" : Str)) = false := by
  unfold okNm at h
  rw [Bool.and_eq_true] at h
  exact ⟨by simpa using h.1, by simpa using h.2⟩
/-- the place of a local name -/
def vSlot (C : CC) (sc : Scope) (x : Str) : Option Nat := if visB sc x && okNm x then slotOf C.N x else none
def lSlot (C : CC) (sc : Scope) (x : Str) : Option Nat := if locB sc x && okNm x then slotOf C.N x else none
def okOp : Operator → Bool
  | .Add => true
  | .Sub => true
  | .Mult => true
  | .FloorDiv => true
  | .Mod => true
  | .Pow => true
  | _ => false
def isName : Expr → Bool
  | .Name _ _ => true
  | _ => false
def findPat (x : Str) (n : Nat) (ks : List Str) : List Pat → Nat → Option (Nat × Pat)
  | [], _ => none
  | p :: ps, i => if p.x = x ∧ p.n = n ∧ p.ks = ks then some (i, p) else findPat x n ks ps (i + 1)
theorem findPat_get {x : Str} {n : Nat} {ks : List Str} {i : Nat} {p : Pat} : ∀ {ps : List Pat} {j : Nat}, findPat x n ks ps j = some (i, p) → j ≤ i ∧ ps[i - j]? = some p ∧ p.x = x ∧ p.n = n ∧ p.ks = ks
  | [], j, h => by cases h
  | q :: qs, j, h => by
    unfold findPat at h
    split at h
    · rename_i e
      cases h
      exact ⟨Nat.le_refl _, by rw [Nat.sub_self]; rfl, e⟩
    · obtain ⟨h1, h2, h3⟩ := findPat_get h
      refine ⟨by omega, ?_, h3⟩
      have e : i - j = (i - (j + 1)) + 1 := by omega
      rw [e, List.getElem?_cons_succ]
      exact h2
def namesOf : List Expr → Option (List Str)
  | [] => some []
  | .Name x _ :: es => (namesOf es).map (x :: ·)
  | _ => none
def slotsOf (C : CC) (sc : Scope) : List Expr → Option (List Nat)
  | [] => some []
  | .Name x _ :: es => (lSlot C sc x).bind fun i => (slotsOf C sc es).map (i :: ·)
  | _ => none
def ctOf (C : CC) (sc : Scope) : Expr → Option CT
  | .Name x _ => (lSlot C sc x).map .one
  | .Tuple es _ _ => (slotsOf C sc es).map .many
  | _ => none
def ownOf (N : List Str) : List (Str × NameKind) → List (Str × Nat)
  | [] => []
  | (x, k) :: r => match k with
    | .local => (match slotOf N x with
      | some i => (x, i) :: ownOf N r
      | none => ownOf N r)
    | .cell => (match slotOf N x with
      | some i => (x, i) :: ownOf N r
      | none => ownOf N r)
    | _ => ownOf N r
/-- in a block every stored name is a cell of its own or a local one -/
def blkNm (scope sc : Scope) (x : Str) : Bool := (scope.names.lookup x == some .cell) || ((relS scope sc).names.lookup x == some .local)
def blkNms (scope sc : Scope) : Expr → Bool
  | .Name x _ => blkNm scope sc x
  | .Tuple es _ _ => es.all fun e => match e with
    | .Name x _ => blkNm scope sc x
    | _ => false
  | _ => false
def isSt : Expr → Bool
  | .Starred .. => true
  | _ => false
theorem isSt_no {e : Expr} (h : isSt e = false) : ∀ x p, e ≠ .Starred x p := fun x p z => by rw [z] at h; cases h
/-- sorted(set(e)) -/
def ssetOf (sc : Scope) (x : Str) (es : List Expr) (kws : List Keyword) : Option Expr := match es, kws with
  | [.Call (.Name y _) [e] [] _], [] => if x = "sorted" ∧ y = "set" ∧ gloB sc y = true ∧ isSt e = false then some e else none
  | _, _ => none
theorem ssetOf_get {sc : Scope} {x : Str} {es : List Expr} {kws : List Keyword} {e : Expr} (h : ssetOf sc x es kws = some e) : x = "sorted" ∧ kws = [] ∧ gloB sc "set" = true ∧ isSt e = false ∧ ∃ p q, es = [.Call (.Name "set" p) [e] [] q] := by
  unfold ssetOf at h
  split at h
  · split at h
    · rename_i c
      obtain ⟨c1, rfl, c3, c4⟩ := c
      cases h
      exact ⟨c1, rfl, c3, c4, _, _, rfl⟩
    · cases h
  · cases h
mutual
def cE : Nat → CC → Scope → Expr → Option ME
  | 0, _, _, _ => none
  | n + 1, C, sc, e => match e with
    | .Constant (.int i) _ _ => some (.c (.int i))
    | .Constant (.str s) _ _ => some (.c (.str s))
    | .Constant (.bool b) _ _ => some (.c (.bl b))
    | .Constant .none _ _ => some (.c .non)
    | .Name x _ => match vSlot C sc x with
      | some i => some (.var i)
      | none => if gloB sc x && okNm x then (match C.glob.lookup x with
        | some d => some (.c d)
        | none => (tyOf x).map fun t => .c (.ty t)) else none
    | .BinOp a op b _ => if okOp op then (cE n C sc a).bind fun ma => (cE n C sc b).bind fun mb => some (.bin op ma mb) else none
    | .Compare a [op] [b] _ => (cE n C sc a).bind fun ma => (cE n C sc b).bind fun mb => some (.cmp op ma mb)
    | .Compare a [op, op'] [b, c] _ => (cE n C sc a).bind fun ma => (cE n C sc b).bind fun mb => (cE n C sc c).bind fun mc => some (.chain op op' ma mb mc)
    | .UnaryOp .USub a _ => (cE n C sc a).bind fun ma => some (.neg ma)
    | .UnaryOp .Not a _ => (cE n C sc a).bind fun ma => some (.not ma)
    | .BoolOp op es _ => cB n C sc op es
    | .IfExp t a b _ => (cT n C sc t).bind fun mt => (cE n C sc a).bind fun ma => (cE n C sc b).bind fun mb => some (.ite mt ma mb)
    | .Tuple es _ _ => (cA n C sc es).bind fun as => some (.tup as)
    | .List es _ => (cA n C sc es).bind fun as => some (.lst as)
    | .Subscript a (.Slice lo hi none _) _ => (cE n C sc a).bind fun ma => (cO n C sc lo).bind fun ml => (cO n C sc hi).bind fun mh => some (.sl ma ml mh)
    | .Subscript a b _ => (cE n C sc a).bind fun ma => (cE n C sc b).bind fun mb => some (.ix ma mb)
    | .Call (.Name x _) es kws _ => if gloB sc x && okNm x && kws.all (·.arg.isSome) then
        (match findPat x es.length (kws.filterMap (·.arg)) C.pats 0 with
        | some (p, q) => (cAB n C sc q.bx es).bind fun as => (cK n C sc kws).bind fun ks => some (.call p es.length q.ks.length as ks)
        | none => match ssetOf sc x es kws with
          | some e => (cE n C sc e).bind fun ma => some (.sset ma)
          | none => match es, kws with
            | e :: es', [] => (biOf x).bind fun f => (cA n C sc (e :: es')).bind fun as => some (.bi f as)
            | _, _ => none) else none
    | .ListComp elt [⟨tg, iter, ifs, ia⟩] scope _ => if ia = 0 then cL n C sc elt tg iter ifs scope else none
    | _ => none
/-- a comprehension -/
def cL : Nat → CC → Scope → Expr → Expr → Expr → List Expr → Scope → Option ME
  | 0, _, _, _, _, _, _, _ => none
  | n + 1, C, sc, elt, tg, iter, ifs, scope =>
    if blkC C.N sc scope (ownOf C.N scope.names) && blkNms scope sc tg then
      (cI n C sc tg iter).bind fun mi => (ctOf C (relS scope sc) tg).bind fun ct => if ct.slots.all (fun i => ((ownOf C.N scope.names).map Prod.snd).contains i) then
        (match ifs with
          | [] => some MT.yes
          | [t] => cT n C (relS scope sc) t
          | _ => none).bind fun mt => (cE n C (relS scope sc) elt).bind fun me => some (.lc mi ct mt me ((ownOf C.N scope.names).map Prod.snd)) else none
    else none
/-- the values of and, or -/
def cB : Nat → CC → Scope → BoolOp → List Expr → Option ME
  | 0, _, _, _, _ => none
  | n + 1, C, sc, op, es => match es with
    | [a] => cE n C sc a
    | a :: b :: r => (cE n C sc a).bind fun ma => (cB n C sc op (b :: r)).bind fun mb => match op with
      | .And => some (.and ma mb)
      | .Or => some (.or ma mb)
    | [] => none
def cT : Nat → CC → Scope → Expr → Option MT
  | 0, _, _, _ => none
  | n + 1, C, sc, e => match e with
    | .BoolOp op es _ => cTB n C sc op es
    | .UnaryOp .Not a _ => (cT n C sc a).bind fun t => some (.not t)
    | .Compare a [op] [b] _ => (cE n C sc a).bind fun ma => (cE n C sc b).bind fun mb => some (.val (.cmp op ma mb))
    | .Compare a [op, op'] [b, c] _ => (cE n C sc a).bind fun ma => (cE n C sc b).bind fun mb => (cE n C sc c).bind fun mc => some (.val (.chain op op' ma mb mc))
    | .Name x p => (cE n C sc (.Name x p)).bind fun m => some (.val m)
    | .Call f es ks p => (cE n C sc (.Call f es ks p)).bind fun m => some (.val m)
    | .Subscript a b p => (cE n C sc (.Subscript a b p)).bind fun m => some (.val m)
    | _ => none
def cTB : Nat → CC → Scope → BoolOp → List Expr → Option MT
  | 0, _, _, _, _ => none
  | n + 1, C, sc, op, es => match es with
    | [a] => cT n C sc a
    | a :: b :: r => (cT n C sc a).bind fun ma => (cTB n C sc op (b :: r)).bind fun mb => match op with
      | .And => some (.and ma mb)
      | .Or => some (.or ma mb)
    | [] => none
def cA : Nat → CC → Scope → List Expr → Option MA
  | 0, _, _, _ => none
  | n + 1, C, sc, es => match es with
    | [] => some .nil
    | e :: r => (cE n C sc e).bind fun m => (cA n C sc r).bind fun as => some (.cons m as)
/-- arguments, some of them boxes -/
def cAB : Nat → CC → Scope → List Bool → List Expr → Option MA
  | 0, _, _, _, _ => none
  | n + 1, C, sc, bx, es => match es with
    | [] => some .nil
    | e :: r => (cE n C sc e).bind fun m => (cAB n C sc bx.tail r).bind fun as => some (.cons (if bx.headD false && !isName e then .box m else m) as)
def cK : Nat → CC → Scope → List Keyword → Option MA
  | 0, _, _, _ => none
  | n + 1, C, sc, es => match es with
    | [] => some .nil
    | ⟨_, e, _⟩ :: r => (cE n C sc e).bind fun m => (cK n C sc r).bind fun as => some (.cons m as)
def cO : Nat → CC → Scope → Option Expr → Option MO
  | 0, _, _, _ => none
  | n + 1, C, sc, e => match e with
    | none => some .none
    | some e => (cE n C sc e).bind fun m => some (.some m)
def cI : Nat → CC → Scope → Expr → Expr → Option MI
  | 0, _, _, _, _ => none
  | n + 1, C, sc, tg, e => match e with
    | .Call (.Name x _) [a] [] _ => if x = "range" ∧ gloB sc x = true then (cA n C sc [a]).bind fun as => some (.range1 as)
      else if x = "enumerate" ∧ gloB sc x = true then (match tg with
        | .Tuple _ _ _ => (cA n C sc [a]).bind fun as => some (.enum as)
        | _ => none) else (cE n C sc e).bind fun m => some (.any m)
    | .Call (.Name x _) [a, b] [] _ => if x = "range" ∧ gloB sc x = true then (cA n C sc [a, b]).bind fun as => some (.range2 as)
      else if x = "zip" ∧ gloB sc x = true then (match tg with
        | .Tuple _ _ _ => (cA n C sc [a, b]).bind fun as => some (.zip as)
        | _ => none) else (cE n C sc e).bind fun m => some (.any m)
    | .Call (.Name x _) [a, b, c] [] _ => if x = "range" ∧ gloB sc x = true then (cA n C sc [a, b, c]).bind fun as => some (.range3 as) else (cE n C sc e).bind fun m => some (.any m)
    | .Set _ _ _ => none
    | _ => (cE n C sc e).bind fun m => some (.any m)
end
end Ev
set_option Elab.async false
set_option linter.all false
set_option autoImplicit false
set_option maxRecDepth 100000
/-! Ev, part M: the small syntax of an expression tells what the expression does. -/
namespace Ev
open PySem PySem.Spec PyProof.Rows L2
structure Amb where
  P : Program
  w : PySem.World
  mg : Str → Option Value
  base : Heap
  k : Nat
structure InAmb (A : Amb) (B : Bg) (X : Cx) : Prop where
  prog : X.prog = A.P
  w : X.w = A.w
  K : X.K = B.K
  mg : X.mg = A.mg
  base : X.base = A.base
  room : Room A.k X.A
  gd : X.A.guards = some []
def bltNames : List Str := biAll.map Bi.nm ++ tyAll.map (fun t => Str.ofString t.nm) ++ (["range", "zip", "enumerate", "set"] : List Str)
structure GC (A : Amb) (B : Bg) (Γ : Nat → Gam) (C : CC) (W : WX) (sc : Scope) (X : Cx) : Prop where
  amb : InAmb A B X
  sco : X.env.scope = sc
  N : X.N = C.N
  nd : C.N.Nodup
  calm : X.calm = true
  tk : Takes X W
  blt : ∀ x ∈ bltNames, A.mg x = none
  glo : ∀ x d, C.glob.lookup x = some d → ∃ v u, A.mg x = some u ∧ RelV v u ∧ ∀ F r, Rep B F r d v
  cal : ∀ p q, C.pats[p]? = some q → ∀ X' W', InAmb A B X' → Takes X' W' → CallOk B W' X' q.x q.n q.ks (Γ p)
theorem mono_noOp : Mono2 noOp := fun _ _ _ _ _ h => h
theorem mono_bop (op : Operator) : Mono2 (bopG op) := by
  cases op <;> first | exact mono_oAdd | exact mono_oSub | exact mono_oMul | exact mono_oDiv | exact mono_oMod | exact mono_oPow | exact mono_noOp
theorem mono_cop (op : CmpOp) : Mono2 (copG op) := by
  cases op <;> first | exact mono_oEq | exact mono_oNe | exact mono_oLt | exact mono_oLe | exact mono_oGt | exact mono_oGe | exact mono_oIs | exact mono_oIsNot | exact mono_oIn | exact mono_oNotIn
theorem mono_bi (f : Bi) : MonoN f.g := by
  cases f <;> first | exact mono_oLen | exact mono_oAbs | exact mono_oMin | exact mono_oMax | exact mono_oInt | exact mono_oAll | exact mono_oAny | exact mono_oSum | exact mono_oSorted | exact mono_oTuple | exact mono_oList | exact mono_oDivmod | exact mono_oStr | exact mono_oRepr | exact mono_oIsi
section
variable {A : Amb} {B : Bg} {Γ : Nat → Gam} {C : CC} {W : WX} {sc : Scope} {X : Cx}
theorem GC.units (G : GC A B Γ C W sc X) : X.A.units + 200 < cLine := by have := G.amb.room.un; omega
theorem bop_ok (G : GC A B Γ C W sc X) {op : Operator} (h : okOp op = true) : OpR X (binaryOp op) (rG B (bopG op)) := by
  cases op <;> first | exact or_add G.amb.K | exact or_sub | exact or_mul | exact or_div | exact or_mod | exact or_pow | cases h
theorem cop_ok (G : GC A B Γ C W sc X) (op : CmpOp) : OpR X (compareOp op) (rG B (copG op)) := by
  have hu : X.A.units + 64 < cLine := by have := G.units; omega
  cases op
  · exact or_eq G.amb.K hu
  · exact or_ne G.amb.K hu
  · exact or_lt
  · exact or_le
  · exact or_gt
  · exact or_ge
  · exact or_is
  · exact or_isnot
  · exact or_in G.amb.K
  · exact or_notin G.amb.K
theorem GC.gl (G : GC A B Γ C W sc X) {x : Str} (h : gloB sc x = true) : Gl X x := by
  show X.env.scope.names.lookup x = some .globalImplicit
  rw [G.sco]
  exact gloB_glo h
theorem GC.free (G : GC A B Γ C W sc X) {x : Str} (h : x ∈ bltNames) : X.mg x = none := by rw [G.amb.mg]; exact G.blt x h
theorem bi_in (f : Bi) : f.nm ∈ bltNames := by cases f <;> decide +kernel
theorem ty_in (t : Ty) : Str.ofString t.nm ∈ bltNames := by cases t <;> decide +kernel
theorem ty_boot (t : Ty) : bootBuiltins (Str.ofString t.nm) = some (.type t.nm) := by cases t <;> decide +kernel
theorem ty_ne (t : Ty) : Str.ofString t.nm ≠ "__name__" := by cases t <;> decide +kernel
theorem bi_ne (f : Bi) : f.nm ≠ "__name__" := by cases f <;> decide +kernel
theorem bi_ok (G : GC A B Γ C W sc X) (f : Bi) {e : Expr} {es : List Expr} {tA : DTA} {p pos : Pos} (hg : gloB sc f.nm = true) (hd : (f.nm == ("__debug__" : Str)) = false) (ha : DA B W X (e :: es) tA) (hs : ∀ x ∈ e :: es, ∀ y q, x ≠ .Starred y q) :
    DE B W X (.Call (.Name f.nm p) (e :: es) [] pos) (dCB f.g tA) := by
  have hf := G.free (bi_in f)
  have h1 : ∀ y q, e ≠ .Starred y q := hs e List.mem_cons_self
  have h2 := noStars (env := X.env) (es := es) (fun x hx => hs x (List.mem_cons_of_mem _ hx)) pos
  have h3 := G.gl hg
  have hn := bi_ne f
  have hu : X.A.units + 66 < cLine := by have := G.units; omega
  cases f
  · exact de_callB (cr_len G.amb.K) mono_oLen h3 hf (by decide +kernel) ha hn hd h1 h2
  · exact de_callB cr_abs mono_oAbs h3 hf (by decide +kernel) ha hn hd h1 h2
  · exact de_callB (cr_minD G.calm) mono_oMin h3 hf (by decide +kernel) ha hn hd h1 h2
  · exact de_callB (cr_maxD G.calm) mono_oMax h3 hf (by decide +kernel) ha hn hd h1 h2
  · exact de_callTy cr_int mono_oInt h3 hf (by decide +kernel) ha hn hd h1 h2
  · exact de_callB (cr_allD G.calm) mono_oAll h3 hf (by decide +kernel) ha hn hd h1 h2
  · exact de_callB (cr_anyD G.calm) mono_oAny h3 hf (by decide +kernel) ha hn hd h1 h2
  · exact de_callB (cr_sumD G.calm) mono_oSum h3 hf (by decide +kernel) ha hn hd h1 h2
  · exact de_callB cr_sortedD mono_oSorted h3 hf (by decide +kernel) ha hn hd h1 h2
  · exact de_callTy (cr_tuple G.amb.K) mono_oTuple h3 hf (by decide +kernel) ha hn hd h1 h2
  · exact de_callTy (cr_list G.amb.K) mono_oList h3 hf (by decide +kernel) ha hn hd h1 h2
  · exact de_callB cr_divmod mono_oDivmod h3 hf (by decide +kernel) ha hn hd h1 h2
  · exact de_callTy cr_str mono_oStr h3 hf (by decide +kernel) ha hn hd h1 h2
  · exact de_callB (cr_repr G.amb.K G.amb.gd hu) mono_oRepr h3 hf (by decide +kernel) ha hn hd h1 h2
  · exact de_callB (cr_isi G.amb.K) mono_oIsi h3 hf (by decide +kernel) ha hn hd h1 h2
theorem var_pe (G : GC A B Γ C W sc X) {x : Str} {i : Nat} {p : Pos} (h : vSlot C sc x = some i) : PE X (.Name x p) (tVar i) := by
  unfold vSlot at h
  split at h
  · rename_i hc
    rw [Bool.and_eq_true] at hc
    obtain ⟨n1, n2⟩ := okNm_1 hc.2
    exact pe_var (by rw [G.N]; exact slotOf_get h) (by rw [G.sco]; exact visB_vis hc.1) n1 n2
  · cases h
end
/-- what is shown of each part of the compiler -/
structure Snd (A : Amb) (B : Bg) (Γ : Nat → Gam) (C : CC) (n : Nat) : Prop where
  E : ∀ W sc X, GC A B Γ C W sc X → ∀ e m, cE n C sc e = some m → DE B W X e (wE Γ m)
  L : ∀ W sc X, GC A B Γ C W sc X → ∀ elt tg iter ifs scope m pos, cL n C sc elt tg iter ifs scope = some m → DE B W X (.ListComp elt [⟨tg, iter, ifs, 0⟩] scope pos) (wE Γ m) ∧
    ∀ (i : Nat) (y : Str) (py spos : Pos), C.N[i]? = some y → sc.names.lookup y = some .local → swapsWith (.ListComp elt [⟨tg, iter, ifs, 0⟩] scope pos) (some (.Name y py)) spos.line X.env = pure true →
      DS B W X (.Assign [.Name y py] (.ListComp elt [⟨tg, iter, ifs, 0⟩] scope pos) spos) (dSet i (wE Γ m))
  Bo : ∀ W sc X, GC A B Γ C W sc X → ∀ op es m pos, cB n C sc op es = some m → DE B W X (.BoolOp op es pos) (wE Γ m)
  T : ∀ W sc X, GC A B Γ C W sc X → ∀ e m, cT n C sc e = some m → DT B W X e (wT Γ m)
  TB : ∀ W sc X, GC A B Γ C W sc X → ∀ op es m pos, cTB n C sc op es = some m → DW B W X (.BoolOp op es pos) (wT Γ m)
  Ar : ∀ W sc X, GC A B Γ C W sc X → ∀ es m, cA n C sc es = some m → DA B W X es (wA Γ m) ∧ ∀ e ∈ es, ∀ x p, e ≠ .Starred x p
  AB : ∀ W sc X, GC A B Γ C W sc X → ∀ bx es m, cAB n C sc bx es = some m → DA B W X es (wA Γ m) ∧ (∀ e ∈ es, ∀ x p, e ≠ .Starred x p) ∧ (es = [] → wA Γ m = dNil)
  K : ∀ W sc X, GC A B Γ C W sc X → ∀ ks m, cK n C sc ks = some m → DK B W X ks (wA Γ m)
  O : ∀ W sc X, GC A B Γ C W sc X → ∀ e m, cO n C sc e = some m → DO B W X e (wO Γ m)
  I : ∀ W sc X, GC A B Γ C W sc X → ∀ tg e m, cI n C sc tg e = some m → DI B W X tg e (wI Γ m) ∧ ∀ x, foldedSetIterable e X.env x = pure x
theorem cE_shape {n : Nat} {C : CC} {sc : Scope} {e : Expr} {m : ME} (h : cE n C sc e = some m) : (∀ x p, e ≠ .Starred x p) ∧ (∀ x k p, e ≠ .Set x k p) ∧ ∀ a b c p, e ≠ .Slice a b c p := by
  cases n with
  | zero => simp only [cE, reduceCtorEq] at h
  | succ n =>
    refine ⟨fun x p z => ?_, fun x k p z => ?_, fun a b c p z => ?_⟩ <;> subst z <;> simp only [cE, reduceCtorEq] at h
theorem noSet_fold {e : Expr} (h : ∀ x k p, e ≠ .Set x k p) {env : PySem.Env} : ∀ x, foldedSetIterable e env x = pure x := by
  intro x
  cases e <;> first | rfl | exact absurd rfl (h _ _ _)
theorem plainIx_of {b : Expr} (h : ∀ a c d p, b ≠ .Slice a c d p) : PlainIx b := by
  intro o i
  cases b <;> first | rfl | exact absurd rfl (h _ _ _ _)
section
variable {A : Amb} {B : Bg} {Γ : Nat → Gam} {C : CC} {W : WX} {sc : Scope} {X : Cx} {n : Nat}
theorem step_E (S : Snd A B Γ C n) (G : GC A B Γ C W sc X) (e : Expr) (m : ME) (h : cE (n + 1) C sc e = some m) : DE B W X e (wE Γ m) := by
  cases e with
  | Constant c j p =>
    cases c <;> simp only [cE, reduceCtorEq, Option.some.injEq] at h <;> subst h <;> unfold wE
    · exact de_const pe_non fun _ _ => rfl
    · exact de_const pe_bl fun _ _ => rfl
    · exact de_const pe_int fun _ _ => rfl
    · exact de_const pe_str fun _ _ => rfl
  | Name x p =>
    simp only [cE] at h
    split at h
    · rename_i i hi
      cases h
      unfold wE
      exact de_var (var_pe G hi)
    · split at h
      · rename_i hc
        rw [Bool.and_eq_true] at hc
        have hd := (okNm_1 hc.2).1
        split at h
        · rename_i d hd'
          cases h
          unfold wE
          obtain ⟨v, u, e1, e2, e3⟩ := G.glo x d hd'
          exact de_const (pe_glob (G.gl hc.1) (by rw [G.amb.mg]; exact e1) e2 hd) e3
        · obtain ⟨t, ht, rfl⟩ := Option.map_eq_some_iff.mp h
          unfold wE
          have en := tyOf_nm ht
          subst en
          exact de_const (v := .ty t.nm) (pe_bltn (G.gl hc.1) (G.free (ty_in t)) (ty_boot t) rfl (ty_ne t) hd) fun _ _ => rfl
      · cases h
  | BinOp a op b p =>
    simp only [cE] at h
    split at h
    · rename_i ho
      obtain ⟨ma, h1, h⟩ := Option.bind_eq_some_iff.mp h
      obtain ⟨mb, h2, h⟩ := Option.bind_eq_some_iff.mp h
      cases h
      unfold wE
      exact de_bin (bop_ok G ho) (mono_bop op) (S.E W sc X G a ma h1) (S.E W sc X G b mb h2)
    · cases h
  | Compare a ops bs p =>
    match ops, bs with
    | [op], [b] =>
      simp only [cE] at h
      obtain ⟨ma, h1, h⟩ := Option.bind_eq_some_iff.mp h
      obtain ⟨mb, h2, h⟩ := Option.bind_eq_some_iff.mp h
      cases h
      unfold wE
      exact de_cmp (cop_ok G op) (mono_cop op) (S.E W sc X G a ma h1) (S.E W sc X G b mb h2) (noSet_marks (cE_shape h2).2.1)
    | [op, op'], [b, c] =>
      simp only [cE] at h
      obtain ⟨ma, h1, h⟩ := Option.bind_eq_some_iff.mp h
      obtain ⟨mb, h2, h⟩ := Option.bind_eq_some_iff.mp h
      obtain ⟨mc, h3, h⟩ := Option.bind_eq_some_iff.mp h
      cases h
      unfold wE
      exact de_chain (cop_ok G op) (cop_ok G op') (mono_cop op) (mono_cop op') (S.E W sc X G a ma h1) (S.E W sc X G b mb h2) (S.E W sc X G c mc h3) (noSet_marks (cE_shape h3).2.1)
    | [], _ => simp only [cE, reduceCtorEq] at h
    | [_], [] => simp only [cE, reduceCtorEq] at h
    | [_], _ :: _ :: _ => simp only [cE, reduceCtorEq] at h
    | [_, _], [] => simp only [cE, reduceCtorEq] at h
    | [_, _], [_] => simp only [cE, reduceCtorEq] at h
    | [_, _], _ :: _ :: _ :: _ => simp only [cE, reduceCtorEq] at h
    | _ :: _ :: _ :: _, _ => simp only [cE, reduceCtorEq] at h
  | UnaryOp op a p =>
    cases op <;> simp only [cE, reduceCtorEq] at h
    · obtain ⟨ma, h1, h⟩ := Option.bind_eq_some_iff.mp h
      cases h
      unfold wE
      exact de_not (S.E W sc X G a ma h1)
    · obtain ⟨ma, h1, h⟩ := Option.bind_eq_some_iff.mp h
      cases h
      unfold wE
      exact de_neg (S.E W sc X G a ma h1)
  | BoolOp op es p =>
    simp only [cE] at h
    exact S.Bo W sc X G op es m p h
  | IfExp t a b p =>
    simp only [cE] at h
    obtain ⟨mt, h0, h⟩ := Option.bind_eq_some_iff.mp h
    obtain ⟨ma, h1, h⟩ := Option.bind_eq_some_iff.mp h
    obtain ⟨mb, h2, h⟩ := Option.bind_eq_some_iff.mp h
    cases h
    unfold wE
    exact de_if (S.T W sc X G t mt h0) (S.E W sc X G a ma h1) (S.E W sc X G b mb h2)
  | Tuple es j p =>
    simp only [cE] at h
    obtain ⟨as, h1, h⟩ := Option.bind_eq_some_iff.mp h
    cases h
    unfold wE
    exact de_tup (S.Ar W sc X G es as h1).1
  | List es p =>
    simp only [cE] at h
    obtain ⟨as, h1, h⟩ := Option.bind_eq_some_iff.mp h
    cases h
    unfold wE
    exact de_lst (S.Ar W sc X G es as h1).1
  | Subscript a b p =>
    by_cases hb : ∃ lo hi p2, b = .Slice lo hi none p2
    · obtain ⟨lo, hi, p2, rfl⟩ := hb
      simp only [cE] at h
      obtain ⟨ma, h1, h⟩ := Option.bind_eq_some_iff.mp h
      obtain ⟨ml, h2, h⟩ := Option.bind_eq_some_iff.mp h
      obtain ⟨mh, h3, h⟩ := Option.bind_eq_some_iff.mp h
      cases h
      unfold wE
      exact de_sl G.amb.K (S.E W sc X G a ma h1) (S.O W sc X G lo ml h2) (S.O W sc X G hi mh h3)
    · have h' : ((cE n C sc a).bind fun ma => (cE n C sc b).bind fun mb => some (ME.ix ma mb)) = some m := by
        rw [← h]
        cases b <;> first | rfl | skip
        rename_i lo hi stp p2
        cases stp with
        | none => exact absurd ⟨lo, hi, p2, rfl⟩ hb
        | some z => rfl
      obtain ⟨ma, h1, h⟩ := Option.bind_eq_some_iff.mp h'
      obtain ⟨mb, h2, h⟩ := Option.bind_eq_some_iff.mp h
      cases h
      unfold wE
      exact de_ix G.amb.K (S.E W sc X G a ma h1) (S.E W sc X G b mb h2) (plainIx_of (cE_shape h2).2.2)
  | Call f es kws p =>
    cases f <;> try (simp only [cE, reduceCtorEq] at h; done)
    rename_i x px
    simp only [cE] at h
    split at h
    · rename_i hc
      rw [Bool.and_eq_true, Bool.and_eq_true] at hc
      obtain ⟨⟨hc1, hc2⟩, hc3⟩ := hc
      have hd := (okNm_1 hc2).1
      split at h
      · rename_i pi q hq
        obtain ⟨as, h1, h⟩ := Option.bind_eq_some_iff.mp h
        obtain ⟨ks, h2, h⟩ := Option.bind_eq_some_iff.mp h
        cases h
        unfold wE
        obtain ⟨_, g1, g2, g3, g4⟩ := findPat_get hq
        obtain ⟨a1, a2, a3⟩ := S.AB W sc X G q.bx es as h1
        have hcal := G.cal pi q (by simpa using g1) X W G.amb G.tk
        rw [g2, g3] at hcal
        exact de_call hcal (G.gl hc1) hd a1 (S.K W sc X G kws ks h2) a2 (fun k hk => List.all_eq_true.mp hc3 k hk) g4.symm a3
      · split at h
        · rename_i e0 hss
          obtain ⟨f1, f2, f3, f4, p1, p2, f5⟩ := ssetOf_get hss
          subst f1 f2 f5
          obtain ⟨ma, h1, h⟩ := Option.bind_eq_some_iff.mp h
          cases h
          unfold wE
          exact de_sset G.calm (G.gl hc1) (G.free (by decide +kernel)) (G.gl f3) (G.free (by decide +kernel)) (S.E W sc X G e0 ma h1) (isSt_no f4)
        · split at h
          · obtain ⟨f, h1, h⟩ := Option.bind_eq_some_iff.mp h
            obtain ⟨as, h2, h⟩ := Option.bind_eq_some_iff.mp h
            cases h
            unfold wE
            have en := biOf_nm h1
            subst en
            obtain ⟨a1, a2⟩ := S.Ar W sc X G _ as h2
            exact bi_ok G f hc1 hd a1 a2
          · cases h
    · cases h
  | ListComp elt gs scope p =>
    match gs with
    | [⟨tg, iter, ifs, ia⟩] =>
      simp only [cE] at h
      split at h
      · rename_i e0
        subst e0
        exact (S.L W sc X G elt tg iter ifs scope m p h).1
      · cases h
    | [] => simp only [cE, reduceCtorEq] at h
    | _ :: _ :: _ => simp only [cE, reduceCtorEq] at h
  | _ => simp only [cE, reduceCtorEq] at h
end
end Ev
set_option Elab.async false
set_option linter.all false
set_option autoImplicit false
set_option maxRecDepth 100000
/-! Ev, part N: the other parts of the compiler; all together. -/
namespace Ev
open PySem PySem.Spec PyProof.Rows L2
section
variable {A : Amb} {B : Bg} {Γ : Nat → Gam} {C : CC} {W : WX} {sc : Scope} {X : Cx} {n : Nat}
theorem step_Bo (S : Snd A B Γ C n) (G : GC A B Γ C W sc X) (op : BoolOp) (es : List Expr) (m : ME) (pos : Pos) (h : cB (n + 1) C sc op es = some m) : DE B W X (.BoolOp op es pos) (wE Γ m) := by
  match es with
  | [] => simp only [cB, reduceCtorEq] at h
  | [a] =>
    simp only [cB] at h
    exact de_one (S.E W sc X G a m h)
  | a :: b :: r =>
    simp only [cB] at h
    obtain ⟨ma, h1, h⟩ := Option.bind_eq_some_iff.mp h
    obtain ⟨mb, h2, h⟩ := Option.bind_eq_some_iff.mp h
    cases op <;> cases h <;> unfold wE
    · exact de_and (S.E W sc X G a ma h1) (S.Bo W sc X G _ _ mb pos h2)
    · exact de_or (S.E W sc X G a ma h1) (S.Bo W sc X G _ _ mb pos h2)
theorem step_TB (S : Snd A B Γ C n) (G : GC A B Γ C W sc X) (op : BoolOp) (es : List Expr) (m : MT) (pos : Pos) (h : cTB (n + 1) C sc op es = some m) : DW B W X (.BoolOp op es pos) (wT Γ m) := by
  match es with
  | [] => simp only [cTB, reduceCtorEq] at h
  | [a] =>
    simp only [cTB] at h
    cases op
    · exact dw_and1 (S.T W sc X G a m h)
    · exact dw_or1 (S.T W sc X G a m h)
  | a :: b :: r =>
    simp only [cTB] at h
    obtain ⟨ma, h1, h⟩ := Option.bind_eq_some_iff.mp h
    obtain ⟨mb, h2, h⟩ := Option.bind_eq_some_iff.mp h
    cases op <;> cases h <;> unfold wT
    · exact dw_and (S.T W sc X G a ma h1) (S.TB W sc X G _ _ mb pos h2)
    · exact dw_or (S.T W sc X G a ma h1) (S.TB W sc X G _ _ mb pos h2)
theorem step_T (S : Snd A B Γ C n) (G : GC A B Γ C W sc X) (e : Expr) (m : MT) (h : cT (n + 1) C sc e = some m) : DT B W X e (wT Γ m) := by
  cases e with
  | BoolOp op es p =>
    simp only [cT] at h
    exact (S.TB W sc X G op es m p h).dt
  | UnaryOp op a p =>
    cases op <;> simp only [cT, reduceCtorEq] at h
    obtain ⟨t, h1, h⟩ := Option.bind_eq_some_iff.mp h
    cases h
    unfold wT
    exact dt_not (S.T W sc X G a t h1)
  | Compare a ops bs p =>
    match ops, bs with
    | [op], [b] =>
      simp only [cT] at h
      obtain ⟨ma, h1, h⟩ := Option.bind_eq_some_iff.mp h
      obtain ⟨mb, h2, h⟩ := Option.bind_eq_some_iff.mp h
      cases h
      unfold wT wE
      exact dt_cmp (cop_ok G op) (mono_cop op) (S.E W sc X G a ma h1) (S.E W sc X G b mb h2) (noSet_marks (cE_shape h2).2.1)
    | [op, op'], [b, c] =>
      simp only [cT] at h
      obtain ⟨ma, h1, h⟩ := Option.bind_eq_some_iff.mp h
      obtain ⟨mb, h2, h⟩ := Option.bind_eq_some_iff.mp h
      obtain ⟨mc, h3, h⟩ := Option.bind_eq_some_iff.mp h
      cases h
      unfold wT wE
      exact dt_chain (cop_ok G op) (cop_ok G op') (mono_cop op) (mono_cop op') (S.E W sc X G a ma h1) (S.E W sc X G b mb h2) (S.E W sc X G c mc h3) (noSet_marks (cE_shape h3).2.1)
    | [], _ => simp only [cT, reduceCtorEq] at h
    | [_], [] => simp only [cT, reduceCtorEq] at h
    | [_], _ :: _ :: _ => simp only [cT, reduceCtorEq] at h
    | [_, _], [] => simp only [cT, reduceCtorEq] at h
    | [_, _], [_] => simp only [cT, reduceCtorEq] at h
    | [_, _], _ :: _ :: _ :: _ => simp only [cT, reduceCtorEq] at h
    | _ :: _ :: _ :: _, _ => simp only [cT, reduceCtorEq] at h
  | Name x p =>
    simp only [cT] at h
    obtain ⟨t, h1, h⟩ := Option.bind_eq_some_iff.mp h
    cases h
    unfold wT
    exact dt_val (S.E W sc X G _ t h1) (by intro _; rfl)
  | Call f es ks p =>
    simp only [cT] at h
    obtain ⟨t, h1, h⟩ := Option.bind_eq_some_iff.mp h
    cases h
    unfold wT
    exact dt_val (S.E W sc X G _ t h1) (by intro _; rfl)
  | Subscript a b p =>
    simp only [cT] at h
    obtain ⟨t, h1, h⟩ := Option.bind_eq_some_iff.mp h
    cases h
    unfold wT
    exact dt_val (S.E W sc X G _ t h1) (by intro _; rfl)
  | _ => simp only [cT, reduceCtorEq] at h
theorem step_Ar (S : Snd A B Γ C n) (G : GC A B Γ C W sc X) (es : List Expr) (m : MA) (h : cA (n + 1) C sc es = some m) : DA B W X es (wA Γ m) ∧ ∀ e ∈ es, ∀ x p, e ≠ .Starred x p := by
  match es with
  | [] =>
    simp only [cA, Option.some.injEq] at h
    subst h
    unfold wA
    exact ⟨da_nil, fun e he => by cases he⟩
  | e :: r =>
    simp only [cA] at h
    obtain ⟨me, h1, h⟩ := Option.bind_eq_some_iff.mp h
    obtain ⟨mr, h2, h⟩ := Option.bind_eq_some_iff.mp h
    cases h
    unfold wA
    obtain ⟨i1, i2⟩ := S.Ar W sc X G r mr h2
    have hs := (cE_shape h1).1
    refine ⟨da_cons (S.E W sc X G e me h1) i1 hs, fun x hx => ?_⟩
    rcases List.mem_cons.mp hx with z | z
    · rw [z]; exact hs
    · exact i2 x z
theorem step_AB (S : Snd A B Γ C n) (G : GC A B Γ C W sc X) (bx : List Bool) (es : List Expr) (m : MA) (h : cAB (n + 1) C sc bx es = some m) : DA B W X es (wA Γ m) ∧ (∀ e ∈ es, ∀ x p, e ≠ .Starred x p) ∧ (es = [] → wA Γ m = dNil) := by
  match es with
  | [] =>
    simp only [cAB, Option.some.injEq] at h
    subst h
    unfold wA
    exact ⟨da_nil, (fun e he => by cases he), fun _ => rfl⟩
  | e :: r =>
    simp only [cAB] at h
    obtain ⟨me, h1, h⟩ := Option.bind_eq_some_iff.mp h
    obtain ⟨mr, h2, h⟩ := Option.bind_eq_some_iff.mp h
    cases h
    unfold wA
    obtain ⟨i1, i2, _⟩ := S.AB W sc X G bx.tail r mr h2
    have hs := (cE_shape h1).1
    refine ⟨da_cons ?_ i1 hs, fun x hx => ?_, fun z => by cases z⟩
    · split
      · unfold wE
        exact de_box (S.E W sc X G e me h1)
      · exact S.E W sc X G e me h1
    · rcases List.mem_cons.mp hx with z | z
      · rw [z]; exact hs
      · exact i2 x z
theorem step_K (S : Snd A B Γ C n) (G : GC A B Γ C W sc X) (ks : List Keyword) (m : MA) (h : cK (n + 1) C sc ks = some m) : DK B W X ks (wA Γ m) := by
  match ks with
  | [] =>
    simp only [cK, Option.some.injEq] at h
    subst h
    unfold wA
    exact dk_nil
  | ⟨nm, e, p⟩ :: r =>
    simp only [cK] at h
    obtain ⟨me, h1, h⟩ := Option.bind_eq_some_iff.mp h
    obtain ⟨mr, h2, h⟩ := Option.bind_eq_some_iff.mp h
    cases h
    unfold wA
    exact dk_cons (S.E W sc X G e me h1) (S.K W sc X G r mr h2)
theorem step_O (S : Snd A B Γ C n) (G : GC A B Γ C W sc X) (e : Option Expr) (m : MO) (h : cO (n + 1) C sc e = some m) : DO B W X e (wO Γ m) := by
  cases e with
  | none =>
    simp only [cO, Option.some.injEq] at h
    subst h
    unfold wO
    exact do_none
  | some e =>
    simp only [cO] at h
    obtain ⟨me, h1, h⟩ := Option.bind_eq_some_iff.mp h
    cases h
    unfold wO
    exact do_some (S.E W sc X G e me h1)
theorem any_I (S : Snd A B Γ C n) (G : GC A B Γ C W sc X) (tg e : Expr) (m : MI) (h : ((cE n C sc e).bind fun m => some (MI.any m)) = some m) : DI B W X tg e (wI Γ m) ∧ ∀ x, foldedSetIterable e X.env x = pure x := by
  obtain ⟨me, h1, h⟩ := Option.bind_eq_some_iff.mp h
  cases h
  unfold wI
  exact ⟨di_any G.amb.K (S.E W sc X G e me h1), noSet_fold (cE_shape h1).2.1⟩
theorem step_I (S : Snd A B Γ C n) (G : GC A B Γ C W sc X) (tg e : Expr) (m : MI) (h : cI (n + 1) C sc tg e = some m) : DI B W X tg e (wI Γ m) ∧ ∀ x, foldedSetIterable e X.env x = pure x := by
  have rg : ("range" : Str) ∈ bltNames := by decide +kernel
  have zp : ("zip" : Str) ∈ bltNames := by decide +kernel
  have en : ("enumerate" : Str) ∈ bltNames := by decide +kernel
  cases e with
  | Set a b c => simp only [cI, reduceCtorEq] at h
  | Call f es kws p =>
    cases f <;> try exact any_I S G tg _ m (by simpa only [cI] using h)
    rename_i x px
    match es, kws with
    | [a], [] =>
      simp only [cI] at h
      split at h
      · rename_i hc
        obtain ⟨rfl, hg⟩ := hc
        obtain ⟨as, h1, h⟩ := Option.bind_eq_some_iff.mp h
        cases h
        unfold wI
        obtain ⟨a1, a2⟩ := S.Ar W sc X G _ as h1
        exact ⟨di_range1 (G.gl hg) (G.free rg) a1 (a2 a (by simp)), fun _ => rfl⟩
      · split at h
        · rename_i hc
          obtain ⟨rfl, hg⟩ := hc
          split at h
          · obtain ⟨as, h1, h⟩ := Option.bind_eq_some_iff.mp h
            cases h
            unfold wI
            obtain ⟨a1, a2⟩ := S.Ar W sc X G _ as h1
            exact ⟨di_enum G.amb.K (G.gl hg) (G.free en) a1 (a2 a (by simp)), fun _ => rfl⟩
          · cases h
        · exact any_I S G tg _ m h
    | [a, b], [] =>
      simp only [cI] at h
      split at h
      · rename_i hc
        obtain ⟨rfl, hg⟩ := hc
        obtain ⟨as, h1, h⟩ := Option.bind_eq_some_iff.mp h
        cases h
        unfold wI
        obtain ⟨a1, a2⟩ := S.Ar W sc X G _ as h1
        exact ⟨di_range2 (G.gl hg) (G.free rg) a1 (a2 a (by simp)) (a2 b (by simp)), fun _ => rfl⟩
      · split at h
        · rename_i hc
          obtain ⟨rfl, hg⟩ := hc
          split at h
          · obtain ⟨as, h1, h⟩ := Option.bind_eq_some_iff.mp h
            cases h
            unfold wI
            obtain ⟨a1, a2⟩ := S.Ar W sc X G _ as h1
            exact ⟨di_zip G.amb.K (G.gl hg) (G.free zp) a1 (a2 a (by simp)) (a2 b (by simp)), fun _ => rfl⟩
          · cases h
        · exact any_I S G tg _ m h
    | [a, b, c], [] =>
      simp only [cI] at h
      split at h
      · rename_i hc
        obtain ⟨rfl, hg⟩ := hc
        obtain ⟨as, h1, h⟩ := Option.bind_eq_some_iff.mp h
        cases h
        unfold wI
        obtain ⟨a1, a2⟩ := S.Ar W sc X G _ as h1
        exact ⟨di_range3 (G.gl hg) (G.free rg) a1 (a2 a (by simp)) (a2 b (by simp)) (a2 c (by simp)), fun _ => rfl⟩
      · exact any_I S G tg _ m h
    | [], kws => exact any_I S G tg _ m (by simpa only [cI] using h)
    | [_], _ :: _ => exact any_I S G tg _ m (by simpa only [cI] using h)
    | [_, _], _ :: _ => exact any_I S G tg _ m (by simpa only [cI] using h)
    | [_, _, _], _ :: _ => exact any_I S G tg _ m (by simpa only [cI] using h)
    | _ :: _ :: _ :: _ :: _, kws => exact any_I S G tg _ m (by simpa only [cI] using h)
  | _ => exact any_I S G tg _ m (by simpa only [cI] using h)
/-! ### comprehensions -/
theorem takesW0 {X : Cx} : Takes X W0 := fun _ _ x => by
  obtain ⟨_, _, _, _, _, _, _, _, _, _, _, _, _, _, _, _, z⟩ := x
  exact z.elim
theorem GC.blk (G : GC A B Γ C W sc X) (s : Shared) (H : Hp) (scope : Scope) (Ca : Addr) (cl : List (Str × Addr)) (fp : List Addr) : GC A B Γ C W0 (relS scope sc) (X.blk s H scope (compEnvC scope cl Ca X.env) fp) where
  amb := ⟨G.amb.prog, G.amb.w, G.amb.K, G.amb.mg, G.amb.base, G.amb.room, G.amb.gd⟩
  sco := by rw [← G.sco]; rfl
  N := G.N
  nd := G.nd
  calm := G.calm
  tk := takesW0
  blt := G.blt
  glo := G.glo
  cal := G.cal
theorem blk_pg (G : GC A B Γ C W sc X) {s : Shared} {H : Hp} {scope : Scope} {Ca : Addr} {cl : List (Str × Addr)} {fp : List Addr} {x : Str} {i : Nat} {p : Pos} (h : lSlot C (relS scope sc) x = some i) (hb : blkNm scope sc x = true) :
    PG (X.blk s H scope (compEnvC scope cl Ca X.env) fp) (.Name x p) (gName i) := by
  have GB := G.blk s H scope Ca cl fp
  unfold lSlot at h
  split at h
  · rename_i hc
    rw [Bool.and_eq_true] at hc
    refine pg_name (by rw [GB.N]; exact GB.nd) (by rw [GB.N]; exact slotOf_get h) (by rw [GB.sco]; exact locB_loc hc.1) ?_
    unfold blkNm at hb
    rw [Bool.or_eq_true] at hb
    rcases hb with z | z
    · exact .inl z
    · refine .inr ?_
      rw [GB.sco]
      exact eq_of_beq z
  · cases h
theorem blk_pgs (G : GC A B Γ C W sc X) {s : Shared} {H : Hp} {scope : Scope} {Ca : Addr} {cl : List (Str × Addr)} {fp : List Addr} : ∀ {es : List Expr} {is : List Nat}, slotsOf C (relS scope sc) es = some is →
    (es.all fun e => match e with | .Name x _ => blkNm scope sc x | _ => false) = true →
    PGs (X.blk s H scope (compEnvC scope cl Ca X.env) fp) es (gNms is) ∧ (assignEach es (compEnvC scope cl Ca X.env)).length = is.length ∧ (assignEach es (compEnvC scope cl Ca X.env)).findIdx? (·.1) = none
  | [], is, h, _ => by
    simp only [slotsOf, Option.some.injEq] at h
    subst h
    exact ⟨pgs_nil, rfl, rfl⟩
  | e :: es, is, h, hb => by
    cases e <;> try (simp only [slotsOf, reduceCtorEq] at h; done)
    rename_i x px
    simp only [slotsOf] at h
    obtain ⟨i, h1, h⟩ := Option.bind_eq_some_iff.mp h
    obtain ⟨r, h2, rfl⟩ := Option.map_eq_some_iff.mp h
    rw [List.all_cons, Bool.and_eq_true] at hb
    obtain ⟨i1, i2, i3⟩ := blk_pgs G (s := s) (H := H) (Ca := Ca) (cl := cl) (fp := fp) h2 hb.2
    refine ⟨pgs_cons (blk_pg G h1 hb.1) i1 rfl, ?_, ?_⟩
    · show (assignEach es (compEnvC scope cl Ca X.env)).length + 1 = _
      rw [i2]
      rfl
    · show List.findIdx? (·.1) ((false, _) :: assignEach es (compEnvC scope cl Ca X.env)) = none
      rw [List.findIdx?_cons, i3]
      rfl
theorem blk_ct (G : GC A B Γ C W sc X) {s : Shared} {H : Hp} {scope : Scope} {Ca : Addr} {cl : List (Str × Addr)} {fp : List Addr} {tg : Expr} {ct : CT} (h : ctOf C (relS scope sc) tg = some ct) (hb : blkNms scope sc tg = true) :
    PG (X.blk s H scope (compEnvC scope cl Ca X.env) fp) tg (tCT B.K ct) := by
  cases tg <;> try (simp only [ctOf, reduceCtorEq] at h; done)
  · obtain ⟨i, h1, rfl⟩ := Option.map_eq_some_iff.mp h
    exact blk_pg G h1 hb
  · rename_i els j pp
    obtain ⟨is, h1, rfl⟩ := Option.map_eq_some_iff.mp h
    obtain ⟨i1, i2, i3⟩ := blk_pgs G (s := s) (H := H) (Ca := Ca) (cl := cl) (fp := fp) h1 hb
    have q := pg_tup (X := X.blk s H scope (compEnvC scope cl Ca X.env) fp) (n := is.length) (k := j) (pos := pp) G.calm i1 i2 i3
    show PG _ _ (gTup B.K is.length (gNms is))
    rw [← G.amb.K]
    exact q
theorem dYes_mono : MonoT dYes := fun _ _ _ _ _ _ hk _ h => hk _ _ _ h
theorem step_L (S : Snd A B Γ C n) (G : GC A B Γ C W sc X) (elt tg iter : Expr) (ifs : List Expr) (scope : Scope) (m : ME) (pos : Pos) (h : cL (n + 1) C sc elt tg iter ifs scope = some m) : DE B W X (.ListComp elt [⟨tg, iter, ifs, 0⟩] scope pos) (wE Γ m) ∧
    ∀ (i : Nat) (y : Str) (py spos : Pos), C.N[i]? = some y → sc.names.lookup y = some .local → swapsWith (.ListComp elt [⟨tg, iter, ifs, 0⟩] scope pos) (some (.Name y py)) spos.line X.env = pure true →
      DS B W X (.Assign [.Name y py] (.ListComp elt [⟨tg, iter, ifs, 0⟩] scope pos) spos) (dSet i (wE Γ m)) := by
  simp only [cL] at h
  split at h
  · rename_i hc
    rw [Bool.and_eq_true] at hc
    obtain ⟨hc1, hc2⟩ := hc
    obtain ⟨mi, h1, h⟩ := Option.bind_eq_some_iff.mp h
    obtain ⟨ct, h2, h⟩ := Option.bind_eq_some_iff.mp h
    split at h
    · rename_i hsl
      obtain ⟨mt, h3, h⟩ := Option.bind_eq_some_iff.mp h
      obtain ⟨me, h4, h⟩ := Option.bind_eq_some_iff.mp h
      cases h
      unfold wE
      obtain ⟨i1, i2⟩ := S.I W sc X G tg iter mi h1
      have ok : BlkOk X.N X.env.scope scope (ownOf C.N scope.names) := by rw [G.N, G.sco]; exact blkOk_by hc1
      have hv : ∀ i ∈ ct.slots, i ∈ (ownOf C.N scope.names).map (·.2) := fun i hi => by
        have q := List.all_eq_true.mp hsl i hi
        exact List.contains_iff_mem.mp q
      have hg : ∀ (s : Shared) (H : Hp) (Ca : Addr) (cl : List (Str × Addr)) (fp : List Addr), PG (X.blk s H scope (compEnvC scope cl Ca X.env) fp) tg (tCT B.K ct) := fun s H Ca cl fp => blk_ct G h2 hc2
      have he : ∀ (s : Shared) (H : Hp) (Ca : Addr) (cl : List (Str × Addr)) (fp : List Addr), DE B W0 (X.blk s H scope (compEnvC scope cl Ca X.env) fp) elt (wE Γ me) := fun s H Ca cl fp => S.E W0 _ _ (G.blk s H scope Ca cl fp) elt me h4
      have ht : ∀ (s : Shared) (H : Hp) (Ca : Addr) (cl : List (Str × Addr)) (fp : List Addr), MonoT (wT Γ mt) ∧ PTs (X.blk s H scope (compEnvC scope cl Ca X.env) fp) ifs (tMT B W0 (wT Γ mt)) := fun s H Ca cl fp => by
        split at h3
        · cases h3
          unfold wT
          refine ⟨dYes_mono, ⟨fun pins s' σ H' Q I q => pts_nil.run pins s' σ H' Q I ?_⟩⟩
          obtain ⟨F, r, en, st, R, q⟩ := q
          exact q F r H' Step.refl R
        · have q := S.T W0 _ _ (G.blk s H scope Ca cl fp) _ mt h3
          exact ⟨q.mono, pts_one q.run⟩
        · cases h3
      have hN : X.N.Nodup := by rw [G.N]; exact G.nd
      have mm : MonoT (wT Γ mt) := (ht X.s_0 (fun _ => none) 0 [] []).1
      have me' : MonoE (wE Γ me) := (he X.s_0 (fun _ => none) 0 [] []).mono
      refine ⟨de_lc G.amb.K G.calm hN i1 ok mm me' hv hg (fun s H Ca cl fp => (ht s H Ca cl fp).2) (fun s H Ca cl fp => (he s H Ca cl fp).run) i2, fun i y py spos hy hl hsw => ?_⟩
      exact ds_setLc G.amb.K G.calm hN (by rw [G.N]; exact hy) (by rw [G.sco]; exact hl) hsw i1 ok mm me' hv hg (fun s H Ca cl fp => (ht s H Ca cl fp).2) (fun s H Ca cl fp => (he s H Ca cl fp).run) i2
    · cases h
  · cases h
end
theorem snd_all (A : Amb) (B : Bg) (Γ : Nat → Gam) (C : CC) : ∀ n, Snd A B Γ C n
  | 0 => ⟨fun _ _ _ _ e m h => by simp only [cE, reduceCtorEq] at h, fun _ _ _ _ _ _ _ _ _ _ _ h => by simp only [cL, reduceCtorEq] at h, fun _ _ _ _ _ _ _ _ h => by simp only [cB, reduceCtorEq] at h, fun _ _ _ _ _ _ h => by simp only [cT, reduceCtorEq] at h, fun _ _ _ _ _ _ _ _ h => by simp only [cTB, reduceCtorEq] at h,
      fun _ _ _ _ _ _ h => by simp only [cA, reduceCtorEq] at h, fun _ _ _ _ _ _ _ h => by simp only [cAB, reduceCtorEq] at h, fun _ _ _ _ _ _ h => by simp only [cK, reduceCtorEq] at h, fun _ _ _ _ _ _ h => by simp only [cO, reduceCtorEq] at h, fun _ _ _ _ _ _ _ h => by simp only [cI, reduceCtorEq] at h⟩
  | n + 1 =>
    have S := snd_all A B Γ C n
    ⟨fun W sc X G => step_E S G, fun W sc X G => step_L S G, fun W sc X G => step_Bo S G, fun W sc X G => step_T S G, fun W sc X G => step_TB S G, fun W sc X G => step_Ar S G, fun W sc X G => step_AB S G, fun W sc X G => step_K S G, fun W sc X G => step_O S G, fun W sc X G => step_I S G⟩
end Ev
set_option Elab.async false
set_option linter.all false
set_option autoImplicit false
set_option maxRecDepth 100000
/-! Ev, part O: statements of the text. -/
namespace Ev
open PySem PySem.Spec PyProof.Rows L2
def starB : Expr → Bool
  | .Starred .. => true
  | _ => false
def nmAt (sc : Scope) (line : Nat) : Expr → Option Str
  | .Name id pos => if sc.names.lookup id == some .local && pos.line == line then some id else none
  | _ => none
def swN (sc : Scope) (ts vs : List Expr) : Option (Option (List Str)) :=
  if !(ts.length == 2 || ts.length == 3) || vs.length != ts.length then some none
  else if vs.any starB then some none
  else
    let names := ts.filterMap (nmAt sc ((ts.head?.map (·.pos.line)).getD 0))
    if names.length != ts.length || names.eraseDups.length != names.length then some none
    else if vs.all (foldedForSure 8) then some none
    else if vs.all (constantsAlone 8) then none else some (some names)
theorem swN_ok {sc : Scope} {env : PySem.Env} {ts vs : List Expr} {k k' : Nat} {p p' : Pos} {r : Option (List Str)} (hs : env.scope = sc) (hk : sc.kind = .function) (h : swN sc ts vs = some r) : swappedStores [.Tuple ts k p] (.Tuple vs k' p') env = pure r := by
  have hb : env.blockKind = .function := by unfold Env.blockKind; rw [hs, hk]; rfl
  subst hs
  unfold swappedStores
  dsimp only
  unfold swN at h
  rw [hb]
  dsimp only at h
  generalize hL : ((ts.head?.map (·.pos.line)).getD 0) = L at h ⊢
  have e0 : (ScopeKind.function != ScopeKind.function) = false := by decide
  rw [e0, Bool.or_false]
  by_cases c1 : (!(ts.length == 2 || ts.length == 3) || vs.length != ts.length) = true
  · rw [if_pos c1] at h ⊢
    cases h
    rfl
  rw [if_neg c1] at h ⊢
  have e1 : (vs.any fun x => match x with | .Starred .. => true | _ => false) = vs.any starB := by
    congr 1
  by_cases c2 : vs.any starB = true
  · rw [if_pos c2] at h
    cases h
    exact if_pos c2
  rw [if_neg c2] at h
  refine (if_neg c2).trans ?_
  by_cases c3 : ((ts.filterMap (nmAt env.scope L)).length != ts.length || (ts.filterMap (nmAt env.scope L)).eraseDups.length != (ts.filterMap (nmAt env.scope L)).length) = true
  · rw [if_pos c3] at h
    cases h
    exact if_pos c3
  rw [if_neg c3] at h
  refine (if_neg c3).trans ?_
  by_cases c4 : vs.all (foldedForSure 8) = true
  · rw [if_pos c4] at h ⊢
    cases h
    rfl
  rw [if_neg c4] at h ⊢
  by_cases c5 : vs.all (constantsAlone 8) = true
  · rw [if_pos c5] at h
    cases h
  rw [if_neg c5] at h ⊢
  cases h
  rfl

mutual
def cG : Nat → CC → Scope → Expr → Option MG
  | 0, _, _, _ => none
  | n + 1, C, sc, e => match e with
    | .Name x _ => (lSlot C sc x).map .name
    | .Tuple es _ _ => (cGs n C sc es).map (.tup es.length)
    | .Subscript (.Name x _) i _ => (vSlot C sc x).bind fun j => (cE n C sc i).bind fun m => some (.sub j m)
    | _ => none
def cGs : Nat → CC → Scope → List Expr → Option MGs
  | 0, _, _, _ => none
  | n + 1, C, sc, es => match es with
    | [] => some .nil
    | e :: r => (cG n C sc e).bind fun g => (cGs n C sc r).bind fun gs => some (.cons g gs)
end
def nodupB : List Nat → Bool
  | [] => true
  | i :: is => !is.contains i && nodupB is
def allLoc (sc : Scope) : List Expr → Bool
  | [] => true
  | .Name x _ :: es => (sc.names.lookup x == some .local) && allLoc sc es
  | _ => false
mutual
def cS : Nat → CC → Scope → Stmt → Option MS
  | 0, _, _, _ => none
  | n + 1, C, sc, s => match s with
    | .Pass _ => some .pass
    | .Break _ => some .brk
    | .Continue _ => some .cnt
    | .Raise _ _ _ => some .never
    | .Expr (.Constant (.str _) _ _) _ => some .pass
    | .Expr (.Call (.Attribute (.Name x _) mt ap) [a] [] cp) _ => if ap.endLine == cp.line then
        (if mt = "append" then (vSlot C sc x).bind fun j => (cE n C sc a).bind fun m => some (.app j m)
        else if mt = "extend" then (vSlot C sc x).bind fun j => (cE n C sc a).bind fun m => some (.ext j m) else none) else none
    | .Expr (.Call (.Name x px) es ks p) _ => (cE n C sc (.Call (.Name x px) es ks p)).bind fun m => some (.expr m)
    | .Return none _ => some .retN
    | .Return (some (.Name x p)) _ => (match vSlot C sc x with
      | some i => some (.retv i)
      | none => (cE n C sc (.Name x p)).bind fun m => some (.ret m))
    | .Return (some e) _ => (cE n C sc e).bind fun m => some (.ret m)
    | .If t a b _ => (cT n C sc t).bind fun mt => (cSs n C sc a).bind fun ma => (cSs n C sc b).bind fun mb => some (.ifs mt ma mb)
    | .While t a [] _ => (cT n C sc t).bind fun mt => (cSs n C sc a).bind fun ma => some (.whil mt ma)
    | .For tg it a [] _ => (cI n C sc tg it).bind fun mi => (cG n C sc tg).bind fun g => (cSs n C sc a).bind fun ma => some (.forr mi g ma)
    | .Assign [.Name y _] (.ListComp elt [⟨tg, iter, ifs, ia⟩] scope _) _ => if ia = 0 then (lSlot C sc y).bind fun i => (cL n C sc elt tg iter ifs scope).bind fun m => some (.set i m) else none
    | .Assign [.Name y _] e _ => (lSlot C sc y).bind fun i => (cE n C sc e).bind fun m => some (.set i m)
    | .Assign [.Tuple ts k p] (.Tuple vs k' p') _ => (match swN sc ts vs with
      | some (some _) => if allLoc sc ts then (slotsOf C sc ts).bind fun is => if nodupB is then (cA n C sc vs).bind fun as => some (.par is as) else none else none
      | some none => (cE n C sc (.Tuple vs k' p')).bind fun m => (cG n C sc (.Tuple ts k p)).bind fun g => some (.asg m g)
      | none => none)
    | .Assign [.Tuple ts k p] e _ => (cE n C sc e).bind fun m => (cG n C sc (.Tuple ts k p)).bind fun g => some (.asg m g)
    | .Assign [.Subscript o i p] e _ => (cE n C sc e).bind fun m => (cG n C sc (.Subscript o i p)).bind fun g => some (.asg m g)
    | .AugAssign (.Name x _) op e _ => (lSlot C sc x).bind fun i => (cE n C sc e).bind fun m => (match op with
      | .Add => some (.inc i m)
      | .Sub => some (.dec i m)
      | _ => none)
    | _ => none
def cSs : Nat → CC → Scope → List Stmt → Option MSs
  | 0, _, _, _ => none
  | n + 1, C, sc, ss => match ss with
    | [] => some .nil
    | s :: r => (cS n C sc s).bind fun m => (cSs n C sc r).bind fun mr => some (.cons m mr)
end
structure GS (A : Amb) (B : Bg) (Γ : Nat → Gam) (C : CC) (W : WX) (sc : Scope) (X : Cx) : Prop where
  gc : GC A B Γ C W sc X
  po : PassesOwn (model X.prog X.w) X.A X.env X.xe
  fn : ∀ x, X.fn x = true
  kd : sc.kind = .function
structure SndG (A : Amb) (B : Bg) (Γ : Nat → Gam) (C : CC) (n : Nat) : Prop where
  G : ∀ W sc X, GS A B Γ C W sc X → ∀ e g, cG n C sc e = some g → DG B W X e (wG Γ g) ∧ ∀ x p, e ≠ .Starred x p
  Gs : ∀ W sc X, GS A B Γ C W sc X → ∀ es gs, cGs n C sc es = some gs → DGs B W X es (wGs Γ gs) ∧ (assignEach es X.env).length = es.length ∧ (assignEach es X.env).findIdx? (·.1) = none
theorem each_ns {e : Expr} {es : List Expr} {env : PySem.Env} (h : ∀ x p, e ≠ .Starred x p) : assignEach (e :: es) env = (false, assign e env) :: assignEach es env := by
  cases e <;> first | rfl | exact absurd rfl (h _ _)
theorem lSlot_get {C : CC} {sc : Scope} {x : Str} {i : Nat} (h : lSlot C sc x = some i) : C.N[i]? = some x ∧ Loc sc x := by
  unfold lSlot at h
  split at h
  · rename_i hc
    rw [Bool.and_eq_true] at hc
    exact ⟨slotOf_get h, locB_loc hc.1⟩
  · cases h
theorem snd_G (A : Amb) (B : Bg) (Γ : Nat → Gam) (C : CC) : ∀ n, SndG A B Γ C n
  | 0 => ⟨fun _ _ _ _ _ _ h => by simp only [cG, reduceCtorEq] at h, fun _ _ _ _ _ _ h => by simp only [cGs, reduceCtorEq] at h⟩
  | n + 1 => by
    have S := snd_G A B Γ C n
    have SE := snd_all A B Γ C n
    refine ⟨fun W sc X G e g h => ?_, fun W sc X G es gs h => ?_⟩
    · cases e <;> try (simp only [cG, reduceCtorEq] at h; done)
      · rename_i o i p
        cases o <;> try (simp only [cG, reduceCtorEq] at h; done)
        rename_i x px
        simp only [cG] at h
        obtain ⟨j, h1, h⟩ := Option.bind_eq_some_iff.mp h
        obtain ⟨m, h2, h⟩ := Option.bind_eq_some_iff.mp h
        cases h
        unfold wG
        have hu := G.gc.units
        exact ⟨dg_sub (var_pe G.gc h1) (SE.E W sc X G.gc i m h2) (by omega) (cE_shape h2).2.2, fun _ _ z => by cases z⟩
      · rename_i x px
        simp only [cG] at h
        obtain ⟨i, h1, rfl⟩ := Option.map_eq_some_iff.mp h
        unfold wG
        obtain ⟨g1, g2⟩ := lSlot_get h1
        exact ⟨dg_name (pg_name (by rw [G.gc.N]; exact G.gc.nd) (by rw [G.gc.N]; exact g1) (by rw [G.gc.sco]; exact g2) (.inl (G.fn x))), fun _ _ z => by cases z⟩
      · rename_i es k p
        simp only [cG] at h
        obtain ⟨gs, h1, rfl⟩ := Option.map_eq_some_iff.mp h
        unfold wG
        obtain ⟨i1, i2, i3⟩ := S.Gs W sc X G es gs h1
        exact ⟨dg_tup G.gc.amb.K G.gc.calm i1 i2 i3, fun _ _ z => by cases z⟩
    · match es with
      | [] =>
        simp only [cGs, Option.some.injEq] at h
        subst h
        unfold wGs
        exact ⟨dgs_nil, rfl, rfl⟩
      | e :: r =>
        simp only [cGs] at h
        obtain ⟨g, h1, h⟩ := Option.bind_eq_some_iff.mp h
        obtain ⟨gr, h2, h⟩ := Option.bind_eq_some_iff.mp h
        cases h
        unfold wGs
        obtain ⟨i1, i2⟩ := S.G W sc X G e g h1
        obtain ⟨j1, j2, j3⟩ := S.Gs W sc X G r gr h2
        have ee := each_ns (es := r) (env := X.env) i2
        refine ⟨dgs_cons i1 j1 (by rw [ee]; rfl), by rw [ee, List.length_cons, j2, List.length_cons], ?_⟩
        rw [ee, List.findIdx?_cons, j3]
        rfl
structure SndS (A : Amb) (B : Bg) (Γ : Nat → Gam) (C : CC) (n : Nat) : Prop where
  S : ∀ W sc X, GS A B Γ C W sc X → ∀ s m, cS n C sc s = some m → DS B W X s (wS Γ m)
  Ss : ∀ W sc X, GS A B Γ C W sc X → ∀ s m, cSs n C sc s = some m → DSs B W X s (wSs Γ m)
def isComp : Expr → Bool
  | .ListComp .. => true
  | .SetComp .. => true
  | .DictComp .. => true
  | _ => false
theorem noComp_sw {e : Expr} {t : Option Expr} {l : Nat} {env : PySem.Env} (h : isComp e = false) : swapsWith e t l env = pure false := by
  cases e <;> first | rfl | cases h
theorem cE_comp {n : Nat} {C : CC} {sc : Scope} {e : Expr} {m : ME} (h : cE n C sc e = some m) : isComp e = false ∨ ∃ elt tg iter ifs scope p, e = .ListComp elt [⟨tg, iter, ifs, 0⟩] scope p := by
  cases n with
  | zero => simp only [cE, reduceCtorEq] at h
  | succ n =>
    cases e <;> first | exact .inl rfl | skip
    · rename_i elt gs scope p
      match gs with
      | [⟨tg, iter, ifs, ia⟩] =>
        simp only [cE] at h
        split at h
        · rename_i e0
          subst e0
          exact .inr ⟨elt, tg, iter, ifs, scope, p, rfl⟩
        · cases h
      | [] => simp only [cE, reduceCtorEq] at h
      | _ :: _ :: _ => simp only [cE, reduceCtorEq] at h
    · simp only [cE, reduceCtorEq] at h
    · simp only [cE, reduceCtorEq] at h
theorem allLoc_get {sc : Scope} {x : Str} {p : Pos} : ∀ {ts : List Expr}, allLoc sc ts = true → .Name x p ∈ ts → sc.names.lookup x = some .local
  | [], _, h => by cases h
  | t :: ts, h, hm => by
    cases t <;> try (simp only [allLoc, reduceCtorEq] at h; done)
    simp only [allLoc, Bool.and_eq_true] at h
    rcases List.mem_cons.mp hm with z | z
    · cases z
      exact eq_of_beq h.1
    · exact allLoc_get h.2 z
end Ev
set_option Elab.async false
set_option linter.all false
set_option autoImplicit false
set_option maxRecDepth 100000
/-! Ev, part P: the small syntax of a statement tells what the statement does. -/
namespace Ev
open PySem PySem.Spec PyProof.Rows L2
theorem fm_names {sc : Scope} {L : Nat} : ∀ {ts : List Expr} {ns : List Str}, namesOf ts = some ns → (ts.filterMap (nmAt sc L)).length = ts.length → ts.filterMap (nmAt sc L) = ns
  | [], ns, h, _ => by
    simp only [namesOf, Option.some.injEq] at h
    subst h
    rfl
  | t :: ts, ns, h, hl => by
    cases t <;> try (simp only [namesOf, reduceCtorEq] at h; done)
    rename_i x p
    simp only [namesOf] at h
    obtain ⟨r, h1, rfl⟩ := Option.map_eq_some_iff.mp h
    rw [List.filterMap_cons] at hl ⊢
    have hle := List.length_filterMap_le (nmAt sc L) ts
    cases q : nmAt sc L (.Name x p) with
    | none =>
      rw [q] at hl
      dsimp only at hl
      rw [List.length_cons] at hl
      omega
    | some y =>
      rw [q] at hl
      dsimp only at hl ⊢
      rw [List.length_cons, List.length_cons] at hl
      rw [fm_names h1 (by omega)]
      simp only [nmAt] at q
      split at q
      · cases q; rfl
      · cases q
theorem swN_names {sc : Scope} {ts vs : List Expr} {names ns : List Str} (h : swN sc ts vs = some (some names)) (hn : namesOf ts = some ns) : names = ns ∧ (ts.length = 2 ∨ ts.length = 3) ∧ vs.length = ts.length := by
  unfold swN at h
  dsimp only at h
  by_cases c1 : (!(ts.length == 2 || ts.length == 3) || vs.length != ts.length) = true
  · rw [if_pos c1] at h; cases h
  rw [if_neg c1] at h
  by_cases c2 : vs.any starB = true
  · rw [if_pos c2] at h; cases h
  rw [if_neg c2] at h
  split at h
  · cases h
  rename_i c3
  split at h
  · cases h
  split at h
  · cases h
  cases h
  simp only [Bool.or_eq_true, bne_iff_ne, ne_eq, not_or, Decidable.not_not, Bool.not_eq_true', Bool.or_eq_false_iff, beq_eq_false_iff_ne] at c1 c3
  refine ⟨fm_names hn c3.1, ?_, c1.2⟩
  have := c1.1
  omega
theorem slots_names {C : CC} {sc : Scope} : ∀ {ts : List Expr} {is : List Nat}, slotsOf C sc ts = some is → ∃ ns, namesOf ts = some ns
  | [], _, _ => ⟨[], rfl⟩
  | t :: ts, is, h => by
    cases t <;> try (simp only [slotsOf, reduceCtorEq] at h; done)
    simp only [slotsOf] at h
    obtain ⟨i, h1, h⟩ := Option.bind_eq_some_iff.mp h
    obtain ⟨r, h2, rfl⟩ := Option.map_eq_some_iff.mp h
    obtain ⟨ns, e⟩ := slots_names h2
    exact ⟨_, by simp only [namesOf, e]; rfl⟩
section
variable {A : Amb} {B : Bg} {Γ : Nat → Gam} {C : CC} {W : WX} {sc : Scope} {X : Cx} {n : Nat}
theorem set_S (G : GS A B Γ C W sc X) {y : Str} {py pos : Pos} {e : Expr} {i : Nat} {m : ME} (h1 : lSlot C sc y = some i) (hd : DE B W X e (wE Γ m)) (hs : swapsWith e (some (.Name y py)) pos.line X.env = pure false) : DS B W X (.Assign [.Name y py] e pos) (wS Γ (.set i m)) := by
  obtain ⟨g1, g2⟩ := lSlot_get h1
  unfold wS
  exact ds_set (by rw [G.gc.N]; exact G.gc.nd) (by rw [G.gc.N]; exact g1) (by rw [G.gc.sco]; exact g2) hd hs (.inl (G.fn y))
theorem setL_S (SE : Snd A B Γ C n) (G : GS A B Γ C W sc X) {y : Str} {py pos p : Pos} {elt tg iter : Expr} {ifs : List Expr} {scope : Scope} {i : Nat} {m : ME} (h1 : lSlot C sc y = some i) (h : cL n C sc elt tg iter ifs scope = some m) :
    DS B W X (.Assign [.Name y py] (.ListComp elt [⟨tg, iter, ifs, 0⟩] scope p) pos) (wS Γ (.set i m)) := by
  obtain ⟨l1, l2⟩ := SE.L W sc X G.gc elt tg iter ifs scope m p h
  obtain ⟨g1, g2⟩ := lSlot_get h1
  obtain ⟨b, hb, hb2⟩ : ∃ b, swapsWith (.ListComp elt [⟨tg, iter, ifs, 0⟩] scope p) (some (.Name y py)) pos.line X.env = pure b ∧ (b = true → X.env.kindOf y = some .local) := by
    refine ⟨X.env.blockKind == .function && X.env.kindOf y == some .local && py.line == (Expr.ListComp elt [⟨tg, iter, ifs, 0⟩] scope p).pos.line && !(scope.names.any fun (n, k) => n == y && (k == .local || k == .cell)), rfl, fun z => ?_⟩
    rw [Bool.and_eq_true, Bool.and_eq_true, Bool.and_eq_true] at z
    exact eq_of_beq z.1.1.2
  cases b with
  | false => exact set_S G h1 l1 hb
  | true =>
    unfold wS
    have q : X.env.scope.names.lookup y = some .local := hb2 rfl
    rw [G.gc.sco] at q
    exact l2 i y py pos g1 q hb
theorem asg_S (SE : Snd A B Γ C n) (SG : SndG A B Γ C n) (G : GS A B Γ C W sc X) {tg e : Expr} {pos : Pos} {m : ME} {g : MG} (h1 : cE n C sc e = some m) (h2 : cG n C sc tg = some g) (hw : swappedStores [tg] e X.env = pure none) (ht : ∀ x p, tg ≠ .Name x p) :
    DS B W X (.Assign [tg] e pos) (wS Γ (.asg m g)) := by
  unfold wS
  obtain ⟨i1, i2⟩ := SG.G W sc X G tg g h2
  refine ds_asg (SE.E W sc X G.gc e m h1) i1 ?_ hw (by rw [each_ns i2]; rfl)
  show swapsWith e (some tg) pos.line X.env = pure false
  rcases cE_comp h1 with hc | ⟨elt, tg', iter, ifs, scope, p, rfl⟩
  · exact noComp_sw hc
  · cases tg <;> first | rfl | exact absurd rfl (ht _ _)
theorem len2 {α : Type} : ∀ {l : List α}, l.length = 2 → ∃ a b, l = [a, b]
  | [a, b], _ => ⟨a, b, rfl⟩
theorem len3 {α : Type} : ∀ {l : List α}, l.length = 3 → ∃ a b c, l = [a, b, c]
  | [a, b, c], _ => ⟨a, b, c, rfl⟩
theorem dat_of {A : Amb} {B : Bg} {Γ : Nat → Gam} {C : CC} {W : WX} {sc : Scope} {X : Cx} (G : GC A B Γ C W sc X) : ∀ {n : Nat} (vs : List Expr) (as : MA), cA n C sc vs = some as → DAT B W X vs (wP Γ as)
  | 0, vs, as, h => by simp [cA] at h
  | n + 1, [], as, h => by
    simp only [cA, Option.some.injEq] at h
    subst h
    unfold wP
    exact dat_nil
  | n + 1, e :: r, as, h => by
    have h0 := ((snd_all A B Γ C (n + 1)).Ar W sc X G (e :: r) as h).2 e List.mem_cons_self
    simp only [cA] at h
    obtain ⟨m, h1, h⟩ := Option.bind_eq_some_iff.mp h
    obtain ⟨as', h2, h⟩ := Option.bind_eq_some_iff.mp h
    cases h
    unfold wP
    exact dat_cons ((snd_all A B Γ C n).E W sc X G e m h1) (dat_of G r as' h2) h0
theorem par_S (SE : Snd A B Γ C n) (G : GS A B Γ C W sc X) {ts vs : List Expr} {k k' : Nat} {p p' pos : Pos} {names : List Str} {is : List Nat} {as : MA} (h0 : swN sc ts vs = some (some names)) (hl : allLoc sc ts = true) (h1 : slotsOf C sc ts = some is) (hn : nodupB is = true) (h2 : cA n C sc vs = some as) :
    DS B W X (.Assign [.Tuple ts k p] (.Tuple vs k' p') pos) (wS Γ (.par is as)) := by
  obtain ⟨ns, e1⟩ := slots_names h1
  obtain ⟨e2, hlen, hv⟩ := swN_names h0 e1
  subst e2
  have hw := swN_ok (k := k) (k' := k') (p := p) (p' := p') G.gc.sco G.kd h0
  have a1 := dat_of (n := n) G.gc vs as h2
  have hN : X.N.Nodup := by rw [G.gc.N]; exact G.gc.nd
  have loc : ∀ {x : Str} {q : Pos}, .Name x q ∈ ts → X.env.scope.names.lookup x = some .local := fun hm => by rw [G.gc.sco]; exact allLoc_get hl hm
  unfold wS
  rcases hlen with hlen | hlen
  · obtain ⟨t1, t2, rfl⟩ := len2 hlen
    obtain ⟨a, b, rfl⟩ := len2 hv
    cases t1 <;> try (simp only [slotsOf, reduceCtorEq] at h1; done)
    cases t2 <;> try (simp only [slotsOf, Option.bind_eq_some_iff, Option.map_eq_some_iff, reduceCtorEq, false_and, and_false, exists_false, exists_const] at h1; done)
    rename_i x px y py
    simp only [slotsOf] at h1
    obtain ⟨i, g1, h1⟩ := Option.bind_eq_some_iff.mp h1
    obtain ⟨r, h3, rfl⟩ := Option.map_eq_some_iff.mp h1
    obtain ⟨j, g2, h3⟩ := Option.bind_eq_some_iff.mp h3
    obtain ⟨r, h4, rfl⟩ := Option.map_eq_some_iff.mp h3
    cases h4
    simp only [namesOf, Option.map_some, Option.some.injEq] at e1
    subst e1
    have hij : i ≠ j := by
      simp only [nodupB, Bool.and_eq_true, Bool.not_eq_true', List.contains_cons, Bool.or_eq_false_iff, beq_eq_false_iff_ne] at hn
      exact hn.1.1
    exact ds_par2 G.gc.calm hN (by rw [G.gc.N]; exact (lSlot_get g1).1) (by rw [G.gc.N]; exact (lSlot_get g2).1) hij (loc (q := px) (.head _)) (loc (q := py) (.tail _ (.head _))) a1 hw
  · obtain ⟨t1, t2, t3, rfl⟩ := len3 hlen
    obtain ⟨a, b, c, rfl⟩ := len3 hv
    cases t1 <;> try (simp only [slotsOf, reduceCtorEq] at h1; done)
    cases t2 <;> try (simp only [slotsOf, Option.bind_eq_some_iff, Option.map_eq_some_iff, reduceCtorEq, false_and, and_false, exists_false, exists_const] at h1; done)
    cases t3 <;> try (simp only [slotsOf, Option.bind_eq_some_iff, Option.map_eq_some_iff, reduceCtorEq, false_and, and_false, exists_false, exists_const] at h1; done)
    rename_i x px y py z pz
    simp only [slotsOf] at h1
    obtain ⟨i, g1, h1⟩ := Option.bind_eq_some_iff.mp h1
    obtain ⟨r, h3, rfl⟩ := Option.map_eq_some_iff.mp h1
    obtain ⟨j, g2, h3⟩ := Option.bind_eq_some_iff.mp h3
    obtain ⟨r, h4, rfl⟩ := Option.map_eq_some_iff.mp h3
    obtain ⟨l, g3, h4⟩ := Option.bind_eq_some_iff.mp h4
    obtain ⟨r, h5, rfl⟩ := Option.map_eq_some_iff.mp h4
    cases h5
    simp only [namesOf, Option.map_some, Option.some.injEq] at e1
    subst e1
    simp only [nodupB, Bool.and_eq_true, Bool.not_eq_true', List.contains_cons, Bool.or_eq_false_iff, beq_eq_false_iff_ne] at hn
    exact ds_par3 G.gc.calm hN (by rw [G.gc.N]; exact (lSlot_get g1).1) (by rw [G.gc.N]; exact (lSlot_get g2).1) (by rw [G.gc.N]; exact (lSlot_get g3).1) hn.1.1 hn.1.2.1 hn.2.1.1 (loc (q := px) (.head _)) (loc (q := py) (.tail _ (.head _))) (loc (q := pz) (.tail _ (.tail _ (.head _)))) a1 hw
theorem step_Assign (SE : Snd A B Γ C n) (SG : SndG A B Γ C n) (G : GS A B Γ C W sc X) (tgs : List Expr) (e : Expr) (pos : Pos) (m : MS) (h : cS (n + 1) C sc (.Assign tgs e pos) = some m) : DS B W X (.Assign tgs e pos) (wS Γ m) := by
  match tgs with
  | [] => simp only [cS, reduceCtorEq] at h
  | _ :: _ :: _ => simp only [cS, reduceCtorEq] at h
  | [tg] =>
    cases tg <;> try (simp only [cS, reduceCtorEq] at h; done)
    · rename_i o i p
      simp only [cS] at h
      obtain ⟨me, h1, h⟩ := Option.bind_eq_some_iff.mp h
      obtain ⟨g, h2, h⟩ := Option.bind_eq_some_iff.mp h
      cases h
      exact asg_S SE SG G h1 h2 (by cases e <;> rfl) fun _ _ z => by cases z
    · rename_i y py
      have gen : isComp e = false → ((lSlot C sc y).bind fun i => (cE n C sc e).bind fun m => some (MS.set i m)) = some m → DS B W X (.Assign [.Name y py] e pos) (wS Γ m) := fun hc h => by
        obtain ⟨i, h1, h⟩ := Option.bind_eq_some_iff.mp h
        obtain ⟨me, h2, h⟩ := Option.bind_eq_some_iff.mp h
        cases h
        exact set_S G h1 (SE.E W sc X G.gc e me h2) (noComp_sw hc)
      cases e <;> try exact gen rfl (by simpa only [cS] using h)
      · rename_i elt gs scope p
        match gs with
        | [⟨tg, iter, ifs, ia⟩] =>
          simp only [cS] at h
          split at h
          · rename_i e0
            subst e0
            obtain ⟨i, h1, h⟩ := Option.bind_eq_some_iff.mp h
            obtain ⟨me, h2, h⟩ := Option.bind_eq_some_iff.mp h
            cases h
            exact setL_S SE G h1 h2
          · cases h
        | [] =>
          simp only [cS] at h
          obtain ⟨i, h1, h⟩ := Option.bind_eq_some_iff.mp h
          obtain ⟨me, h2, h⟩ := Option.bind_eq_some_iff.mp h
          cases n <;> simp only [cE, reduceCtorEq] at h2
        | _ :: _ :: _ =>
          simp only [cS] at h
          obtain ⟨i, h1, h⟩ := Option.bind_eq_some_iff.mp h
          obtain ⟨me, h2, h⟩ := Option.bind_eq_some_iff.mp h
          cases n <;> simp only [cE, reduceCtorEq] at h2
      · simp only [cS] at h
        obtain ⟨i, h1, h⟩ := Option.bind_eq_some_iff.mp h
        obtain ⟨me, h2, h⟩ := Option.bind_eq_some_iff.mp h
        cases n <;> simp only [cE, reduceCtorEq] at h2
      · simp only [cS] at h
        obtain ⟨i, h1, h⟩ := Option.bind_eq_some_iff.mp h
        obtain ⟨me, h2, h⟩ := Option.bind_eq_some_iff.mp h
        cases n <;> simp only [cE, reduceCtorEq] at h2
    · rename_i ts k p
      have gen : swappedStores [.Tuple ts k p] e X.env = pure none → ((cE n C sc e).bind fun m => (cG n C sc (.Tuple ts k p)).bind fun g => some (MS.asg m g)) = some m → DS B W X (.Assign [.Tuple ts k p] e pos) (wS Γ m) := fun hw h => by
        obtain ⟨me, h1, h⟩ := Option.bind_eq_some_iff.mp h
        obtain ⟨g, h2, h⟩ := Option.bind_eq_some_iff.mp h
        cases h
        exact asg_S SE SG G h1 h2 hw fun _ _ z => by cases z
      cases e <;> try exact gen rfl (by simpa only [cS] using h)
      rename_i vs k' p'
      simp only [cS] at h
      split at h
      · rename_i names hsw
        split at h
        · rename_i hl
          obtain ⟨is, h1, h⟩ := Option.bind_eq_some_iff.mp h
          split at h
          · rename_i hn
            obtain ⟨as, h2, h⟩ := Option.bind_eq_some_iff.mp h
            cases h
            exact par_S SE G hsw hl h1 hn h2
          · cases h
        · cases h
      · rename_i hsw
        exact gen (swN_ok G.gc.sco G.kd hsw) h
      · cases h
theorem step_Expr (SE : Snd A B Γ C n) (G : GS A B Γ C W sc X) (e : Expr) (pos : Pos) (m : MS) (h : cS (n + 1) C sc (.Expr e pos) = some m) : DS B W X (.Expr e pos) (wS Γ m) := by
  cases e <;> try (simp only [cS, reduceCtorEq] at h; done)
  · rename_i f es ks cp
    cases f <;> try (simp only [cS, reduceCtorEq] at h; done)
    · rename_i o mt ap
      cases o <;> try (simp only [cS, reduceCtorEq] at h; done)
      rename_i x px
      match es, ks with
      | [a], [] =>
        simp only [cS] at h
        split at h
        · rename_i hline
          split at h
          · rename_i em
            subst em
            obtain ⟨j, h1, h⟩ := Option.bind_eq_some_iff.mp h
            obtain ⟨me, h2, h⟩ := Option.bind_eq_some_iff.mp h
            cases h
            unfold wS
            exact ds_append (var_pe G.gc h1) (SE.E W sc X G.gc a me h2) (cE_shape h2).1 hline
          · split at h
            · rename_i em
              subst em
              obtain ⟨j, h1, h⟩ := Option.bind_eq_some_iff.mp h
              obtain ⟨me, h2, h⟩ := Option.bind_eq_some_iff.mp h
              cases h
              unfold wS
              exact ds_extend (var_pe G.gc h1) (SE.E W sc X G.gc a me h2) (cE_shape h2).1 hline
            · cases h
        · cases h
      | [], _ => simp only [cS, reduceCtorEq] at h
      | [_], _ :: _ => simp only [cS, reduceCtorEq] at h
      | _ :: _ :: _, _ => simp only [cS, reduceCtorEq] at h
    · simp only [cS] at h
      obtain ⟨me, h2, h⟩ := Option.bind_eq_some_iff.mp h
      cases h
      unfold wS
      exact ds_expr (SE.E W sc X G.gc _ me h2) rfl
  · rename_i c j cp
    cases c <;> simp only [cS, reduceCtorEq, Option.some.injEq] at h
    subst h
    unfold wS
    exact ds_doc
theorem step_Ret (SE : Snd A B Γ C n) (G : GS A B Γ C W sc X) (e : Option Expr) (pos : Pos) (m : MS) (h : cS (n + 1) C sc (.Return e pos) = some m) : DS B W X (.Return e pos) (wS Γ m) := by
  cases e with
  | none =>
    simp only [cS, Option.some.injEq] at h
    subst h
    unfold wS
    exact ds_retN
  | some e =>
    have gen : ((cE n C sc e).bind fun m => some (MS.ret m)) = some m → DS B W X (.Return (some e) pos) (wS Γ m) := fun h => by
      obtain ⟨me, h2, h⟩ := Option.bind_eq_some_iff.mp h
      cases h
      unfold wS
      exact ds_ret (SE.E W sc X G.gc e me h2)
    cases e <;> try exact gen (by simpa only [cS] using h)
    simp only [cS] at h
    split at h
    · rename_i i hi
      cases h
      unfold wS
      exact ds_retv (var_pe G.gc hi)
    · exact gen h
end
theorem snd_S (A : Amb) (B : Bg) (Γ : Nat → Gam) (C : CC) : ∀ n, SndS A B Γ C n
  | 0 => ⟨fun _ _ _ _ _ _ h => by simp only [cS, reduceCtorEq] at h, fun _ _ _ _ _ _ h => by simp only [cSs, reduceCtorEq] at h⟩
  | n + 1 => by
    have S := snd_S A B Γ C n
    have SE := snd_all A B Γ C n
    have SG := snd_G A B Γ C n
    refine ⟨fun W sc X G s m h => ?_, fun W sc X G ss m h => ?_⟩
    · cases s <;> try (simp only [cS, reduceCtorEq] at h; done)
      · exact step_Ret SE G _ _ m h
      · exact step_Assign SE SG G _ _ _ m h
      · rename_i tg op e pos
        cases tg <;> try (simp only [cS, reduceCtorEq] at h; done)
        rename_i x px
        simp only [cS] at h
        obtain ⟨i, h1, h⟩ := Option.bind_eq_some_iff.mp h
        obtain ⟨me, h2, h⟩ := Option.bind_eq_some_iff.mp h
        obtain ⟨g1, g2⟩ := lSlot_get h1
        cases op <;> cases h <;> unfold wS
        · exact ds_aug (by rw [G.gc.N]; exact G.gc.nd) (by rw [G.gc.N]; exact g1) (by rw [G.gc.sco]; exact g2) (SE.E W sc X G.gc e me h2) ip_add (.inl (G.fn x))
        · exact ds_aug (by rw [G.gc.N]; exact G.gc.nd) (by rw [G.gc.N]; exact g1) (by rw [G.gc.sco]; exact g2) (SE.E W sc X G.gc e me h2) ip_sub (.inl (G.fn x))
      · rename_i tg it a oe pos
        cases oe <;> try (simp only [cS, reduceCtorEq] at h; done)
        simp only [cS] at h
        obtain ⟨mi, h1, h⟩ := Option.bind_eq_some_iff.mp h
        obtain ⟨g, h2, h⟩ := Option.bind_eq_some_iff.mp h
        obtain ⟨ma, h3, h⟩ := Option.bind_eq_some_iff.mp h
        cases h
        unfold wS
        obtain ⟨i1, i2⟩ := SE.I W sc X G.gc tg it mi h1
        exact ds_for G.po G.gc.calm i1 (SG.G W sc X G tg g h2).1 (S.Ss W sc X G a ma h3) i2
      · rename_i t a oe pos
        cases oe <;> try (simp only [cS, reduceCtorEq] at h; done)
        simp only [cS] at h
        obtain ⟨mt, h1, h⟩ := Option.bind_eq_some_iff.mp h
        obtain ⟨ma, h2, h⟩ := Option.bind_eq_some_iff.mp h
        cases h
        unfold wS
        exact ds_while G.po (SE.T W sc X G.gc t mt h1) (S.Ss W sc X G a ma h2)
      · rename_i t a b pos
        simp only [cS] at h
        obtain ⟨mt, h1, h⟩ := Option.bind_eq_some_iff.mp h
        obtain ⟨ma, h2, h⟩ := Option.bind_eq_some_iff.mp h
        obtain ⟨mb, h3, h⟩ := Option.bind_eq_some_iff.mp h
        cases h
        unfold wS
        exact ds_if (SE.T W sc X G.gc t mt h1) (S.Ss W sc X G a ma h2) (S.Ss W sc X G b mb h3)
      · simp only [cS, Option.some.injEq] at h
        subst h
        unfold wS
        exact ds_never
      · exact step_Expr SE G _ _ m h
      · simp only [cS, Option.some.injEq] at h
        subst h
        unfold wS
        exact ds_pass
      · simp only [cS, Option.some.injEq] at h
        subst h
        unfold wS
        exact ds_break
      · simp only [cS, Option.some.injEq] at h
        subst h
        unfold wS
        exact ds_cont
    · match ss with
      | [] =>
        simp only [cSs, Option.some.injEq] at h
        subst h
        unfold wSs
        exact dss_nil
      | s :: r =>
        simp only [cSs] at h
        obtain ⟨m1, h1, h⟩ := Option.bind_eq_some_iff.mp h
        obtain ⟨m2, h2, h⟩ := Option.bind_eq_some_iff.mp h
        cases h
        unfold wSs
        exact dss_cons (S.S W sc X G s m1 h1) (S.Ss W sc X G r m2 h2)
end Ev
set_option Elab.async false
set_option linter.all false
set_option autoImplicit false
set_option maxRecDepth 100000
/-! Ev, part Q: defs, the table of a law's defs, calls by levels. -/
namespace Ev
open PySem PySem.Spec PyProof.Rows L2
/-- the entry of a body: the parameters, then names without a value -/
def enOf (n : Nat) (ds : List D) : En := ds.map (fun d => some (.v d)) ++ List.replicate (n - ds.length) none
def endOf (k : T → List D → Prop) (e : Xn → List D → Prop) : Post where
  nx := fun _ s => k (.v .non) s
  rt := k
  bk := fun _ _ => False
  ct := fun _ _ => False
  ex := fun x _ s => e x s
/-- a body as a call -/
def gBody (n : Nat) (t : DTS) : Gam := fun ds st k e => t (enOf n ds) st (endOf k e)
theorem gBody_mono {n : Nat} {t : DTS} (m : MonoS t) : MonoC (gBody n t) := fun ds st k k' e e' hk he h => m _ _ (endOf k e) (endOf k' e') ⟨fun _ _ z => hk _ _ z, fun _ _ z => hk _ _ z, fun _ _ z => z, fun _ _ z => z, fun _ _ _ z => he _ _ z⟩ h
theorem enOf_get {n : Nat} {ds : List D} {i : Nat} {x : T} (h : (enOf n ds)[i]? = some (some x)) : ∃ d, x = .v d ∧ ds[i]? = some d := by
  unfold enOf at h
  by_cases hi : i < ds.length
  · rw [List.getElem?_append_left (by rw [List.length_map]; exact hi), List.getElem?_map] at h
    cases q : ds[i]? with
    | none => rw [q] at h; cases h
    | some d => rw [q] at h; cases h; exact ⟨d, rfl, rfl⟩
  · rw [List.getElem?_append_right (by rw [List.length_map]; omega), List.getElem?_replicate] at h
    split at h <;> cases h
theorem enOf_no {n : Nat} {ds : List D} {σ : Sl} (a : Addr) : ¬ OwnAt σ (enOf n ds) a := fun ⟨i, d, h, _⟩ => by
  obtain ⟨d', e, _⟩ := enOf_get h
  cases e
theorem Reps.at {B : Bg} {F : Hp} {r : List Addr} : ∀ {ds : List D} {vs : List V} {i : Nat} {d : D}, Reps B F r ds vs → ds[i]? = some d → ∃ v, vs[i]? = some v ∧ Rep B F r d v
  | [], _, _, _, _, h => by simp at h
  | x :: ds, _, 0, d, ⟨v, t, e, h1, h2⟩, h => by
    simp at h
    subst h e
    exact ⟨v, rfl, h1⟩
  | x :: ds, _, i + 1, d, ⟨v, t, e, h1, h2⟩, h => by
    subst e
    simp only [List.getElem?_cons_succ] at h ⊢
    exact Reps.at h2 h
/-- what the caller of a def is given -/
def caK (B : Bg) (Q : VK) (F : Hp) (r : List Addr) (H : Hp) (t : T) (st : List D) : Prop := ∀ F' r' H' v, CStep F r H F' r' H' → World B F' r' st H' → RRep B F' r' H' [] [] H t v → Q v H'
def caX (B : Bg) (E : XK) (F : Hp) (r : List Addr) (H : Hp) (x : Xn) (st : List D) : Prop := ∀ F' r' H' cls d, CStep F r H F' r' H' → World B F' r' st H' → XRep B F' r' x cls d → E cls d H'
structure GOk (A : Amb) (B : Bg) (f : Addr) (fd : FuncData) (ps : List Str) (g : Gam) : Prop where
  run : ∀ (Z : Around) (outer : List Env) (s : Shared) (H : Hp) (args : Args) (us : List Value) (vs : List V) (Q : VK) (E : XK) (F : Hp) (r : List Addr) (st ds : List D), Room A.k Z → Z.guards = some [] →
    Env0 A.P A.w B.K A.mg A.base Z outer s H → BindsTo s fd args (ps.zip us) → Vals vs us → ds.length = ps.length → World B F r st H → Reps B F r ds vs → g ds st (caK B Q F r H) (caX B E F r H) →
    codeAny (model A.P A.w) Z (.call (.ref f) args) (CR (L2.CX A.P A.w) outer A.P A.w H s Q E) s
/-- the context of a body -/
theorem gs_body {A : Amb} {B : Bg} {Γ : Nat → Gam} {C : CC} {ps : List Str} {scope : Scope} {qual : Str} {f : Addr} {cdv : Value} {Z : Around} {outer : List Env} {s : Shared} {H : Hp} {E : XK} (S : FnScope C.N ps scope)
    (hr : Room A.k (Z.deeper (envOfC qual scope s.heap.objs.size f cdv))) (hg : Z.guards = some []) (blt : ∀ x ∈ bltNames, A.mg x = none) (glo : ∀ x d, C.glob.lookup x = some d → ∃ v u, A.mg x = some u ∧ RelV v u ∧ ∀ F r, Rep B F r d v)
    (cal : ∀ p q, C.pats[p]? = some q → ∀ X' W', InAmb A B X' → Takes X' W' → CallOk B W' X' q.x q.n q.ks (Γ p)) :
    GS A B Γ C (fun cls d _ H => E cls d H) scope (cxOf (L2.CX A.P A.w) A.P A.w B.K A.mg A.base C.N qual scope f cdv Z outer s H E) := by
  refine ⟨⟨⟨rfl, rfl, rfl, rfl, rfl, hr, hg⟩, rfl, rfl, S.nd, rfl, takes_of rfl rfl rfl rfl, blt, glo, cal⟩, passes_of rfl, fun _ => rfl, S.kind⟩
theorem rel_start {B : Bg} {F : Hp} {r : List Addr} {st ds : List D} {vs : List V} {H : Hp} {N : List Str} (W : World B F r st H) (R : Reps B F r ds vs) (hn : ds.length ≤ N.length) : Rel B F r (enOf N.length ds) st (L2.start N vs) H := by
  have hl : vs.length = ds.length := R.len
  refine ⟨W, fun i d h => ?_, fun i d h => ?_, fun i j a h _ => absurd ⟨i, h⟩ (enOf_no a), ?_⟩
  · obtain ⟨d', e, q⟩ := enOf_get h
    cases e
    obtain ⟨v, e1, e2⟩ := R.at q
    refine ⟨v, ?_, e2⟩
    unfold L2.start
    rw [List.getElem?_append_left (by rw [List.length_map]; exact (List.getElem?_eq_some_iff.mp e1).1), List.getElem?_map, e1]
    rfl
  · obtain ⟨d', e, q⟩ := enOf_get h
    cases e
  · unfold enOf L2.start
    simp only [List.length_append, List.length_map, List.length_replicate]
    omega
/-- a def keeps its promise -/
theorem gfn {A : Amb} {B : Bg} {Γ : Nat → Gam} {C : CC} {k n : Nat} {ps : List Str} {x qual : Str} {params : Arguments} {body : List Stmt} {scope : Scope} {dvs : List V} {kws : List (Str × V)} {f : Addr} {fd : FuncData} {m : MSs}
    (FD : FunD B.K x qual params body scope dvs kws f fd) (S : FnScope C.N ps scope) (hk : A.k = k + 1) (blt : ∀ x ∈ bltNames, A.mg x = none) (glo : ∀ x d, C.glob.lookup x = some d → ∃ v u, A.mg x = some u ∧ RelV v u ∧ ∀ F r, Rep B F r d v)
    (cal : ∀ p q, C.pats[p]? = some q → ∀ X' W', InAmb { A with k := k } B X' → Takes X' W' → CallOk B W' X' q.x q.n q.ks (Γ p)) (hc : cSs n C scope body = some m) : GOk A B f fd ps (gBody C.N.length (wSs Γ m)) := by
  obtain ⟨oc, od, dV, kV, doc, pm, an, cdv, ct, osl, rfl, lk, hcd, _, _⟩ := FD.ex
  refine ⟨fun Z outer s H args us vs Q E F r st ds hr hg e0 hb rv hl W0 R0 hq => ?_⟩
  have hvl : vs.length = ds.length := R0.len
  have hpl : ps.length ≤ C.N.length := by
    have h0 := congrArg List.length S.pre
    rw [List.length_take] at h0
    omega
  have KX : B.K.In s.heap := e0.mod.kin.keeps fun b o e => (e0.bs b o e).1
  have lim : s.heap.NoLimit := e0.mod.nolimit.keeps fun b o e => (e0.bs b o e).1
  rw [hk] at hr
  have hr' := hr.deeper (envOfC qual scope s.heap.objs.size f cdv)
  have G := gs_body (A := { A with k := k }) (B := B) (Γ := Γ) (C := C) (qual := qual) (f := f) (cdv := cdv) (outer := outer) (H := H) (E := E) S hr' hg blt glo cal
  have DB := (snd_S { A with k := k } B Γ C n).Ss _ _ _ G body m hc
  refine codeAny_call_function hr.depth (KX _ _ lk) rfl S.co S.gen rfl (PySem.W.codeRec_of KX hcd) (hb _ _ _ _ ?_)
  refine wpAny_newFunctionEnv_cells S.kind (fun ⟨y, v⟩ hy => ?_) fun env he s1 inC => ?_
  · rcases S.par y (List.of_mem_zip hy).1 with q | q
    · exact .inl q
    · exact .inr ⟨q, PySem.W.cellsFrom_some _ _ _ (.inl q)⟩
  subst he
  refine ⟨lim.keeps inC.toInCall.keep, codeAny_func ?_⟩
  have I := inv_start (CX := L2.CX A.P A.w) (E := E) (N := C.N) S hr.hd e0 (hvl.trans hl) rv inC
  have no : ∀ a, ¬ OwnAt (L2.start C.N vs) (enOf C.N.length ds) a := fun a => enOf_no a
  have post : tS B (fun cls d _ H => E cls d H) (wSs Γ m) { nx := fun _ H' => Q .non H', rt := Q } (L2.start C.N vs) H := by
    refine ⟨F, r, enOf C.N.length ds, st, rel_start W0 R0 (by omega), DB.mono _ _ (endOf (caK B Q F r H) (caX B E F r H)) _ ⟨fun n' s' z => ?_, fun t s' z => ?_, fun _ _ z => z.elim, fun _ _ z => z.elim, fun x' n' s' z => ?_⟩ hq⟩
    · intro σ' F' r' H' S' R'
      exact z F' r' H' .non (S'.cstep no) R'.w rfl
    · intro F' r' H' v ⟨σ', en', S'⟩ W' q
      refine z F' r' H' v (S'.cstep no) W' ?_
      cases t with
      | v d => exact q
      | o d =>
        obtain ⟨a, e1, q1, q2⟩ := q
        exact ⟨a, e1, q1, q2.imp id fun z => (no a z).elim⟩
    · intro σ' F' r' H' cls d S' R' q
      exact z F' r' H' cls d (S'.cstep no) R'.w q
  refine wpAny_mono (DB.run.run [] s1 (L2.start C.N vs) H _ I post) (fun fl s' hs => ?_) fun e s' hs => hs
  cases fl with
  | ret u =>
    obtain ⟨v, σ', H', J, r1, q⟩ := hs
    exact ⟨v, H', J.os, J.bare, J.base, J.hok, r1, q⟩
  | next =>
    obtain ⟨σ', H', J, q⟩ := hs
    exact ⟨V.non, H', J.os, J.bare, J.base, J.hok, rfl, q⟩
  | brk => exact hs.elim fun _ z => z.elim fun _ z => z.2.elim
  | cont => exact hs.elim fun _ z => z.elim fun _ z => z.2.elim
/-! ### how arguments are laid out -/
inductive Src where
  | arg (i : Nat) | dfl (j : Nat)
def arr {α : Type} (ds xs : List α) : List Src → Option (List α)
  | [] => some []
  | .arg i :: l => match xs[i]?, arr ds xs l with
    | some x, some r => some (x :: r)
    | _, _ => none
  | .dfl j :: l => match ds[j]?, arr ds xs l with
    | some x, some r => some (x :: r)
    | _, _ => none
theorem arr_len {α : Type} {ds xs : List α} : ∀ {l : List Src} {ys : List α}, arr ds xs l = some ys → ys.length = l.length
  | [], ys, h => by cases h; rfl
  | s :: l, ys, h => by
    cases s <;>
    · simp only [arr] at h
      split at h
      · rename_i q
        cases h
        exact congrArg Nat.succ (arr_len q)
      · cases h
theorem arr_vals {dvs vs : List V} {its us : List Value} (h1 : Vals dvs its) (h2 : Vals vs us) : ∀ {l : List Src} {ys : List Value}, arr its us l = some ys → ∃ zs, arr dvs vs l = some zs ∧ Vals zs ys
  | [], ys, h => by cases h; exact ⟨[], rfl, .nil⟩
  | .arg i :: l, ys, h => by
    simp only [arr] at h
    split at h
    · rename_i x r q1 q2
      cases h
      obtain ⟨zs, e1, e2⟩ := arr_vals h1 h2 q2
      obtain ⟨v, e3, e4⟩ := Vals.gets h2 q1
      exact ⟨v :: zs, by simp only [arr, e3, e1], .cons e4 e2⟩
    · cases h
  | .dfl i :: l, ys, h => by
    simp only [arr] at h
    split at h
    · rename_i x r q1 q2
      cases h
      obtain ⟨zs, e1, e2⟩ := arr_vals h1 h2 q2
      obtain ⟨v, e3, e4⟩ := Vals.gets h1 q1
      exact ⟨v :: zs, by simp only [arr, e3, e1], .cons e4 e2⟩
    · cases h
where
  Vals.gets {vs : List V} {us : List Value} : ∀ {i : Nat} {u : Value}, Vals vs us → us[i]? = some u → ∃ v, vs[i]? = some v ∧ RelV v u := by
    intro i u h
    induction h generalizing i with
    | nil => intro z; simp at z
    | cons a b ih =>
      intro z
      cases i with
      | zero => simp at z; subst z; exact ⟨_, rfl, a⟩
      | succ i => simp only [List.getElem?_cons_succ] at z ⊢; exact ih z
theorem arr_reps {B : Bg} {F : Hp} {r : List Addr} {dd ds : List D} {dvs vs : List V} (h1 : Reps B F r dd dvs) (h2 : Reps B F r ds vs) : ∀ {l : List Src} {xs : List D}, arr dd ds l = some xs → ∃ zs, arr dvs vs l = some zs ∧ Reps B F r xs zs
  | [], ys, h => by cases h; exact ⟨[], rfl, rfl⟩
  | .arg i :: l, ys, h => by
    simp only [arr] at h
    split at h
    · rename_i x r q1 q2
      cases h
      obtain ⟨zs, e1, e2⟩ := arr_reps h1 h2 q2
      obtain ⟨v, e3, e4⟩ := h2.at q1
      exact ⟨v :: zs, by simp only [arr, e3, e1], v, zs, rfl, e4, e2⟩
    · cases h
  | .dfl i :: l, ys, h => by
    simp only [arr] at h
    split at h
    · rename_i x r q1 q2
      cases h
      obtain ⟨zs, e1, e2⟩ := arr_reps h1 h2 q2
      obtain ⟨v, e3, e4⟩ := h1.at q1
      exact ⟨v :: zs, by simp only [arr, e3, e1], v, zs, rfl, e4, e2⟩
    · cases h
/-- how a call's arguments reach the parameters -/
structure PatOk (K : PySem.W.Frag) (fd : FuncData) (ps : List Str) (n : Nat) (ks : List Str) (dvs : List V) (src : List Src) : Prop where
  len : src.length = ps.length
  to : ∃ its : List Value, Vals dvs its ∧ ∀ (s : Shared) (us ws : List Value), K.In s.heap → us.length = n → ws.length = ks.length → ∃ ys, arr its (us ++ ws) src = some ys ∧ BindsTo s fd ⟨us, ks.zip ws⟩ (ps.zip ys)
section
variable {K : PySem.W.Frag} {x qual : Str} {params : Arguments} {body : List Stmt} {scope : Scope} {dvs : List V} {kws : List (Str × V)} {f : Addr} {fd : FuncData} {ps ks : List Str} {n : Nat} {src : List Src}
theorem pat_of0 (F : FunD K x qual params body scope [] kws f fd) (hl : src.length = ps.length)
    (h : ∀ (kV doc pm : Value) (an : Option Addr) (cdv ct : Value) (us ws : List Value), us.length = n → ws.length = ks.length → ∃ ys, arr [] (us ++ ws) src = some ys ∧ bindArgs (PySem.W.fnOf x qual params body scope .none kV doc pm an cdv ct) ⟨us, ks.zip ws⟩ = pure (ps.zip ys)) : PatOk K fd ps n ks [] src := by
  obtain ⟨oc, od, dV, kV, doc, pm, an, cdv, ct, osl, rfl, lk, hcd, hD, hK⟩ := F.ex
  rcases hD with ⟨_, rfl⟩ | ⟨e, _⟩
  · refine ⟨hl, [], .nil, fun s us ws _ l1 l2 => ?_⟩
    obtain ⟨ys, e1, e2⟩ := h kV doc pm an cdv ct us ws l1 l2
    exact ⟨ys, e1, .of_eq e2⟩
  · exact absurd rfl e
theorem pat_of1 (F : FunD K x qual params body scope dvs kws f fd) (hd : dvs ≠ []) (hl : src.length = ps.length)
    (h : ∀ (T : Addr) (kV doc pm : Value) (an : Option Addr) (cdv ct : Value) (its us ws : List Value), its.length = dvs.length → us.length = n → ws.length = ks.length → ∃ ys k, arr its (us ++ ws) src = some ys ∧
      bindArgs (PySem.W.fnOf x qual params body scope (.ref T) kV doc pm an cdv ct) ⟨us, ks.zip ws⟩ = seqItems? (.ref T) >>= k ∧ k (some its.toArray) = pure (ps.zip ys)) : PatOk K fd ps n ks dvs src := by
  obtain ⟨oc, od, dV, kV, doc, pm, an, cdv, ct, osl, rfl, lk, hcd, hD, hK⟩ := F.ex
  rcases hD with ⟨e, _⟩ | ⟨_, T, o, its, m, rfl, lT, oT, rT⟩
  · exact absurd e hd
  · refine ⟨hl, its, rT, fun s us ws X l1 l2 => ?_⟩
    obtain ⟨ys, k, e0, e1, e2⟩ := h T kV doc pm an cdv ct its us ws rT.length.symm l1 l2
    refine ⟨ys, e0, BindsTo.of_looks fun M => ?_⟩
    rw [e1]
    exact looks_items X lT oT (.of_pure e2)
end
/-! ### the table -/
structure Fn where
  x : Str
  N : List Str
  ps : List Str
  m : MSs
structure Pl where
  f : Nat
  pat : Pat
  dfs : List D
  src : List Src
structure Tb where
  fns : List Fn
  pls : List Pl
  glob : List (Str × D)
def Tb.pats (T : Tb) : List Pat := T.pls.map (·.pat)
def Cl (T : Tb) : Nat → Nat → Gam
  | 0, _ => fun _ _ _ _ => False
  | k + 1, p => fun ds st kk e => match T.pls[p]? with
    | none => False
    | some pl => match T.fns[pl.f]? with
      | none => False
      | some fn => match arr pl.dfs ds pl.src with
        | none => False
        | some xs => gBody fn.N.length (wSs (Cl T k) fn.m) xs st kk e
/-- a def of the table, as it stands -/
structure FnAt (mg : Str → Option Value) (B : Bg) (T : Tb) (fn : Fn) (f : Addr) (fd : FuncData) (dvs : List V) : Prop where
  glo : mg fn.x = some (.ref f)
  fd : ∃ (qual : Str) (params : Arguments) (body : List Stmt) (scope : Scope) (kws : List (Str × V)) (n : Nat), FunD B.K fn.x qual params body scope dvs kws f fd ∧ FnScope fn.N fn.ps scope ∧ cSs n ⟨fn.N, T.glob, T.pats⟩ scope body = some fn.m
/-- everything that is known of the table -/
structure TbOk (mg : Str → Option Value) (B : Bg) (T : Tb) : Prop where
  blt : ∀ x ∈ bltNames, mg x = none
  glob : ∀ x d, T.glob.lookup x = some d → ∃ v u, mg x = some u ∧ RelV v u ∧ ∀ F r, Rep B F r d v
  pl : ∀ (p : Nat) (pl : Pl), T.pls[p]? = some pl → ∃ fn f fd dvs, T.fns[pl.f]? = some fn ∧ pl.pat.x = fn.x ∧ FnAt mg B T fn f fd dvs ∧ PatOk B.K fd fn.ps pl.pat.n pl.pat.ks dvs pl.src ∧ ∀ F r, Reps B F r pl.dfs dvs
theorem pats_get {T : Tb} {p : Nat} {q : Pat} (h : T.pats[p]? = some q) : ∃ pl, T.pls[p]? = some pl ∧ pl.pat = q := by
  unfold Tb.pats at h
  rw [List.getElem?_map] at h
  exact Option.map_eq_some_iff.mp h
theorem fn_go {A : Amb} {B : Bg} {T : Tb} {fn : Fn} {f : Addr} {fd : FuncData} {dvs : List V} {k : Nat} (O : TbOk A.mg B T) (F : FnAt A.mg B T fn f fd dvs) (hk : A.k = k + 1)
    (cal : ∀ p pl, T.pls[p]? = some pl → ∀ X W, InAmb { A with k := k } B X → Takes X W → CallOk B W X pl.pat.x pl.pat.n pl.pat.ks (Cl T k p)) : GOk A B f fd fn.ps (gBody fn.N.length (wSs (Cl T k) fn.m)) := by
  obtain ⟨qual, params, body, scope, kws, n, F1, F2, F3⟩ := F.fd
  refine gfn (C := ⟨fn.N, T.glob, T.pats⟩) F1 F2 hk O.blt O.glob (fun p q hq X' W' i t => ?_) F3
  obtain ⟨pl, e1, rfl⟩ := pats_get hq
  exact cal p pl e1 X' W' i t
theorem fn_mono {A : Amb} {B : Bg} {T : Tb} {fn : Fn} {f : Addr} {fd : FuncData} {dvs : List V} {k : Nat} {X : Cx} (O : TbOk A.mg B T) (F : FnAt A.mg B T fn f fd dvs) (hk : A.k = k + 1) (hi : InAmb A B X)
    (cal : ∀ p pl, T.pls[p]? = some pl → ∀ X W, InAmb { A with k := k } B X → Takes X W → CallOk B W X pl.pat.x pl.pat.n pl.pat.ks (Cl T k p)) : MonoS (wSs (Cl T k) fn.m) := by
  obtain ⟨qual, params, body, scope, kws, n, F1, F2, F3⟩ := F.fd
  have hr : Room (k + 1) X.A := hk ▸ hi.room
  have G := gs_body (A := { A with k := k }) (B := B) (Γ := Cl T k) (C := ⟨fn.N, T.glob, T.pats⟩) (qual := qual) (f := f) (cdv := .none) (outer := X.stack) (s := X.s_0) (H := X.H_0) (E := fun _ _ _ => False) (Z := X.A) F2 (hr.deeper _) hi.gd O.blt O.glob (fun p q hq X' W' i t => by
    obtain ⟨pl, e1, rfl⟩ := pats_get hq
    exact cal p pl e1 X' W' i t)
  exact ((snd_S { A with k := k } B (Cl T k) ⟨fn.N, T.glob, T.pats⟩ n).Ss _ _ _ G body fn.m F3).mono
/-- a def's promise, as a caller uses it -/
theorem call_of {A : Amb} {B : Bg} {X : Cx} {W : WX} {f : Addr} {fd : FuncData} {ps ks : List Str} {n : Nat} {dvs : List V} {dd : List D} {src : List Src} {g : Gam} {x : Str} (G : GOk A B f fd ps g) (hm : A.mg x = some (.ref f)) (hkp : PySem.W.keepIn B.K (.ref f) = true) (mg : MonoC g)
    (hi : InAmb A B X) (tk : Takes X W) (P : PatOk B.K fd ps n ks dvs src) (hd : ∀ F r, Reps B F r dd dvs) : CallOk B W X x n ks (fun ds st k e => match arr dd ds src with
      | none => False
      | some xs => g xs st k e) := by
  refine ⟨fun ds st k k' e e' hk he h => ?_, f, by rw [hi.mg]; exact hm, by rw [hi.K]; exact hkp, fun pins σ H s Q us ws vs zs F r en st ds I r1 r2 l1 l2 R rep h => ?_⟩
  · split at h
    · exact h.elim
    · exact mg _ _ _ _ _ _ hk he h
  obtain ⟨its, hv, hto⟩ := P.to
  have kin : B.K.In s.heap := hi.K ▸ I.kIn
  obtain ⟨ys, e1, hb⟩ := hto s us ws kin (r1.length.symm.trans l1) (r2.length.symm.trans l2)
  obtain ⟨xs', e2, hvv⟩ := arr_vals hv (r1.append r2) e1
  split at h
  · exact h.elim
  rename_i xs ex
  obtain ⟨xs2, e3, hrep⟩ := arr_reps (hd F r) rep ex
  rw [e2] at e3
  cases e3
  have E0 : Env0 A.P A.w B.K A.mg A.base X.A X.stack s H := by
    have q := I.env0
    rw [hi.prog, hi.w, hi.K, hi.mg, hi.base] at q
    exact q
  have run := G.run X.A X.stack s H ⟨us, ks.zip ws⟩ ys xs' Q (fun cls d H' => W cls d σ H') F r st xs hi.room hi.gd E0 hb hvv ((arr_len ex).trans P.len) R.w hrep (mg _ _ _ _ _ _ (fun t st' z => ?_) (fun x' st' z => ?_) h)
  · rw [hi.prog, hi.w]
    refine wpAny_call (codeAny_mono run fun r s' hq => ?_)
    cases r with
    | error e =>
      refine tk e s' (XE.of_call (E := fun cls d H' => W cls d σ H') I (fun _ _ _ z => z) ?_)
      rw [hi.prog, hi.w]
      exact hq
    | ok fl =>
      cases fl with
      | ret u =>
        refine I.after ?_
        rw [hi.prog, hi.w]
        exact hq
      | next => exact False.elim hq
      | brk => exact False.elim hq
      | cont => exact False.elim hq
  · intro F' r' H' v S' W' q
    refine z F' r' H' v S'.step (R.call S' W') ?_
    cases t with
    | v d => exact q
    | o d =>
      obtain ⟨a, e1, q1, q2⟩ := q
      have hn : H a = none := q2.resolve_right fun ⟨i, d, z, _⟩ => by simp at z
      exact ⟨a, e1, q1, R.noOwn hn, .inl hn⟩
  · intro F' r' H' cls d S' W' q
    exact z F' r' H' cls d S'.step (R.call S' W') q
theorem cl_ok {B : Bg} {T : Tb} {mg : Str → Option Value} (O : TbOk mg B T) : ∀ (k : Nat) (A : Amb), A.mg = mg → A.k = k → ∀ p pl, T.pls[p]? = some pl → ∀ X W, InAmb A B X → Takes X W → CallOk B W X pl.pat.x pl.pat.n pl.pat.ks (Cl T k p)
  | 0, A, hm, hk, p, pl, hp, X, W, hi, tk => by
    obtain ⟨fn, f, fd, dvs, e1, e2, FA, PO, hd⟩ := O.pl p pl hp
    obtain ⟨qual, params, body, scope, kws, n, F1, F2, F3⟩ := FA.fd
    exact ⟨fun _ _ _ _ _ _ _ _ h => h, f, by rw [hi.mg, hm, e2]; exact FA.glo, by rw [hi.K]; exact F1.kp, fun _ _ _ _ _ _ _ _ _ _ _ _ _ _ _ _ _ _ _ _ _ h => h.elim⟩
  | k + 1, A, hm, hk, p, pl, hp, X, W, hi, tk => by
    subst hm
    obtain ⟨fn, f, fd, dvs, e1, e2, FA, PO, hd⟩ := O.pl p pl hp
    have cal := cl_ok O k { A with k := k } rfl rfl
    have G := fn_go O FA hk cal
    have M := fn_mono O FA hk hi cal
    obtain ⟨qual, params, body, scope, kws, n, F1, F2, F3⟩ := FA.fd
    have q := call_of (dd := pl.dfs) G FA.glo F1.kp (gBody_mono M) hi tk PO hd
    rw [e2]
    have e : (fun ds st k' e => match arr pl.dfs ds pl.src with
      | none => False
      | some xs => gBody fn.N.length (wSs (Cl T k) fn.m) xs st k' e) = Cl T (k + 1) p := by
      funext ds st kk e
      show _ = (match T.pls[p]? with
        | none => False
        | some pl => match T.fns[pl.f]? with
          | none => False
          | some fn => match arr pl.dfs ds pl.src with
            | none => False
            | some xs => gBody fn.N.length (wSs (Cl T k) fn.m) xs st kk e)
      rw [hp]
      dsimp only
      rw [e1]
    rw [← e]
    exact q
end Ev
set_option Elab.async false
set_option linter.all false
set_option autoImplicit false
set_option maxRecDepth 100000
/-! Ev, part R: the end of a law, its table by the head's facts. -/
namespace Ev
open PySem PySem.Spec PyProof.Rows L2
/-- the law's def runs at a script -/
theorem law_go {P : Program} {w : PySem.World} {B : Bg} {T : Tb} {mg mb : Str → Option Value} {k p : Nat} {pl : Pl} {fa a : Addr} {sh : Shared} {vs : List Value} {ns : List Int} (O : TbOk mg B T) (hp : T.pls[p]? = some pl) (hn : pl.pat.n = 1) (hks : pl.pat.ks = []) (hfa : mg pl.pat.x = some (.ref fa))
    (KX : B.K.In sh.heap) (hG : sh.heap.Ns mainGlobals mg) (hB : sh.heap.Ns builtinsNs mb) (hbb : ∀ x : Str, x ≠ "__name__" → mb x = bootBuiltins x) (hlim : sh.heap.NoLimit) (hgen : sh.gens = #[])
    (ha : sh.heap.get? a = some { cls := .type "list", data := .seq vs.toArray }) (hi : IntsAre vs ns) (hl : ns.length ≤ sizeLine) (hr : Room (k + 1) callerA)
    (hw : Cl T (k + 1) p [.scr ns] [] (fun t _ => t = .v (.bl true)) (fun _ _ => False)) :
    codeAny (model P w) callerA (.call (.ref fa) ⟨[.ref a], []⟩) (fun r s' => r = .ok (.ret (.bool true)) ∧ OldK sh.heap s'.heap ∧ s'.os = sh.os ∧ AllBare s'.gens) sh := by
  have rv := vals_ints hi
  have ln := hi.length
  obtain ⟨fn, f, fd, dvs, e1, e2, FA, PO, hd⟩ := O.pl p pl hp
  have ef : f = fa := by
    have q := FA.glo
    rw [← e2, hfa] at q
    cases q
    rfl
  subst ef
  have main : ∀ H : Hp, Only H → SqL B.K H a (ns.map V.int) → HOk P w H sh.heap → (∀ b, H b ≠ none → b = a) → (H a ≠ none → B.K.lookup a = none) →
      codeAny (model P w) callerA (.call (.ref f) ⟨[.ref a], []⟩) (fun r s' => r = .ok (.ret (.bool true)) ∧ OldK sh.heap s'.heap ∧ s'.os = sh.os ∧ AllBare s'.gens) sh := by
    intro H hO hS hok hA hK
    have bas : ∀ {b : Addr} {o : Obj}, sh.heap.get? b = some o → H b = none → (hidT sh.heap H).get? b = some o := fun e n => hidT_get e n
    have notA : ∀ {b : Addr} {o : Obj} {es : Array DictEntry} {ep : Nat}, sh.heap.get? b = some o → o.data = .dict es ep → H b = none := fun {b o es ep} e dd => by
      cases q : H b with
      | none => rfl
      | some u =>
        obtain rfl : b = a := hA b (by rw [q]; simp)
        rw [ha] at e
        cases e
        exact nomatch (show Data.seq vs.toArray _ = Data.dict es ep from dd)
    have nsK : ∀ {b : Addr} {m : Str → Option Value}, sh.heap.Ns b m → (hidT sh.heap H).Ns b m := fun ⟨o, es, ep, e, dd, rr⟩ => ⟨o, es, ep, bas e (notA e dd), dd, rr⟩
    have kin : B.K.In (hidT sh.heap H) := fun b o e => bas (KX b o e) (by
      cases q : H b with
      | none => rfl
      | some u =>
        obtain rfl : b = a := hA b (by rw [q]; simp)
        rw [hK (by rw [q]; simp)] at e
        cases e)
    have md : Mod B.K mg (hidT sh.heap H) := ⟨kin, nsK hG, ⟨mb, nsK hB, hbb⟩, let ⟨mc, z1, z2⟩ := hlim; ⟨mc, nsK z1, z2⟩⟩
    have e0 : Env0 P w B.K mg (hidT sh.heap H) callerA [] sh H := ⟨rfl, md, fun b o e => of_hidT e, Nat.le_of_eq (hidT_size _ _), trivial, fun b hb => (nomatch (show b ∈ ([] : List Addr) from hb)), hok, .of_eq hgen⟩
    have G := fn_go (A := ⟨P, w, mg, hidT sh.heap H, k + 1⟩) (k := k) O FA rfl (cl_ok O k ⟨P, w, mg, hidT sh.heap H, k⟩ rfl rfl)
    obtain ⟨its, hv, hto⟩ := PO.to
    have hb := hto sh [.ref a] [] KX (by rw [hn]; rfl) (by rw [hks]; rfl)
    obtain ⟨ys, ey, hb⟩ := hb
    rw [hks] at hb
    obtain ⟨zs, ez, rz⟩ := arr_vals (vs := [V.ref a]) hv (.cons rfl .nil) ey
    have hw' := hw
    unfold Cl at hw'
    rw [hp] at hw'
    dsimp only at hw'
    rw [e1] at hw'
    dsimp only at hw'
    split at hw'
    · exact hw'.elim
    rename_i xs ex
    have rep0 : Reps B H [] [D.scr ns] [V.ref a] := ⟨_, _, rfl, ⟨a, rfl, hS⟩, rfl⟩
    obtain ⟨zs2, ez2, rep⟩ := arr_reps (hd H []) rep0 ex
    rw [ez] at ez2
    cases ez2
    have W0 : World B H [] [] H := ⟨Sub.refl _, List.nodup_nil, rfl, fun n a d z => by simp at z⟩
    have i0 : MonoS (wSs (Cl T k) fn.m) := by
      obtain ⟨qual, params, body, scope, kws, nn, F1, F2, F3⟩ := FA.fd
      have G2 := gs_body (A := ⟨P, w, mg, hidT sh.heap H, k⟩) (B := B) (Γ := Cl T k) (C := ⟨fn.N, T.glob, T.pats⟩) (qual := qual) (f := f) (cdv := .none) (outer := []) (s := sh) (H := H) (E := fun _ _ _ => False) (Z := callerA) F2 (hr.deeper _) rfl O.blt O.glob (fun p q hq X' W' i t => by
        obtain ⟨pl, e1, rfl⟩ := pats_get hq
        exact cl_ok O k ⟨P, w, mg, hidT sh.heap H, k⟩ rfl rfl p pl e1 X' W' i t)
      exact ((snd_S ⟨P, w, mg, hidT sh.heap H, k⟩ B (Cl T k) ⟨fn.N, T.glob, T.pats⟩ nn).Ss _ _ _ G2 body fn.m F3).mono
    have run := G.run callerA [] sh H ⟨[.ref a], []⟩ ys zs (fun v _ => v = .bl true) (fun _ _ _ => False) H [] [] xs hr rfl e0 hb rz ((arr_len ex).trans PO.len) W0 rep (gBody_mono i0 _ _ _ _ _ _ (fun t st' z => by
      subst z
      intro F' r' H' v _ _ q
      exact q) (fun _ _ z => z.elim) hw')
    refine codeAny_mono run fun r s' hq => ?_
    cases r with
    | error e =>
      obtain ⟨_, _, _, _, _, _, _, _, _, _, _, _, z⟩ := hq
      exact z.elim
    | ok fw =>
      cases fw with
      | next => exact False.elim hq
      | brk => exact False.elim hq
      | cont => exact False.elim hq
      | ret u =>
        obtain ⟨v, H', os, bare, un, hok', r', q⟩ := hq
        obtain rfl : v = .bl true := q
        obtain rfl : u = Value.bool true := r'
        refine ⟨rfl, OldK.of_keep fun b o e => ?_, os, bare⟩
        cases q : H b with
        | none => exact un.keep b o e q (fun z => (nomatch (show b ∈ ([] : List Addr) from z))) (by simp)
        | some u =>
          rcases hO b with z | ⟨ob, xs, z⟩
          · rw [q] at z
            cases z
          · obtain ⟨g1, _⟩ := hok b _ z
            obtain ⟨g2, _⟩ := hok' b _ (un.frzs b ob _ z)
            rw [e] at g1
            cases g1
            exact g2
  cases hk : B.K.lookup a with
  | some o =>
    have e := KX a o hk
    rw [ha] at e
    cases e
    exact main (fun _ => none) (fun _ => .inl rfl) (.inr ⟨_, vs.toArray, _, hk, rfl, rfl, rfl, by rw [List.size_toArray, ln]; exact hl, by simpa using rv⟩) (fun b u z => (nomatch (show (none : Option HO) = some u from z))) (fun b z => absurd rfl z) fun z => absurd rfl z
  | none =>
    refine main (fun b => if b = a then some (.frz { cls := .type "list", data := .seq vs.toArray } (.lst (ns.map V.int))) else none) (fun b => ?_) (.inl (.inr ⟨_, if_pos rfl⟩)) (fun b u z => ?_) (fun b z => ?_) fun _ => hk
    · by_cases hb : b = a
      · exact .inr ⟨_, _, if_pos hb⟩
      · exact .inl (if_neg hb)
    · by_cases hb : b = a
      · cases (if_pos hb).symm.trans z
        subst hb
        exact ⟨ha, by rw [List.length_map]; exact hl, vs, _, rv, ha⟩
      · cases (if_neg hb).symm.trans z
    · by_cases hb : b = a
      · exact hb
      · exact absurd (if_neg hb) z
/-- the walk that the head asks for -/
theorem walk_ev {l : PySem.W.OpenLaw} {n k : Nat} {q : Program} {loose : List Str} {XP : (Str → Option Value) → Heap → Prop} {YP : PySem.World → Heap → Prop} {d : DefRec} (hn : l.most = some n) (hn2 : n ≤ sizeLine) (hdf : d.params.defaults = []) (hr : Room (k + 1) callerA)
    (F : ∀ (w : PySem.World) (mg : Str → Option Value) (h : Heap), YP w h → h.Ns mainGlobals mg → ∃ (B : Bg) (T : Tb) (p : Nat) (pl : Pl), B.K.In h ∧ TbOk mg B T ∧ T.pls[p]? = some pl ∧ pl.pat.n = 1 ∧ pl.pat.ks = [] ∧ pl.pat.x = d.name ∧
      ∀ ns : List Int, ns.length ≤ n → (∀ z ∈ ns, Builtin.Int.intBits z ≤ 1048576) → Cl T (k + 1) p [.scr ns] [] (fun t _ => t = .v (.bl true)) (fun _ _ => False)) :
    PySem.W.WalkO q loose XP YP l.row.toRowW d [] (fun f vs => PySem.call f vs) := by
  refine Att.attach_callB hn hdf fun w s0 s1 mg mb fa o pm cd doc a vs ns G Y ho hd hcd hmg hobj hints hlen hbits hg => ?_
  obtain ⟨B, T, p, pl, h1, h2, h3, h4, h5, h6, h7⟩ := F w mg _ Y G.T.g
  exact law_go h2 h3 h4 h5 (by rw [h6]; exact hmg) h1 G.T.g G.T.b G.T.builtins G.T.nolimit hg hobj hints (Nat.le_trans hlen hn2) hr (h7 ns hlen hbits)
/-! ### the table from the head's facts -/
def dvD : He.Dv → Option D
  | .non => some .non
  | .bl b => some (.bl b)
  | .int i => some (.int i)
  | .str s => some (.str s)
  | _ => none
def dvsD : List He.Dv → Option (List D)
  | [] => some []
  | v :: vs => match dvD v, dvsD vs with
    | some d, some ds => some (d :: ds)
    | _, _ => none
theorem dvsD_ok {B : Bg} {K : PySem.W.Frag} : ∀ {vs : List He.Dv} {ds : List D}, dvsD vs = some ds → ∀ F r, Reps B F r ds (vs.map (He.Dv.v K))
  | [], ds, h, F, r => by cases h; rfl
  | v :: vs, ds, h, F, r => by
    simp only [dvsD] at h
    split at h
    · rename_i d ds' h1 h2
      cases h
      refine ⟨_, _, rfl, ?_, dvsD_ok h2 F r⟩
      cases v <;> simp only [dvD, Option.some.injEq, reduceCtorEq] at h1 <;> subst h1 <;> rfl
    · cases h
/-- a def of the text, as data -/
structure Df where
  d : He.DefD
  fn : Fn
def scB (N ps : List Str) (sc : Scope) : Bool := decide (sc.kind = .function) && (!sc.isCoroutine && (!sc.isGenerator && (decide N.Nodup && (decide (N.take ps.length = ps) && (ps.all (fun x => decide (sc.names.lookup x = some .local) || decide (sc.names.lookup x = some .cell)) && sc.names.all (fun y => decide (y.2 ≠ .free)))))))
theorem scB_ok {N ps : List Str} {sc : Scope} (h : scB N ps sc = true) : FnScope N ps sc := by
  simp only [scB, Bool.and_eq_true, decide_eq_true_eq, Bool.not_eq_true', List.all_eq_true, Bool.or_eq_true] at h
  obtain ⟨h1, h2, h3, h4, h5, h6, h7⟩ := h
  exact ⟨h1, h2, h3, h4, h5, h6, h7⟩
/-- what is checked of a def, by one kernel run -/
def Df.good (f : Df) : Prop := scB f.fn.N f.fn.ps f.d.scope = true ∧ f.fn.x = f.d.name ∧ f.d.at_ = (f.d.name, none)
structure DfOk (T : Tb) (f : Df) : Prop where
  sc : scB f.fn.N f.fn.ps f.d.scope = true
  x : f.fn.x = f.d.name
  at_ : f.d.at_ = (f.d.name, none)
  cc : ∃ n, cSs n ⟨f.fn.N, T.glob, T.pats⟩ f.d.scope f.d.body = some f.fn.m
/-- how a plan's arguments are bound: for every way the function object may look -/
def Bnd (d : He.DefD) (ps : List Str) (n : Nat) (ks : List Str) (src : List Src) : Prop := match d.dfl with
  | [] => ∀ (kV doc pm : Value) (an : Option Addr) (cdv ct : Value) (us ws : List Value), us.length = n → ws.length = ks.length → ∃ ys, arr [] (us ++ ws) src = some ys ∧ bindArgs (PySem.W.fnOf d.name d.qual d.params d.body d.scope .none kV doc pm an cdv ct) ⟨us, ks.zip ws⟩ = pure (ps.zip ys)
  | _ => ∀ (T : Addr) (kV doc pm : Value) (an : Option Addr) (cdv ct : Value) (its us ws : List Value), its.length = d.dfl.length → us.length = n → ws.length = ks.length → ∃ ys k, arr its (us ++ ws) src = some ys ∧
      bindArgs (PySem.W.fnOf d.name d.qual d.params d.body d.scope (.ref T) kV doc pm an cdv ct) ⟨us, ks.zip ws⟩ = seqItems? (.ref T) >>= k ∧ k (some its.toArray) = pure (ps.zip ys)
structure PlOk (T : Tb) (dfs : List Df) (pl : Pl) : Prop where
  ok : ∃ f, dfs[pl.f]? = some f ∧ T.fns[pl.f]? = some f.fn ∧ pl.pat.x = f.d.name ∧ dvsD f.d.dfl = some pl.dfs ∧ pl.src.length = f.fn.ps.length ∧ Bnd f.d f.fn.ps pl.pat.n pl.pat.ks pl.src
def AllP {α : Type} (P : α → Prop) : List α → Prop
  | [] => True
  | x :: xs => P x ∧ AllP P xs
theorem AllP.get {α : Type} {P : α → Prop} : ∀ {l : List α} {i : Nat} {x : α}, AllP P l → l[i]? = some x → P x
  | [], _, _, _, h => by simp at h
  | y :: ys, 0, x, h, e => by
    simp at e
    exact e ▸ h.1
  | y :: ys, i + 1, x, h, e => AllP.get h.2 (by simpa using e)
/-- names that stand for plain values -/
def glF : Str × D → Option He.Fa
  | (x, .int i) => some (.int x i)
  | (x, .str s) => some (.str x s)
  | _ => none
def faOf (T : Tb) : List He.Fa := bltNames.map .free ++ (T.fns.map fun f => .glo f.x) ++ T.glob.filterMap glF
theorem lookup_mem {α : Type} : ∀ {l : List (Str × α)} {x : Str} {d : α}, l.lookup x = some d → (x, d) ∈ l
  | [], x, d, h => by cases h
  | (y, e) :: l, x, d, h => by
    rw [List.lookup_cons] at h
    split at h
    · rename_i q
      cases h
      rw [eq_of_beq q]
      exact List.mem_cons_self
    · exact List.mem_cons_of_mem _ (lookup_mem h)
theorem tb_of {h : Heap} {mg : Str → Option Value} {K : PySem.W.Frag} {B : Bg} {T : Tb} {dfs : List Df} (hK : B.K = K) (X : K.In h) (G : h.Ns mainGlobals mg) (c : He.SaysD (faOf T) (dfs.map (·.d)) K)
    (hd : AllP (DfOk T) dfs) (hp : AllP (PlOk T dfs) T.pls) (hf : T.fns = dfs.map (·.fn)) (hg : T.glob.all (fun q => (glF q).isSome) = true) : TbOk mg B T := by
  subst hK
  have fact : ∀ {f : He.Fa}, f ∈ faOf T → f.ok B.K = true := fun {f} hm => by
    obtain ⟨i, hi⟩ := List.getElem?_of_mem hm
    exact c.fact i hi
  refine ⟨fun x hx => ?_, fun x d hx => ?_, fun p pl hpl => ?_⟩
  · exact He.free_ok X G (fact (List.mem_append_left _ (List.mem_append_left _ (List.mem_map_of_mem hx))))
  · have hm := lookup_mem hx
    have hs := List.all_eq_true.mp hg _ hm
    obtain ⟨f, hf⟩ := Option.isSome_iff_exists.mp hs
    have hfm : f ∈ faOf T := List.mem_append_right _ (List.mem_filterMap.mpr ⟨_, hm, hf⟩)
    cases d <;> simp only [glF, Option.some.injEq, reduceCtorEq] at hf
    · subst hf
      obtain ⟨t, e⟩ := He.int_ok X G (fact hfm)
      exact ⟨V.int _, _, e, ⟨t, rfl⟩, fun _ _ => rfl⟩
    · subst hf
      obtain ⟨t, e⟩ := He.str_ok X G (fact hfm)
      exact ⟨V.str _, _, e, ⟨t, rfl⟩, fun _ _ => rfl⟩
  · obtain ⟨f, g1, g2, g3, g4, g5, g6⟩ := (hp.get hpl).ok
    have D0 := hd.get g1
    obtain ⟨fd, FD⟩ := c.def_ pl.f (d := f.d) (by rw [List.getElem?_map, g1]; rfl)
    have hgl : mg f.fn.x = some (.ref (He.fAd B.K f.d.at_)) := by
      have q := He.glo_ok X G (x := f.fn.x) (fact (List.mem_append_left _ (List.mem_append_right _ (List.mem_map.mpr ⟨f.fn, List.mem_of_getElem? g2, rfl⟩))))
      rw [q, D0.at_, D0.x]
      rfl
    obtain ⟨n, hc⟩ := D0.cc
    refine ⟨f.fn, _, fd, f.d.dvs B.K, g2, by rw [D0.x]; exact g3, ⟨hgl, f.d.qual, f.d.params, f.d.body, f.d.scope, _, n, by rw [D0.x]; exact FD, scB_ok D0.sc, hc⟩, ?_, dvsD_ok g4⟩
    unfold Bnd at g6
    unfold He.DefD.dvs at FD ⊢
    split at g6
    · rename_i z
      rw [z] at FD ⊢
      exact pat_of0 FD g5 g6
    · rename_i z
      refine pat_of1 FD (fun y => z (List.map_eq_nil_iff.mp y)) g5 fun T kV doc pm an cdv ct its us ws h1 h2 h3 => g6 T kV doc pm an cdv ct its us ws (by rw [h1, List.length_map]) h2 h3
end Ev
set_option Elab.async false
set_option linter.all false
set_option autoImplicit false
set_option maxRecDepth 100000
/-! Ev, part S: words for the plain side. -/
namespace Ev
open PySem PySem.Spec PyProof.Rows L2
abbrev KT2 := T → List D → Prop
abbrev KX2 := Xn → List D → Prop
def keg (a b g : Int) : D := .lst [.int a, .int b, .int g]
theorem bits_le {i : Int} {n : Nat} (h : i.natAbs < 2 ^ n) : Builtin.Int.intBits i ≤ n := by
  unfold Builtin.Int.intBits
  split
  · omega
  · rename_i h0
    have : i.natAbs.log2 < n := (Nat.log2_lt (by simpa using h0)).mpr h
    omega
theorem mulL {a b : Int} (h : a.natAbs < 2 ^ 64) : IntMulOk a b := IntMulOk.of_left (bits_le h)
theorem mulR {a b : Int} (h : b.natAbs < 2 ^ 64) : IntMulOk a b := IntMulOk.of_right (bits_le h)
theorem cdiv {a j : Int} (h : 0 < j) (h2 : j < 2 ^ 64) : CDivW a j := ⟨h, Nat.lt_of_lt_of_le ((Nat.log2_lt (by omega)).mpr (show j.natAbs < 2 ^ 64 by omega)) (by decide)⟩
theorem ifP {c : Prop} [Decidable c] {A B : Prop} (h : c) (a : A) : if c then A else B := by rw [if_pos h]; exact a
theorem ifN {c : Prop} [Decidable c] {A B : Prop} (h : ¬ c) (a : B) : if c then A else B := by rw [if_neg h]; exact a
theorem ifB {b : Bool} {A B : Prop} (h1 : b = true → A) (h2 : b = false → B) : if b = true then A else B := by
  cases b
  · exact h2 rfl
  · exact h1 rfl
theorem mB {b : Bool} {A B : Prop} (h1 : b = true → A) (h2 : b = false → B) : (match T.v (D.bl b) with
  | .v (.bl true) => A
  | .v (.bl false) => B
  | _ => False) := by
  cases b
  · exact h2 rfl
  · exact h1 rfl
theorem mD {b : Bool} {A B : Prop} (h1 : b = true → A) (h2 : b = false → B) : (match D.bl b with
  | .bl true => A
  | .bl false => B
  | _ => False) := by
  cases b
  · exact h2 rfl
  · exact h1 rfl
theorem kset2 {kk : List D → Prop} {st : List D} {n : Nat} {x y : D} (h : kk (st.set n y)) : kk ((st.set n x).set n y) := by rw [List.set_set]; exact h
theorem kset3 {kk : List D → Prop} {st : List D} {n : Nat} {x y z : D} (h : kk (st.set n z)) : kk (((st.set n x).set n y).set n z) := by rw [List.set_set, List.set_set]; exact h
theorem fApp_ok {f : List Int} {s : Int} (h : f.length < sizeLine) : fApp (f.map D.int) (.int s) = some ((f ++ [s]).map D.int) := by
  unfold fApp
  rw [List.length_map, if_pos h, List.map_append]
  rfl
theorem fApp_d {xs : List D} {d : D} (h : xs.length < sizeLine) : fApp xs d = some (xs ++ [d]) := by
  unfold fApp
  rw [if_pos h]
theorem deqI {a b : Int} : deq (.int a) (.int b) = decide (a = b) := by
  unfold deq
  by_cases h : a = b <;> simp [h]
theorem eqT {a b : Int} (h : deq (.int a) (.int b) = true) : a = b := by rw [deqI] at h; exact of_decide_eq_true h
theorem eqF {a b : Int} (h : deq (.int a) (.int b) = false) : ¬ a = b := by rw [deqI] at h; exact of_decide_eq_false h
theorem deqS {a b : Str} : deq (.str a) (.str b) = decide (a = b) := by
  unfold deq
  by_cases h : a = b <;> simp [h]
theorem anyI (p : Int) : ∀ l : List Int, ((l.map D.int).any fun y => deq y (.int p)) = decide (p ∈ l)
  | [] => rfl
  | a :: l => by
    rw [List.map_cons, List.any_cons, anyI p l, deqI]
    by_cases h1 : a = p
    · subst h1; simp
    · have h2 : ¬ p = a := fun z => h1 z.symm
      by_cases h3 : p ∈ l <;> simp [h1, h2, h3]
theorem flatI : ∀ l : List Int, (l.map D.int).all flatD = true
  | [] => rfl
  | a :: l => by rw [List.map_cons, List.all_cons, flatI l]; rfl
theorem deqLI : ∀ {l m : List Int}, deqL (l.map D.int) (m.map D.int) = decide (l = m)
  | [], [] => by rw [deqL.eq_def]; rfl
  | [], b :: m => by rw [deqL.eq_def]; simp
  | a :: l, [] => by rw [deqL.eq_def]; simp
  | a :: l, b :: m => by
    rw [List.map_cons, List.map_cons, deqL.eq_def]
    simp only []
    rw [deqLI, deqI]
    by_cases h1 : a = b <;> by_cases h2 : l = m <;> simp [h1, h2]
theorem deqLB : ∀ {l m : List Bool}, deqL (l.map D.bl) (m.map D.bl) = decide (l = m)
  | [], [] => by rw [deqL.eq_def]; rfl
  | [], b :: m => by rw [deqL.eq_def]; simp
  | a :: l, [] => by rw [deqL.eq_def]; simp
  | a :: l, b :: m => by
    rw [List.map_cons, List.map_cons, deqL.eq_def]
    simp only []
    rw [deqLB]
    have : deq (.bl a) (.bl b) = (a == b) := by unfold deq; rfl
    rw [this]
    by_cases h1 : a = b <;> by_cases h2 : l = m <;> simp [h1, h2]
theorem datLI : ∀ l : List Int, datL (l.map D.int) = some (l.map PyData.int)
  | [] => by rw [List.map_nil, datL.eq_def]; rfl
  | a :: l => by
    rw [List.map_cons, datL.eq_def]
    simp only []
    rw [datLI l, dat.eq_def]
    rfl
theorem datLB : ∀ l : List Bool, datL (l.map D.bl) = some (l.map PyData.bool)
  | [] => by rw [List.map_nil, datL.eq_def]; rfl
  | a :: l => by
    rw [List.map_cons, datL.eq_def]
    simp only []
    rw [datLB l, dat.eq_def]
    rfl
theorem atI_ok {α : Type} {xs : List α} {i : Int} (h1 : 0 ≤ i) (h2 : i < xs.length) : ∃ x, x ∈ xs ∧ atI xs i = some x := by
  have hj : i.toNat < xs.length := by omega
  refine ⟨xs[i.toNat], List.getElem_mem hj, ?_⟩
  unfold atI ixN
  rw [if_pos h1, if_pos (by omega)]
  simp [hj]
/-! ### loops -/
theorem for_inv {g : DTG} {t : DTS} {P : Post} (I : List D → En → List D → Prop) (step : ∀ d ds en st (N : En → List D → Prop), I (d :: ds) en st → (∀ en' st', I ds en' st' → N en' st') → g d en st (fun en1 st1 => t en1 st1 { P with nx := N, ct := N, bk := P.nx }) P.ex)
    (fin : ∀ en st, I [] en st → P.nx en st) : ∀ (ds : List D) (en : En) (st : List D), I ds en st → forL g t ds en st P
  | [], en, st, h => fin en st h
  | d :: ds, en, st, h => step d ds en st (fun n s => forL g t ds n s P) h fun en' st' h' => for_inv I step fin ds en' st' h'
theorem lc_inv {ct : CT} {c : DTT} {te : DTE} {vs : List Nat} {k : List D → En → List D → Prop} (I : List D → List D → En → List D → Prop)
    (step : ∀ d ds acc en st (N : List D → En → List D → Prop), I (d :: ds) acc en st → (∀ acc' en' st', I ds acc' en' st' → N acc' en' st') → ∃ en1, aCT ct d (wipeE en vs) = some en1 ∧
      c en1 st (fun b en2 st2 => if b = true then te en2 st2 (fun y en3 st3 => acc.length < sizeLine ∧ N (acc ++ [y.d]) (restE en en3 vs) st3) noX else N acc (restE en en2 vs) st2) noX)
    (fin : ∀ acc en st, I [] acc en st → k acc en st) : ∀ (ds acc : List D) (en : En) (st : List D), I ds acc en st → lcL ct c te vs ds acc en st k
  | [], acc, en, st, h => fin acc en st h
  | d :: ds, acc, en, st, h => step d ds acc en st (fun a n s => lcL ct c te vs ds a n s k) h fun a n s h' => lc_inv I step fin ds a n s h'
/-- a comprehension without side effects -/
theorem lc_pure {ct : CT} {c : DTT} {te : DTE} {vs : List Nat} {en : En} {st : List D} {k : List D → En → List D → Prop} (p : D → Bool) (f : D → T) (ds : List D) (hl : ds.length ≤ sizeLine)
    (step : ∀ d ∈ ds, ∃ en1, aCT ct d (wipeE en vs) = some en1 ∧ restE en en1 vs = en ∧ (∀ K : KB, K (p d) en1 st → c en1 st K noX) ∧ (p d = true → ∀ K : KT, K (f d) en1 st → te en1 st K noX))
    (h : k ((ds.filter p).map fun d => (f d).d) en st) : lcL ct c te vs ds [] en st k := by
  have main : ∀ (ds acc : List D), acc.length + ds.length ≤ sizeLine → (∀ d ∈ ds, ∃ en1, aCT ct d (wipeE en vs) = some en1 ∧ restE en en1 vs = en ∧ (∀ K : KB, K (p d) en1 st → c en1 st K noX) ∧ (p d = true → ∀ K : KT, K (f d) en1 st → te en1 st K noX)) →
      k (acc ++ (ds.filter p).map fun d => (f d).d) en st → lcL ct c te vs ds acc en st k := by
    intro ds
    induction ds with
    | nil =>
      intro acc _ _ h
      rw [List.filter_nil, List.map_nil, List.append_nil] at h
      exact h
    | cons d ds ih =>
      intro acc hl hs h
      obtain ⟨en1, e1, e2, e3, e4⟩ := hs d List.mem_cons_self
      refine ⟨en1, e1, e3 _ ?_⟩
      have hl' : acc.length + (ds.length + 1) ≤ sizeLine := hl
      cases hp : p d with
      | true =>
        rw [List.filter_cons_of_pos hp] at h
        refine ifP rfl (e4 hp _ ⟨by omega, ?_⟩)
        rw [e2]
        refine ih _ (by rw [List.length_append]; show acc.length + 1 + ds.length ≤ _; omega) (fun x hx => hs x (List.mem_cons_of_mem _ hx)) ?_
        simpa using h
      | false =>
        rw [List.filter_cons_of_neg (by rw [hp]; simp)] at h
        refine ifN (by simp) ?_
        rw [e2]
        exact ih _ (by omega) (fun x hx => hs x (List.mem_cons_of_mem _ hx)) h
  exact main ds [] (by simpa using hl) step h
/-! ### rising lists -/
theorem sorted_uniq : ∀ {a b : List Int}, a.Pairwise (· < ·) → b.Pairwise (· < ·) → (∀ i, i ∈ a ↔ i ∈ b) → a = b
  | [], [], _, _, _ => rfl
  | [], y :: b, _, _, h => by simpa using h y
  | x :: a, [], _, _, h => by simpa using h x
  | x :: a, y :: b, h1, h2, h => by
    have a1 := List.pairwise_cons.mp h1
    have b1 := List.pairwise_cons.mp h2
    have e : x = y := by
      have hx := (h x).mp List.mem_cons_self
      have hy := (h y).mpr List.mem_cons_self
      rcases List.mem_cons.mp hx with z | z
      · exact z
      · rcases List.mem_cons.mp hy with w | w
        · exact w.symm
        · have := b1.1 x z
          have := a1.1 y w
          omega
    subst e
    congr 1
    refine sorted_uniq a1.2 b1.2 fun i => ?_
    have hi := h i
    constructor
    · intro z
      have := a1.1 i z
      rcases List.mem_cons.mp (hi.mp (List.mem_cons_of_mem _ z)) with w | w
      · omega
      · exact w
    · intro z
      have := b1.1 i z
      rcases List.mem_cons.mp (hi.mpr (List.mem_cons_of_mem _ z)) with w | w
      · omega
      · exact w
end Ev
set_option Elab.async false
set_option linter.all false
set_option autoImplicit false
set_option maxRecDepth 100000
set_option maxHeartbeats 0
/-! the table of k26 -/
namespace Pk26
open PySem PySem.Spec PyProof.Rows L2 Ev
def top (i : Nat) : Stmt := PySem.Challenge.pw_purepowers_k26_whole_kinds_by_themselves.main.body.getD i (.Pass ⟨0, 0, 0, 0⟩)
def gl : List (Str × D) := [("MOST_SIZE", (.int 1000000000000000000000000000000)), ("MOST_LOOKED", (.int 1000)), ("MOST_PRIME", (.int 997)), ("ALL", (.str "all"))]
def pts : List Pat := [⟨"is_integer", 1, [], [false]⟩, ⟨"is_between", 3, [], [false, false, false]⟩, ⟨"prime_divisors", 1, [], [false]⟩, ⟨"primes_for", 2, [], [false, false]⟩, ⟨"is_prime", 1, [], [false]⟩, ⟨"are_primes", 2, [], [false, false]⟩, ⟨"check_degree", 2, [], [false, false]⟩, ⟨"does_split_by", 2, [], [false, false]⟩, ⟨"is_kind", 1, [], [false]⟩, ⟨"splits_by", 2, [], [false, false]⟩, ⟨"_law_tap", 2, [], [false, false]⟩, ⟨"_law_of", 2, [], [false, false]⟩, ⟨"_law_primes", 1, [], [false]⟩, ⟨"_law_some_kind", 1, [], [false]⟩, ⟨"_law_splits", 2, [], [false, false]⟩, ⟨"splits_by", 0, ["n", "kind"], []⟩, ⟨"_law_by_hand", 0, [], []⟩, ⟨"_law_right", 1, [], [true]⟩, ⟨"_law_open", 2, [], [false, false]⟩, ⟨"law", 1, [], [false]⟩]
def N0 : List Str := ["value"]
def d0 : He.DefD := ⟨("is_integer", none), "is_integer", "is_integer", defArgs (top 5), defBody (top 5), defScope (top 5), [], []⟩
def N1 : List Str := ["value", "low", "high"]
def d1 : He.DefD := ⟨("is_between", none), "is_between", "is_between", defArgs (top 6), defBody (top 6), defScope (top 6), [], []⟩
def N2 : List Str := ["value", "most", "least"]
def d2 : He.DefD := ⟨("check_degree", none), "check_degree", "check_degree", defArgs (top 12), defBody (top 12), defScope (top 12), [(.int 1000000000000000000000000000000), (.int 1)], []⟩
def N3 : List Str := ["value", "found", "left", "step"]
def d3 : He.DefD := ⟨("prime_divisors", none), "prime_divisors", "prime_divisors", defArgs (top 7), defBody (top 7), defScope (top 7), [], []⟩
def N4 : List Str := ["sign", "n", "prime"]
def d4 : He.DefD := ⟨("primes_for", none), "primes_for", "primes_for", defArgs (top 15), defBody (top 15), defScope (top 15), [], []⟩
def N5 : List Str := ["kind", "n", "found", "prime"]
def d5 : He.DefD := ⟨("does_split_by", none), "does_split_by", "does_split_by", defArgs (top 19), defBody (top 19), defScope (top 19), [], []⟩
def N6 : List Str := ["value"]
def d6 : He.DefD := ⟨("is_prime", none), "is_prime", "is_prime", defArgs (top 16), defBody (top 16), defScope (top 16), [], []⟩
def N7 : List Str := ["value", "sign", "one", "other", "prime"]
def d7 : He.DefD := ⟨("are_primes", none), "are_primes", "are_primes", defArgs (top 17), defBody (top 17), defScope (top 17), [], []⟩
def N8 : List Str := ["value", "sign", "primes", "is_four"]
def d8 : He.DefD := ⟨("is_kind", none), "is_kind", "is_kind", defArgs (top 18), defBody (top 18), defScope (top 18), [], []⟩
def N9 : List Str := ["kind", "n"]
def d9 : He.DefD := ⟨("splits_by", none), "splits_by", "splits_by", defArgs (top 20), defBody (top 20), defScope (top 20), [], []⟩
def N10 : List Str := ["_law_some", "_law_each"]
def d10 : He.DefD := ⟨("_law_by_hand", none), "_law_by_hand", "_law_by_hand", defArgs (top 29), defBody (top 29), defScope (top 29), [], []⟩
def N11 : List Str := ["_law_keg", "_law_count_now", "_law_digit", "_law_deep"]
def d11 : He.DefD := ⟨("_law_tap", none), "_law_tap", "_law_tap", defArgs (top 23), defBody (top 23), defScope (top 23), [], []⟩
def N12 : List Str := ["_law_keg", "_law_some"]
def d12 : He.DefD := ⟨("_law_of", none), "_law_of", "_law_of", defArgs (top 24), defBody (top 24), defScope (top 24), [], []⟩
def N13 : List Str := ["_law_keg", "_law_sign", "_law_pool", "_law_primes_now", "_law_prime"]
def d13 : He.DefD := ⟨("_law_some_kind", none), "_law_some_kind", "_law_some_kind", defArgs (top 27), defBody (top 27), defScope (top 27), [], []⟩
def N14 : List Str := ["_law_value_now", "_law_found", "_law_left", "_law_prime"]
def d14 : He.DefD := ⟨("_law_primes", none), "_law_primes", "_law_primes", defArgs (top 25), defBody (top 25), defScope (top 25), [], []⟩
def N15 : List Str := ["_law_kind_now", "_law_nth", "_law_sign", "_law_primes_now", "_law_is_four", "_law_own", "_law_prime"]
def d15 : He.DefD := ⟨("_law_splits", none), "_law_splits", "_law_splits", defArgs (top 26), defBody (top 26), defScope (top 26), [], []⟩
def N16 : List Str := ["_law_keg", "_law_again", "_law_kind_now", "_law_turn", "_law_nth", "_law_due"]
def d16 : He.DefD := ⟨("_law_right", none), "_law_right", "_law_right", defArgs (top 28), defBody (top 28), defScope (top 28), [], []⟩
def N17 : List Str := ["_law_script", "_law_k", "_law_own", "_law_stir", "_law_entry"]
def d17 : He.DefD := ⟨("_law_open", none), "_law_open", "_law_open", defArgs (top 22), defBody (top 22), defScope (top 22), [], []⟩
def N18 : List Str := ["_law_script", "_law_k"]
def d18 : He.DefD := ⟨("law", none), "law", "law", defArgs (top 30), defBody (top 30), defScope (top 30), [], []⟩
/-- is_integer -/
def m0 : MSs := (.cons (.ret (.and (.bi .isinstance (.cons (.var 0) (.cons (.c (.ty .int)) .nil))) (.not (.bi .isinstance (.cons (.var 0) (.cons (.c (.ty .bool)) .nil)))))) .nil)
def f0 : Fn := ⟨"is_integer", N0, ["value"], m0⟩
/-- is_between -/
def m1 : MSs := (.cons (.ret (.and (.call 0 1 0 (.cons (.var 0) .nil) .nil) (.chain .LtE .LtE (.var 1) (.var 0) (.var 2)))) .nil)
def f1 : Fn := ⟨"is_between", N1, ["value", "low", "high"], m1⟩
/-- check_degree -/
def m2 : MSs := (.cons (.ifs (.not (.val (.call 1 3 0 (.cons (.var 0) (.cons (.var 2) (.cons (.var 1) .nil))) .nil))) (.cons .never .nil) .nil) .nil)
def f2 : Fn := ⟨"check_degree", N2, ["value", "most", "least"], m2⟩
/-- prime_divisors -/
def m3 : MSs := (.cons (.par [1, 2, 3] (.cons (.lst .nil) (.cons (.var 0) (.cons (.c (.int 2)) .nil)))) (.cons (.whil (.val (.cmp .LtE (.bin .Mult (.var 3) (.var 3)) (.var 2))) (.cons (.ifs (.val (.cmp .Eq (.bin .Mod (.var 2) (.var 3)) (.c (.int 0)))) (.cons (.app 1 (.var 3)) (.cons (.whil (.val (.cmp .Eq (.bin .Mod (.var 2) (.var 3)) (.c (.int 0)))) (.cons (.set 2 (.bin .FloorDiv (.var 2) (.var 3))) .nil)) .nil)) .nil) (.cons (.inc 3 (.c (.int 1))) .nil))) (.cons (.ret (.bin .Add (.var 1) (.ite (.val (.cmp .Gt (.var 2) (.c (.int 1)))) (.lst (.cons (.var 2) .nil)) (.lst .nil)))) .nil)))
def f3 : Fn := ⟨"prime_divisors", N3, ["value"], m3⟩
/-- primes_for -/
def m4 : MSs := (.cons (.ret (.lc (.any (.call 2 1 0 (.cons (.var 1) .nil) .nil)) (.one 2) (.or (.val (.cmp .Gt (.var 0) (.c (.int 0)))) (.val (.cmp .Gt (.var 2) (.c (.int 2))))) (.var 2) [2])) .nil)
def f4 : Fn := ⟨"primes_for", N4, ["sign", "n"], m4⟩
/-- does_split_by -/
def m5 : MSs := (.cons (.ifs (.and (.val (.ix (.var 0) (.c (.int 2)))) (.val (.cmp .Eq (.bin .Mod (.var 1) (.c (.int 4))) (.c (.int 0))))) (.cons (.ret (.c (.bl true))) .nil) .nil) (.cons (.set 2 (.call 3 2 0 (.cons (.ix (.var 0) (.c (.int 0))) (.cons (.var 1) .nil)) .nil)) (.cons (.ret (.ite (.val (.cmp .Eq (.ix (.var 0) (.c (.int 1))) (.c (.str "all")))) (.cmp .NotEq (.var 2) (.lst .nil)) (.bi .any (.cons (.lc (.any (.var 2)) (.one 3) .yes (.cmp .In (.var 3) (.ix (.var 0) (.c (.int 1)))) [3]) .nil)))) .nil)))
def f5 : Fn := ⟨"does_split_by", N5, ["kind", "n"], m5⟩
/-- is_prime -/
def m6 : MSs := (.cons (.ret (.and (.call 1 3 0 (.cons (.var 0) (.cons (.c (.int 2)) (.cons (.c (.int 997)) .nil))) .nil) (.cmp .Eq (.call 2 1 0 (.cons (.var 0) .nil) .nil) (.lst (.cons (.var 0) .nil))))) .nil)
def f6 : Fn := ⟨"is_prime", N6, ["value"], m6⟩
/-- are_primes -/
def m7 : MSs := (.cons (.ifs (.or (.not (.val (.bi .isinstance (.cons (.var 0) (.cons (.c (.ty .tuple)) .nil))))) (.not (.val (.bi .all (.cons (.lc (.any (.var 0)) (.one 4) .yes (.call 4 1 0 (.cons (.var 4) .nil) .nil) [4]) .nil))))) (.cons (.ret (.c (.bl false))) .nil) .nil) (.cons (.ifs (.and (.val (.cmp .Lt (.var 1) (.c (.int 0)))) (.val (.cmp .In (.c (.int 2)) (.var 0)))) (.cons (.ret (.c (.bl false))) .nil) .nil) (.cons (.ret (.bi .all (.cons (.lc (.zip (.cons (.var 0) (.cons (.sl (.var 0) (.some (.c (.int 1))) .none) .nil))) (.many [2, 3]) .yes (.cmp .Lt (.var 2) (.var 3)) [2, 3]) .nil))) .nil)))
def f7 : Fn := ⟨"are_primes", N7, ["value", "sign"], m7⟩
/-- is_kind -/
def m8 : MSs := (.cons (.ifs (.or (.not (.val (.bi .isinstance (.cons (.var 0) (.cons (.c (.ty .tuple)) .nil))))) (.or (.val (.cmp .NotEq (.bi .len (.cons (.var 0) .nil)) (.c (.int 3)))) (.not (.val (.bi .isinstance (.cons (.ix (.var 0) (.c (.int 2))) (.cons (.c (.ty .bool)) .nil))))))) (.cons (.ret (.c (.bl false))) .nil) .nil) (.cons (.asg (.var 0) (.tup 3 (.cons (.name 1) (.cons (.name 2) (.cons (.name 3) .nil))))) (.cons (.ifs (.or (.not (.val (.call 1 3 0 (.cons (.var 1) (.cons (.neg (.c (.int 1))) (.cons (.c (.int 1)) .nil))) .nil))) (.or (.val (.cmp .Eq (.var 1) (.c (.int 0)))) (.and (.val (.cmp .Gt (.var 1) (.c (.int 0)))) (.val (.var 3))))) (.cons (.ret (.c (.bl false))) .nil) .nil) (.cons (.ifs (.val (.bi .isinstance (.cons (.var 2) (.cons (.c (.ty .str)) .nil)))) (.cons (.ret (.and (.cmp .Eq (.var 2) (.c (.str "all"))) (.not (.var 3)))) .nil) .nil) (.cons (.ret (.call 5 2 0 (.cons (.var 2) (.cons (.var 1) .nil)) .nil)) .nil)))))
def f8 : Fn := ⟨"is_kind", N8, ["value"], m8⟩
/-- splits_by -/
def m9 : MSs := (.cons (.ifs (.not (.val (.call 8 1 0 (.cons (.var 0) .nil) .nil))) (.cons .never .nil) .nil) (.cons (.expr (.call 6 2 0 (.cons (.var 1) (.cons (.c (.int 1000)) .nil)) .nil)) (.cons (.ret (.call 7 2 0 (.cons (.var 0) (.cons (.var 1) .nil)) .nil)) .nil)))
def f9 : Fn := ⟨"splits_by", N9, ["kind", "n"], m9⟩
/-- _law_by_hand -/
def m10 : MSs := (.cons (.set 0 (.lst (.cons (.lst (.cons (.tup (.cons (.c (.int 1)) (.cons (.tup .nil) (.cons (.c (.bl false)) .nil)))) (.cons (.c (.int 1000)) (.cons (.c (.bl false)) .nil)))) (.cons (.lst (.cons (.tup (.cons (.c (.int 1)) (.cons (.c (.str "all")) (.cons (.c (.bl false)) .nil)))) (.cons (.c (.int 1)) (.cons (.c (.bl false)) .nil)))) (.cons (.lst (.cons (.tup (.cons (.c (.int 1)) (.cons (.c (.str "all")) (.cons (.c (.bl false)) .nil)))) (.cons (.c (.int 2)) (.cons (.c (.bl true)) .nil)))) .nil))))) (.cons (.set 0 (.bin .Add (.var 0) (.lst (.cons (.lst (.cons (.tup (.cons (.neg (.c (.int 1))) (.cons (.c (.str "all")) (.cons (.c (.bl false)) .nil)))) (.cons (.c (.int 8)) (.cons (.c (.bl false)) .nil)))) (.cons (.lst (.cons (.tup (.cons (.neg (.c (.int 1))) (.cons (.c (.str "all")) (.cons (.c (.bl false)) .nil)))) (.cons (.c (.int 12)) (.cons (.c (.bl true)) .nil)))) (.cons (.lst (.cons (.tup (.cons (.neg (.c (.int 1))) (.cons (.tup .nil) (.cons (.c (.bl true)) .nil)))) (.cons (.c (.int 8)) (.cons (.c (.bl true)) .nil)))) .nil)))))) (.cons (.set 0 (.bin .Add (.var 0) (.lst (.cons (.lst (.cons (.tup (.cons (.neg (.c (.int 1))) (.cons (.tup .nil) (.cons (.c (.bl true)) .nil)))) (.cons (.c (.int 6)) (.cons (.c (.bl false)) .nil)))) (.cons (.lst (.cons (.tup (.cons (.neg (.c (.int 1))) (.cons (.tup (.cons (.c (.int 3)) .nil)) (.cons (.c (.bl true)) .nil)))) (.cons (.c (.int 6)) (.cons (.c (.bl true)) .nil)))) (.cons (.lst (.cons (.tup (.cons (.neg (.c (.int 1))) (.cons (.tup (.cons (.c (.int 3)) .nil)) (.cons (.c (.bl false)) .nil)))) (.cons (.c (.int 4)) (.cons (.c (.bl false)) .nil)))) .nil)))))) (.cons (.set 0 (.bin .Add (.var 0) (.lst (.cons (.lst (.cons (.tup (.cons (.c (.int 1)) (.cons (.tup (.cons (.c (.int 2)) (.cons (.c (.int 997)) .nil))) (.cons (.c (.bl false)) .nil)))) (.cons (.c (.int 997)) (.cons (.c (.bl true)) .nil)))) (.cons (.lst (.cons (.tup (.cons (.c (.int 1)) (.cons (.tup (.cons (.c (.int 2)) (.cons (.c (.int 997)) .nil))) (.cons (.c (.bl false)) .nil)))) (.cons (.c (.int 999)) (.cons (.c (.bl false)) .nil)))) .nil))))) (.cons (.app 0 (.lst (.cons (.tup (.cons (.c (.int 1)) (.cons (.tup (.cons (.c (.int 5)) (.cons (.c (.int 7)) .nil))) (.cons (.c (.bl false)) .nil)))) (.cons (.c (.int 48)) (.cons (.c (.bl false)) .nil))))) (.cons (.ret (.cmp .Eq (.lc (.any (.var 0)) (.one 1) .yes (.call 9 2 0 (.cons (.ix (.var 1) (.c (.int 0))) (.cons (.ix (.var 1) (.c (.int 1))) .nil)) .nil) [1]) (.lc (.any (.var 0)) (.one 1) .yes (.ix (.var 1) (.c (.int 2))) [1]))) .nil))))))
def f10 : Fn := ⟨"_law_by_hand", N10, [], m10⟩
/-- _law_tap -/
def m11 : MSs := (.cons (.asg (.bin .Add (.ix (.var 0) (.c (.int 2))) (.c (.int 1))) (.sub 0 (.c (.int 2)))) (.cons (.asg (.bin .Mod (.bi .int (.cons (.bin .Add (.bin .Add (.bin .Mult (.ix (.var 0) (.c (.int 1))) (.c (.int 47513))) (.bin .Mult (.c (.int 16007)) (.ix (.var 0) (.c (.int 2))))) (.c (.int 17))) .nil)) (.c (.int 2147483249))) (.sub 0 (.c (.int 1)))) (.cons (.ifs (.val (.cmp .Gt (.ix (.var 0) (.c (.int 0))) (.c (.int 0)))) (.cons (.asg (.bi .divmod (.cons (.bi .int (.cons (.ix (.var 0) (.c (.int 0))) .nil)) (.cons (.var 1) .nil))) (.tup 2 (.cons (.sub 0 (.c (.int 0))) (.cons (.name 2) .nil)))) (.cons (.retv 2) .nil)) .nil) (.cons (.set 3 (.bin .Mod (.bi .int (.cons (.bin .Add (.bin .Mult (.ix (.var 0) (.c (.int 1))) (.bin .Add (.ix (.var 0) (.c (.int 1))) (.bin .Mult (.c (.int 9)) (.ix (.var 0) (.c (.int 2)))))) (.c (.int 9001))) .nil)) (.c (.int 2147483179)))) (.cons (.ret (.bin .Mod (.bi .int (.cons (.bin .FloorDiv (.var 3) (.c (.int 1024))) .nil)) (.var 1))) .nil)))))
def f11 : Fn := ⟨"_law_tap", N11, ["_law_keg", "_law_count_now"], m11⟩
/-- _law_of -/
def m12 : MSs := (.cons (.ret (.ix (.var 1) (.call 10 2 0 (.cons (.var 0) (.cons (.bi .len (.cons (.var 1) .nil)) .nil)) .nil))) .nil)
def f12 : Fn := ⟨"_law_of", N12, ["_law_keg", "_law_some"], m12⟩
/-- _law_some_kind -/
def m13 : MSs := (.cons (.set 1 (.call 11 2 0 (.cons (.var 0) (.cons (.lst (.cons (.c (.int 1)) (.cons (.neg (.c (.int 1))) .nil))) .nil)) .nil)) (.cons (.ifs (.val (.cmp .Eq (.call 10 2 0 (.cons (.var 0) (.cons (.c (.int 6)) .nil)) .nil) (.c (.int 0)))) (.cons (.ret (.tup (.cons (.var 1) (.cons (.c (.str "all")) (.cons (.c (.bl false)) .nil))))) .nil) .nil) (.cons (.set 2 (.ite (.val (.cmp .Gt (.var 1) (.c (.int 0)))) (.lst (.cons (.c (.int 2)) (.cons (.c (.int 3)) (.cons (.c (.int 5)) (.cons (.c (.int 7)) (.cons (.c (.int 11)) (.cons (.c (.int 997)) .nil))))))) (.lst (.cons (.c (.int 3)) (.cons (.c (.int 5)) (.cons (.c (.int 7)) (.cons (.c (.int 11)) (.cons (.c (.int 997)) .nil)))))))) (.cons (.set 3 (.bi .tuple (.cons (.lc (.any (.var 2)) (.one 4) (.val (.cmp .Eq (.call 10 2 0 (.cons (.var 0) (.cons (.c (.int 3)) .nil)) .nil) (.c (.int 0)))) (.var 4) [4]) .nil))) (.cons (.ret (.tup (.cons (.var 1) (.cons (.var 3) (.cons (.and (.cmp .Lt (.var 1) (.c (.int 0))) (.cmp .Eq (.call 10 2 0 (.cons (.var 0) (.cons (.c (.int 2)) .nil)) .nil) (.c (.int 0)))) .nil))))) .nil)))))
def f13 : Fn := ⟨"_law_some_kind", N13, ["_law_keg"], m13⟩
/-- _law_primes -/
def m14 : MSs := (.cons (.par [1, 2, 3] (.cons (.lst .nil) (.cons (.var 0) (.cons (.c (.int 2)) .nil)))) (.cons (.whil (.val (.cmp .LtE (.bin .Mult (.var 3) (.var 3)) (.var 2))) (.cons (.ifs (.val (.cmp .Eq (.bin .Mod (.var 2) (.var 3)) (.c (.int 0)))) (.cons (.app 1 (.var 3)) (.cons (.set 2 (.bin .FloorDiv (.var 2) (.var 3))) .nil)) (.cons (.set 3 (.bin .Add (.var 3) (.c (.int 1)))) .nil)) .nil)) (.cons (.ret (.sset (.bin .Add (.var 1) (.ite (.val (.cmp .Gt (.var 2) (.c (.int 1)))) (.lst (.cons (.var 2) .nil)) (.lst .nil))))) .nil)))
def f14 : Fn := ⟨"_law_primes", N14, ["_law_value_now"], m14⟩
/-- _law_splits -/
def m15 : MSs := (.cons (.asg (.var 0) (.tup 3 (.cons (.name 2) (.cons (.name 3) (.cons (.name 4) .nil))))) (.cons (.set 5 (.lc (.any (.call 12 1 0 (.cons (.var 1) .nil) .nil)) (.one 6) (.or (.val (.cmp .Gt (.var 2) (.c (.int 0)))) (.val (.cmp .Gt (.var 6) (.c (.int 2))))) (.var 6) [6])) (.cons (.ifs (.and (.val (.var 4)) (.val (.cmp .Eq (.bin .Mod (.var 1) (.c (.int 4))) (.c (.int 0))))) (.cons (.ret (.c (.bl true))) .nil) .nil) (.cons (.ret (.ite (.val (.cmp .Eq (.var 3) (.c (.str "all")))) (.cmp .NotEq (.var 5) (.lst .nil)) (.bi .any (.cons (.lc (.any (.var 5)) (.one 6) .yes (.cmp .In (.var 6) (.var 3)) [6]) .nil)))) .nil))))
def f15 : Fn := ⟨"_law_splits", N15, ["_law_kind_now", "_law_nth"], m15⟩
/-- _law_right -/
def m16 : MSs := (.cons (.forr (.range1 (.cons (.c (.int 4)) .nil)) (.name 1) (.cons (.set 2 (.call 13 1 0 (.cons (.var 0) .nil) .nil)) (.cons (.forr (.range1 (.cons (.c (.int 12)) .nil)) (.name 3) (.cons (.set 4 (.call 11 2 0 (.cons (.var 0) (.cons (.lst (.cons (.c (.int 1)) (.cons (.c (.int 2)) (.cons (.c (.int 4)) (.cons (.c (.int 8)) (.cons (.c (.int 3)) (.cons (.c (.int 6)) (.cons (.c (.int 12)) (.cons (.c (.int 997)) (.cons (.c (.int 994)) (.cons (.c (.int 1000)) (.cons (.bin .Add (.c (.int 1)) (.call 10 2 0 (.cons (.var 0) (.cons (.c (.int 1000)) .nil)) .nil)) (.cons (.bin .Add (.c (.int 1)) (.call 10 2 0 (.cons (.var 0) (.cons (.c (.int 40)) .nil)) .nil)) .nil))))))))))))) .nil)) .nil)) (.cons (.set 5 (.call 14 2 0 (.cons (.var 2) (.cons (.var 4) .nil)) .nil)) (.cons (.ifs (.val (.cmp .NotEq (.bi .repr (.cons (.lst (.cons (.call 9 2 0 (.cons (.var 2) (.cons (.var 4) .nil)) .nil) (.cons (.call 15 0 2 .nil (.cons (.var 4) (.cons (.var 2) .nil))) .nil))) .nil)) (.bi .repr (.cons (.lst (.cons (.var 5) (.cons (.var 5) .nil))) .nil)))) (.cons (.ret (.c (.bl false))) .nil) .nil) .nil)))) .nil))) (.cons (.ret (.c (.bl true))) .nil))
def f16 : Fn := ⟨"_law_right", N16, ["_law_keg"], m16⟩
/-- _law_open -/
def m17 : MSs := (.cons (.set 2 (.ite (.val (.cmp .Lt (.var 1) (.bi .len (.cons (.var 0) .nil)))) (.bi .int (.cons (.ix (.var 0) (.var 1)) .nil)) (.bin .Add (.bin .Mult (.c (.int 823)) (.var 1)) (.c (.int 71))))) (.cons (.set 3 (.bin .Add (.c (.int 43013)) (.bin .Mult (.c (.int 263)) (.var 1)))) (.cons (.forr (.any (.sl (.var 0) .none (.some (.c (.int 14))))) (.name 4) (.cons (.set 3 (.bin .Mod (.bi .int (.cons (.bin .Add (.bin .Mult (.var 3) (.c (.int 60013))) (.bi .int (.cons (.var 4) .nil))) .nil)) (.c (.int 2147483323)))) .nil)) (.cons (.ret (.lst (.cons (.ite (.or (.val (.cmp .Lt (.var 2) (.c (.int 0)))) (.val (.cmp .GtE (.var 2) (.bin .Pow (.c (.int 10)) (.c (.int 17)))))) (.bi .abs (.cons (.var 2) .nil)) (.c (.int 0))) (.cons (.bin .Mod (.bi .int (.cons (.bin .Add (.bin .Mult (.var 3) (.c (.int 44207))) (.var 2)) .nil)) (.c (.int 2147483323))) (.cons (.c (.int 9)) .nil))))) .nil))))
def f17 : Fn := ⟨"_law_open", N17, ["_law_script", "_law_k"], m17⟩
/-- law -/
def m18 : MSs := (.cons (.ifs (.not (.val (.call 16 0 0 .nil .nil))) (.cons (.ret (.c (.bl false))) .nil) .nil) (.cons (.ret (.bi .all (.cons (.lc (.range1 (.cons (.bi .max (.cons (.c (.int 2)) (.cons (.bi .min (.cons (.bi .len (.cons (.var 0) .nil)) (.cons (.c (.int 5)) .nil))) .nil))) .nil)) (.one 1) .yes (.call 17 1 0 (.cons (.box (.call 18 2 0 (.cons (.var 0) (.cons (.var 1) .nil)) .nil)) .nil) .nil) [1]) .nil))) .nil))
def f18 : Fn := ⟨"law", N18, ["_law_script"], m18⟩
def p0 : Pl := ⟨0, ⟨"is_integer", 1, [], [false]⟩, [], [.arg 0]⟩
def p1 : Pl := ⟨1, ⟨"is_between", 3, [], [false, false, false]⟩, [], [.arg 0, .arg 1, .arg 2]⟩
def p2 : Pl := ⟨3, ⟨"prime_divisors", 1, [], [false]⟩, [], [.arg 0]⟩
def p3 : Pl := ⟨4, ⟨"primes_for", 2, [], [false, false]⟩, [], [.arg 0, .arg 1]⟩
def p4 : Pl := ⟨6, ⟨"is_prime", 1, [], [false]⟩, [], [.arg 0]⟩
def p5 : Pl := ⟨7, ⟨"are_primes", 2, [], [false, false]⟩, [], [.arg 0, .arg 1]⟩
def p6 : Pl := ⟨2, ⟨"check_degree", 2, [], [false, false]⟩, [(.int 1000000000000000000000000000000), (.int 1)], [.arg 0, .arg 1, .dfl 1]⟩
def p7 : Pl := ⟨5, ⟨"does_split_by", 2, [], [false, false]⟩, [], [.arg 0, .arg 1]⟩
def p8 : Pl := ⟨8, ⟨"is_kind", 1, [], [false]⟩, [], [.arg 0]⟩
def p9 : Pl := ⟨9, ⟨"splits_by", 2, [], [false, false]⟩, [], [.arg 0, .arg 1]⟩
def p10 : Pl := ⟨11, ⟨"_law_tap", 2, [], [false, false]⟩, [], [.arg 0, .arg 1]⟩
def p11 : Pl := ⟨12, ⟨"_law_of", 2, [], [false, false]⟩, [], [.arg 0, .arg 1]⟩
def p12 : Pl := ⟨14, ⟨"_law_primes", 1, [], [false]⟩, [], [.arg 0]⟩
def p13 : Pl := ⟨13, ⟨"_law_some_kind", 1, [], [false]⟩, [], [.arg 0]⟩
def p14 : Pl := ⟨15, ⟨"_law_splits", 2, [], [false, false]⟩, [], [.arg 0, .arg 1]⟩
def p15 : Pl := ⟨9, ⟨"splits_by", 0, ["n", "kind"], []⟩, [], [.arg 1, .arg 0]⟩
def p16 : Pl := ⟨10, ⟨"_law_by_hand", 0, [], []⟩, [], []⟩
def p17 : Pl := ⟨16, ⟨"_law_right", 1, [], [true]⟩, [], [.arg 0]⟩
def p18 : Pl := ⟨17, ⟨"_law_open", 2, [], [false, false]⟩, [], [.arg 0, .arg 1]⟩
def p19 : Pl := ⟨18, ⟨"law", 1, [], [false]⟩, [], [.arg 0]⟩
def tb : Tb := ⟨[f0, f1, f2, f3, f4, f5, f6, f7, f8, f9, f10, f11, f12, f13, f14, f15, f16, f17, f18], [p0, p1, p2, p3, p4, p5, p6, p7, p8, p9, p10, p11, p12, p13, p14, p15, p16, p17, p18, p19], gl⟩
def dfs : List Df := [⟨d0, f0⟩, ⟨d1, f1⟩, ⟨d2, f2⟩, ⟨d3, f3⟩, ⟨d4, f4⟩, ⟨d5, f5⟩, ⟨d6, f6⟩, ⟨d7, f7⟩, ⟨d8, f8⟩, ⟨d9, f9⟩, ⟨d10, f10⟩, ⟨d11, f11⟩, ⟨d12, f12⟩, ⟨d13, f13⟩, ⟨d14, f14⟩, ⟨d15, f15⟩, ⟨d16, f16⟩, ⟨d17, f17⟩, ⟨d18, f18⟩]
theorem ok0 : DfOk tb ⟨d0, f0⟩ := ⟨by kernel_rfl, by kernel_rfl, by kernel_rfl, 60, by kernel_rfl⟩
theorem ok1 : DfOk tb ⟨d1, f1⟩ := ⟨by kernel_rfl, by kernel_rfl, by kernel_rfl, 60, by kernel_rfl⟩
theorem ok2 : DfOk tb ⟨d2, f2⟩ := ⟨by kernel_rfl, by kernel_rfl, by kernel_rfl, 60, by kernel_rfl⟩
theorem ok3 : DfOk tb ⟨d3, f3⟩ := ⟨by kernel_rfl, by kernel_rfl, by kernel_rfl, 60, by kernel_rfl⟩
theorem ok4 : DfOk tb ⟨d4, f4⟩ := ⟨by kernel_rfl, by kernel_rfl, by kernel_rfl, 60, by kernel_rfl⟩
theorem ok5 : DfOk tb ⟨d5, f5⟩ := ⟨by kernel_rfl, by kernel_rfl, by kernel_rfl, 60, by kernel_rfl⟩
theorem ok6 : DfOk tb ⟨d6, f6⟩ := ⟨by kernel_rfl, by kernel_rfl, by kernel_rfl, 60, by kernel_rfl⟩
theorem ok7 : DfOk tb ⟨d7, f7⟩ := ⟨by kernel_rfl, by kernel_rfl, by kernel_rfl, 60, by kernel_rfl⟩
theorem ok8 : DfOk tb ⟨d8, f8⟩ := ⟨by kernel_rfl, by kernel_rfl, by kernel_rfl, 60, by kernel_rfl⟩
theorem ok9 : DfOk tb ⟨d9, f9⟩ := ⟨by kernel_rfl, by kernel_rfl, by kernel_rfl, 60, by kernel_rfl⟩
theorem ok10 : DfOk tb ⟨d10, f10⟩ := ⟨by kernel_rfl, by kernel_rfl, by kernel_rfl, 60, by kernel_rfl⟩
theorem ok11 : DfOk tb ⟨d11, f11⟩ := ⟨by kernel_rfl, by kernel_rfl, by kernel_rfl, 60, by kernel_rfl⟩
theorem ok12 : DfOk tb ⟨d12, f12⟩ := ⟨by kernel_rfl, by kernel_rfl, by kernel_rfl, 60, by kernel_rfl⟩
theorem ok13 : DfOk tb ⟨d13, f13⟩ := ⟨by kernel_rfl, by kernel_rfl, by kernel_rfl, 60, by kernel_rfl⟩
theorem ok14 : DfOk tb ⟨d14, f14⟩ := ⟨by kernel_rfl, by kernel_rfl, by kernel_rfl, 60, by kernel_rfl⟩
theorem ok15 : DfOk tb ⟨d15, f15⟩ := ⟨by kernel_rfl, by kernel_rfl, by kernel_rfl, 60, by kernel_rfl⟩
theorem ok16 : DfOk tb ⟨d16, f16⟩ := ⟨by kernel_rfl, by kernel_rfl, by kernel_rfl, 60, by kernel_rfl⟩
theorem ok17 : DfOk tb ⟨d17, f17⟩ := ⟨by kernel_rfl, by kernel_rfl, by kernel_rfl, 60, by kernel_rfl⟩
theorem ok18 : DfOk tb ⟨d18, f18⟩ := ⟨by kernel_rfl, by kernel_rfl, by kernel_rfl, 60, by kernel_rfl⟩
theorem po0 : PlOk tb dfs p0 := ⟨⟨d0, f0⟩, rfl, rfl, rfl, rfl, rfl, fun kV doc pm an cdv ct us ws h1 h2 => match us, ws, h1, h2 with
  | [u0], [], _, _ => ⟨_, rfl, rfl⟩⟩
theorem po1 : PlOk tb dfs p1 := ⟨⟨d1, f1⟩, rfl, rfl, rfl, rfl, rfl, fun kV doc pm an cdv ct us ws h1 h2 => match us, ws, h1, h2 with
  | [u0, u1, u2], [], _, _ => ⟨_, rfl, rfl⟩⟩
theorem po2 : PlOk tb dfs p2 := ⟨⟨d3, f3⟩, rfl, rfl, rfl, rfl, rfl, fun kV doc pm an cdv ct us ws h1 h2 => match us, ws, h1, h2 with
  | [u0], [], _, _ => ⟨_, rfl, rfl⟩⟩
theorem po3 : PlOk tb dfs p3 := ⟨⟨d4, f4⟩, rfl, rfl, rfl, rfl, rfl, fun kV doc pm an cdv ct us ws h1 h2 => match us, ws, h1, h2 with
  | [u0, u1], [], _, _ => ⟨_, rfl, rfl⟩⟩
theorem po4 : PlOk tb dfs p4 := ⟨⟨d6, f6⟩, rfl, rfl, rfl, rfl, rfl, fun kV doc pm an cdv ct us ws h1 h2 => match us, ws, h1, h2 with
  | [u0], [], _, _ => ⟨_, rfl, rfl⟩⟩
theorem po5 : PlOk tb dfs p5 := ⟨⟨d7, f7⟩, rfl, rfl, rfl, rfl, rfl, fun kV doc pm an cdv ct us ws h1 h2 => match us, ws, h1, h2 with
  | [u0, u1], [], _, _ => ⟨_, rfl, rfl⟩⟩
theorem po6 : PlOk tb dfs p6 := ⟨⟨d2, f2⟩, rfl, rfl, rfl, rfl, rfl, fun Ta kV doc pm an cdv ct its us ws h0 h1 h2 => match its, us, ws, h0, h1, h2 with
  | [i0, i1], [u0, u1], [], _, _, _ => ⟨_, _, rfl, rfl, rfl⟩⟩
theorem po7 : PlOk tb dfs p7 := ⟨⟨d5, f5⟩, rfl, rfl, rfl, rfl, rfl, fun kV doc pm an cdv ct us ws h1 h2 => match us, ws, h1, h2 with
  | [u0, u1], [], _, _ => ⟨_, rfl, rfl⟩⟩
theorem po8 : PlOk tb dfs p8 := ⟨⟨d8, f8⟩, rfl, rfl, rfl, rfl, rfl, fun kV doc pm an cdv ct us ws h1 h2 => match us, ws, h1, h2 with
  | [u0], [], _, _ => ⟨_, rfl, rfl⟩⟩
theorem po9 : PlOk tb dfs p9 := ⟨⟨d9, f9⟩, rfl, rfl, rfl, rfl, rfl, fun kV doc pm an cdv ct us ws h1 h2 => match us, ws, h1, h2 with
  | [u0, u1], [], _, _ => ⟨_, rfl, rfl⟩⟩
theorem po10 : PlOk tb dfs p10 := ⟨⟨d11, f11⟩, rfl, rfl, rfl, rfl, rfl, fun kV doc pm an cdv ct us ws h1 h2 => match us, ws, h1, h2 with
  | [u0, u1], [], _, _ => ⟨_, rfl, rfl⟩⟩
theorem po11 : PlOk tb dfs p11 := ⟨⟨d12, f12⟩, rfl, rfl, rfl, rfl, rfl, fun kV doc pm an cdv ct us ws h1 h2 => match us, ws, h1, h2 with
  | [u0, u1], [], _, _ => ⟨_, rfl, rfl⟩⟩
theorem po12 : PlOk tb dfs p12 := ⟨⟨d14, f14⟩, rfl, rfl, rfl, rfl, rfl, fun kV doc pm an cdv ct us ws h1 h2 => match us, ws, h1, h2 with
  | [u0], [], _, _ => ⟨_, rfl, rfl⟩⟩
theorem po13 : PlOk tb dfs p13 := ⟨⟨d13, f13⟩, rfl, rfl, rfl, rfl, rfl, fun kV doc pm an cdv ct us ws h1 h2 => match us, ws, h1, h2 with
  | [u0], [], _, _ => ⟨_, rfl, rfl⟩⟩
theorem po14 : PlOk tb dfs p14 := ⟨⟨d15, f15⟩, rfl, rfl, rfl, rfl, rfl, fun kV doc pm an cdv ct us ws h1 h2 => match us, ws, h1, h2 with
  | [u0, u1], [], _, _ => ⟨_, rfl, rfl⟩⟩
theorem po15 : PlOk tb dfs p15 := ⟨⟨d9, f9⟩, rfl, rfl, rfl, rfl, rfl, fun kV doc pm an cdv ct us ws h1 h2 => match us, ws, h1, h2 with
  | [], [w0, w1], _, _ => ⟨_, rfl, rfl⟩⟩
theorem po16 : PlOk tb dfs p16 := ⟨⟨d10, f10⟩, rfl, rfl, rfl, rfl, rfl, fun kV doc pm an cdv ct us ws h1 h2 => match us, ws, h1, h2 with
  | [], [], _, _ => ⟨_, rfl, rfl⟩⟩
theorem po17 : PlOk tb dfs p17 := ⟨⟨d16, f16⟩, rfl, rfl, rfl, rfl, rfl, fun kV doc pm an cdv ct us ws h1 h2 => match us, ws, h1, h2 with
  | [u0], [], _, _ => ⟨_, rfl, rfl⟩⟩
theorem po18 : PlOk tb dfs p18 := ⟨⟨d17, f17⟩, rfl, rfl, rfl, rfl, rfl, fun kV doc pm an cdv ct us ws h1 h2 => match us, ws, h1, h2 with
  | [u0, u1], [], _, _ => ⟨_, rfl, rfl⟩⟩
theorem po19 : PlOk tb dfs p19 := ⟨⟨d18, f18⟩, rfl, rfl, rfl, rfl, rfl, fun kV doc pm an cdv ct us ws h1 h2 => match us, ws, h1, h2 with
  | [u0], [], _, _ => ⟨_, rfl, rfl⟩⟩
theorem tbOk {h : Heap} {mg : Str → Option Value} {K : PySem.W.Frag} (X : K.In h) (G : h.Ns mainGlobals mg) (c : He.SaysD (faOf tb) (dfs.map (·.d)) K) : TbOk mg ⟨K, fun _ => 0, fun _ => ""⟩ tb :=
  tb_of rfl X G c ⟨ok0, ok1, ok2, ok3, ok4, ok5, ok6, ok7, ok8, ok9, ok10, ok11, ok12, ok13, ok14, ok15, ok16, ok17, ok18, trivial⟩ ⟨po0, po1, po2, po3, po4, po5, po6, po7, po8, po9, po10, po11, po12, po13, po14, po15, po16, po17, po18, po19, trivial⟩ rfl (by kernel_rfl)
abbrev R : PySem.W.OpenRow := PySem.W.OpenLaw.row PySem.Challenge.rw_purepowers_k26_whole_kinds_by_themselves
abbrev qv : Program := PySem.W.view R.prog [30]
def loose : List Str := (["__name__", "WrongValue", "InvalidDegree", "InvalidKind", "is_integer", "is_between", "prime_divisors", "MOST_SIZE", "MOST_LOOKED", "MOST_PRIME", "check_degree", "ALL", "primes_for", "is_prime", "are_primes", "is_kind", "does_split_by", "splits_by", "_law_open", "_law_tap", "_law_of", "_law_primes", "_law_splits", "_law_some_kind", "_law_right", "_law_by_hand"] : List Str)
abbrev hk : PySem.W.Hook := He.hookD 4 (faOf tb) (dfs.map (·.d))
def ob (s : PySem.W.SharedT) : He.AlD := He.obsDG 4 (faOf tb) (dfs.map (·.d)) (HandSHeadRun.getT s)
theorem ob_eq (s : PySem.W.SharedT) : ob s = hk.obs s.abs := He.obsDG_eq (HandSHeadRun.getT_eq s)
theorem run (w : PySem.World) : HandSHeadRun.RunEq R qv hk ob 4000 loose w := by
  intro os
  kernel_rfl
end Pk26
set_option Elab.async false
set_option linter.all false
set_option autoImplicit false
set_option maxRecDepth 100000
namespace Pk26
open PySem PySem.Spec PyProof.Rows L2 Ev
/-- _law_tap -/
theorem c_tap (k n : Nat) (st : List D) (kk : KT2) (e : KX2) (a b g c : Int) (hn : st[n]? = some (keg a b g)) (ha : 0 ≤ a) (hc : 0 < c) (hc2 : c < 2 ^ 64) (h : ∀ d a' b' g', 0 ≤ d → d < c → 0 ≤ a' → kk (.v (.int d)) (st.set n (keg a' b' g'))) : Cl tb (k+1) 10 [.box n, .int c] st kk e := by
  have hl : n < st.length := (List.getElem?_eq_some_iff.mp hn).1
  have gs : ∀ {s : List D} {x : D}, n < s.length → (s.set n x)[n]? = some x := fun h => List.getElem?_set_self h
  have l1 : ∀ {x : D}, n < (st.set n x).length := fun {x} => by rw [List.length_set]; exact hl
  have l2 : ∀ {x y : D}, n < ((st.set n x).set n y).length := fun {x y} => by rw [List.length_set, List.length_set]; exact hl
  refine ⟨_, _, hn, rfl, _, _, hn, rfl, ?_⟩
  refine ⟨_, _, gs hl, rfl, mulR (by decide), _, _, gs hl, rfl, mulL (by decide), by decide, _, _, gs hl, rfl, ?_⟩
  refine ⟨_, _, gs l1, rfl, _, rfl, ifB (fun h0 => ?_) (fun h0 => ?_)⟩
  · refine ⟨_, _, gs l1, rfl, cdiv hc hc2, rfl, _, _, gs l1, rfl, rfl, ?_⟩
    exact kset3 (kk := kk _) (h _ _ _ _ (Int.emod_nonneg _ (by omega)) (Int.emod_lt_of_pos _ hc) (Int.ediv_nonneg ha (by omega)))
  · refine ⟨_, _, gs l1, rfl, _, _, gs l1, rfl, _, _, gs l1, rfl, mulL (by decide), mulL ?_, by decide, cdiv (by decide) (by decide), hc, ?_⟩
    · have h1 := Int.emod_nonneg (b * 47513 + 16007 * (g + 1) + 17) (show (2147483249 : Int) ≠ 0 by decide)
      have h2 := Int.emod_lt_of_pos (b * 47513 + 16007 * (g + 1) + 17) (show (0 : Int) < 2147483249 by decide)
      omega
    · exact kset2 (kk := kk _) (h _ _ _ _ (Int.emod_nonneg _ (by omega)) (Int.emod_lt_of_pos _ hc) ha)
end Pk26
set_option Elab.async false
set_option linter.all false
set_option autoImplicit false
set_option maxRecDepth 100000
namespace Pk26
open PySem PySem.Spec PyProof.Rows L2 Ev
theorem c_int (k : Nat) (st : List D) (kk : KT2) (e : KX2) (v : Int) (h : kk (.v (.bl true)) st) : Cl tb (k+1) 0 [.int v] st kk e := ⟨rfl, rfl, _, rfl, h⟩
theorem c_isb (k : Nat) (st : List D) (kk : KT2) (e : KX2) (v lo hi : Int) (h : kk (.v (.bl (decide (lo ≤ v ∧ v ≤ hi)))) st) : Cl tb (k+2) 1 [.int v, .int lo, .int hi] st kk e := by
  refine ⟨rfl, rfl, c_int _ _ _ _ _ (mB (fun h1 => ?_) (fun h1 => ?_))⟩
  · have h1 := of_decide_eq_true h1
    have e0 : decide (lo ≤ v ∧ v ≤ hi) = decide (v ≤ hi) := by simp [h1]
    rw [e0] at h
    exact h
  · have h1 := of_decide_eq_false h1
    have e0 : decide (lo ≤ v ∧ v ≤ hi) = false := by simp [h1]
    rw [e0] at h
    exact h
/-! ### prime_divisors -/
def pdIn : Nat → Int → Int → Int
  | 0, l, _ => l
  | n + 1, l, s => if l % s = 0 then pdIn n (l / s) s else l
def pdOut : Nat → List Int → Int → Int → List Int × Int
  | 0, f, l, _ => (f, l)
  | n + 1, f, l, s => if s * s ≤ l then (if l % s = 0 then pdOut n (f ++ [s]) (pdIn l.toNat l s) (s + 1) else pdOut n f l (s + 1)) else (f, l)
def pd (v : Int) : List Int := (pdOut v.toNat [] v 2).1 ++ (if (pdOut v.toNat [] v 2).2 > 1 then [(pdOut v.toNat [] v 2).2] else [])
theorem div_less {l s : Int} (h1 : 1 ≤ l) (h2 : 2 ≤ s) (h3 : l % s = 0) : 1 ≤ l / s ∧ l / s < l := by
  have e := Int.emod_add_mul_ediv l s
  rw [h3] at e
  have p : 0 < l / s := by
    rcases Int.lt_or_le 0 (l / s) with q | q
    · exact q
    · have : s * (l / s) ≤ 0 := Int.mul_nonpos_of_nonneg_of_nonpos (by omega) q
      omega
  refine ⟨p, ?_⟩
  have : 2 * (l / s) ≤ s * (l / s) := Int.mul_le_mul_of_nonneg_right h2 (by omega)
  omega
theorem pdIn_le : ∀ (n : Nat) (l s : Int), 1 ≤ l → 2 ≤ s → 1 ≤ pdIn n l s ∧ pdIn n l s ≤ l
  | 0, l, s, h1, _ => ⟨h1, Int.le_refl _⟩
  | n + 1, l, s, h1, h2 => by
    unfold pdIn
    split
    · rename_i h3
      obtain ⟨a, b⟩ := div_less h1 h2 h3
      have := pdIn_le n (l / s) s a h2
      omega
    · omega
theorem le_of_sq {s l : Int} (h : 2 ≤ s) (h2 : s * s ≤ l) : s ≤ l := by
  have : 1 * s ≤ s * s := Int.mul_le_mul_of_nonneg_right (by omega) (by omega)
  omega
theorem sq_gt {s l : Int} (h : 2 ≤ s) (h2 : l < s) : ¬ s * s ≤ l := fun z => by
  have := le_of_sq h z
  omega
theorem c_pd (k : Nat) (st : List D) (kk : KT2) (e : KX2) (v : Int) (hv : 1 ≤ v) (hv2 : v ≤ 1000000) (h : kk (.o (.lst ((pd v).map D.int))) st) : Cl tb (k+1) 2 [.int v] st kk e := by
  refine ⟨by decide, rfl, ?_⟩
  refine ⟨fun m en s => ∃ (f : List Int) (l t : Int), s = st ∧ en = [some (.v (.int v)), some (.o (.lst (f.map D.int))), some (.v (.int l)), some (.v (.int t))] ∧ 1 ≤ l ∧ l ≤ v ∧ 2 ≤ t ∧ t ≤ v + 1 ∧ f.length + 2 ≤ t ∧ (l + 1 - t).toNat ≤ m ∧ pdOut m f l t = pdOut v.toNat [] v 2, ⟨v.toNat, [], v, 2, rfl, rfl, hv, by omega, by omega, by omega, by simp, by omega, rfl⟩, ?_⟩
  rintro m en s ⟨f, l, t, rfl, rfl, h1, h2, h3, h4, h5, h6, h7⟩
  refine ⟨mulL (by omega), _, rfl, ifB (fun h0 => ?_) (fun h0 => ?_)⟩
  · have h0 := of_decide_eq_true h0
    have htl := le_of_sq h3 h0
    obtain ⟨m', rfl⟩ : ∃ m', m = m' + 1 := ⟨m - 1, by omega⟩
    rw [pdOut, if_pos h0] at h7
    refine ⟨by omega, .inl rfl, _, rfl, ifB (fun h8 => ?_) (fun h8 => ?_)⟩
    · have h8 := eqT h8
      rw [if_pos h8] at h7
      refine ⟨_, _, rfl, fApp_ok (by rw [sizeLine_eq]; omega), ?_⟩
      obtain ⟨i1, i2⟩ := pdIn_le l.toNat l t h1 h3
      refine ⟨fun m en u => ∃ q : Int, u = s ∧ en = [some (.v (.int v)), some (.o (.lst ((f ++ [t]).map D.int))), some (.v (.int q)), some (.v (.int t))] ∧ 1 ≤ q ∧ q.toNat ≤ m ∧ pdIn m q t = pdIn l.toNat l t, ⟨l.toNat, l, rfl, rfl, h1, Nat.le_refl _, rfl⟩, ?_⟩
      rintro j en u ⟨q, rfl, rfl, j1, j2, j3⟩
      refine ⟨by omega, .inl rfl, _, rfl, ifB (fun h9 => ?_) (fun h9 => ?_)⟩
      · have h9 := eqT h9
        obtain ⟨j', rfl⟩ : ∃ j', j = j' + 1 := ⟨j - 1, by omega⟩
        rw [pdIn, if_pos h9] at j3
        obtain ⟨x1, x2⟩ := div_less j1 h3 h9
        exact ⟨cdiv (by omega) (by omega), j', Nat.lt_succ_self _, q / t, rfl, rfl, x1, by omega, j3⟩
      · have h9 := eqF h9
        have e9 : pdIn j q t = q := by
          cases j with
          | zero => rfl
          | succ j => rw [pdIn, if_neg h9]
        rw [e9] at j3
        subst j3
        refine ⟨_, rfl, m', Nat.lt_succ_self _, f ++ [t], _, t + 1, rfl, rfl, i1, by omega, by omega, by omega, by simp; omega, by omega, h7⟩
    · have h8 := eqF h8
      rw [if_neg h8] at h7
      exact ⟨_, rfl, m', Nat.lt_succ_self _, f, l, t + 1, rfl, rfl, h1, h2, by omega, by omega, by omega, by omega, h7⟩
  · have h0 := of_decide_eq_false h0
    have e7 : pdOut m f l t = (f, l) := by
      cases m with
      | zero => rfl
      | succ m => rw [pdOut, if_neg h0]
    rw [e7] at h7
    have ep : pd v = f ++ (if l > 1 then [l] else []) := by unfold pd; rw [← h7]
    rw [ep] at h
    refine ⟨_, rfl, ifB (fun h8 => ?_) (fun h8 => ?_)⟩
    · have h8 := of_decide_eq_true h8
      rw [if_pos h8, List.map_append] at h
      exact ⟨(show (1 : Nat) ≤ sizeLine by decide), by rw [List.length_map, sizeLine_eq]; simp; omega, h⟩
    · have h8 := of_decide_eq_false h8
      rw [if_neg h8, List.map_append] at h
      exact ⟨by decide, by rw [List.length_map, sizeLine_eq]; simp; omega, h⟩
end Pk26
set_option Elab.async false
set_option linter.all false
set_option autoImplicit false
set_option maxRecDepth 100000
namespace Pk26
open PySem PySem.Spec PyProof.Rows L2 Ev
def big (s p : Int) : Bool := decide (0 < s) || decide (2 < p)
def own (s n : Int) : List Int := (pd n).filter (big s)
def bigD (s : Int) : D → Bool
  | .int i => big s i
  | _ => false
theorem filt_map (s : Int) : ∀ l : List Int, ((l.map D.int).filter (bigD s)).map (fun d => (T.v d).d) = (l.filter (big s)).map D.int
  | [] => rfl
  | a :: l => by
    have ih := filt_map s l
    rw [List.map_cons]
    cases h : big s a with
    | true => rw [List.filter_cons_of_pos (show bigD s (.int a) = true from h), List.filter_cons_of_pos h, List.map_cons, List.map_cons, ih]; rfl
    | false => rw [List.filter_cons_of_neg (show ¬ bigD s (.int a) = true by rw [show bigD s (.int a) = big s a from rfl, h]; simp), List.filter_cons_of_neg (by rw [h]; simp), ih]
theorem pdOut_len : ∀ (m : Nat) (f : List Int) (l t : Int), (pdOut m f l t).1.length ≤ f.length + m
  | 0, f, l, t => Nat.le_refl _
  | m + 1, f, l, t => by
    unfold pdOut
    split
    · split
      · have := pdOut_len m (f ++ [t]) (pdIn l.toNat l t) (t + 1)
        rw [List.length_append] at this
        simp at this
        omega
      · have := pdOut_len m f l (t + 1)
        omega
    · show f.length ≤ _
      omega
theorem pd_len (v : Int) (h : v ≤ 1000000) : (pd v).length ≤ 1000001 := by
  unfold pd
  rw [List.length_append]
  have := pdOut_len v.toNat [] v 2
  simp at this
  split <;> simp <;> omega
theorem or_test {K : KB} {en : En} {st : List D} {s i : Int} (hK : K (big s i) en st) : (∃ b, D.bl (decide (0 < s)) = .bl b ∧ if b = true then K true en st else ∃ b', D.bl (decide (2 < i)) = .bl b' ∧ K b' en st) := by
  refine ⟨_, rfl, ifB (fun h => ?_) (fun h => ?_)⟩
  · rw [show big s i = true by unfold big; rw [h]; rfl] at hK
    exact hK
  · rw [show big s i = decide (2 < i) by unfold big; rw [h]; rfl] at hK
    exact ⟨_, rfl, hK⟩
theorem c_pf (k : Nat) (st : List D) (kk : KT2) (e : KX2) (s n : Int) (hv : 1 ≤ n) (hv2 : n ≤ 1000000) (h : kk (.o (.lst ((own s n).map D.int))) st) : Cl tb (k+2) 3 [.int s, .int n] st kk e := by
  refine ⟨rfl, rfl, c_pd _ _ _ _ _ hv hv2 ?_⟩
  refine lc_pure (bigD s) T.v ((pd n).map D.int) (by rw [List.length_map, sizeLine_eq]; have := pd_len n hv2; omega) (fun d hd => ?_) ?_
  · obtain ⟨i, _, rfl⟩ := List.mem_map.mp hd
    exact ⟨_, rfl, rfl, fun K hK => or_test hK, fun _ K hK => hK⟩
  · rw [filt_map]
    exact h
def Pd : Option (List Int) → D
  | none => .str "all"
  | some ps => .tup (ps.map D.int)
def kd (s : Int) (P : Option (List Int)) (f : Bool) : D := .tup [.int s, Pd P, .bl f]
def ans2 (s n : Int) : Option (List Int) → Bool
  | none => decide (own s n ≠ [])
  | some ps => (own s n).any fun p => decide (p ∈ ps)
def ans (s : Int) (P : Option (List Int)) (f : Bool) (n : Int) : Bool := (f && decide (n % 4 = 0)) || ans2 s n P
theorem layI : ∀ l : List Int, PyData.canLayAll0 (l.map PyData.int) = true
  | [] => by rw [List.map_nil, PyData.canLayAll0]
  | a :: l => by rw [List.map_cons, PyData.canLayAll0, layI l, PyData.canLay0]; rfl
theorem depI : ∀ l : List Int, PyData.depthAll (l.map PyData.int) = 0
  | [] => by rw [List.map_nil, PyData.depthAll]
  | a :: l => by rw [List.map_cons, PyData.depthAll, depI l, PyData.depth]; rfl
theorem layB : ∀ l : List Bool, PyData.canLayAll0 (l.map PyData.bool) = true
  | [] => by rw [List.map_nil, PyData.canLayAll0]
  | a :: l => by rw [List.map_cons, PyData.canLayAll0, layB l, PyData.canLay0]; rfl
theorem depB : ∀ l : List Bool, PyData.depthAll (l.map PyData.bool) = 0
  | [] => by rw [List.map_nil, PyData.depthAll]
  | a :: l => by rw [List.map_cons, PyData.depthAll, depB l, PyData.depth]; rfl
theorem okD_ints (l : List Int) : okD (.lst (l.map D.int)) = true := by
  have e : dat (.lst (l.map D.int)) = some (.list (l.map PyData.int)) := by rw [dat, datLI]; rfl
  unfold okD
  rw [e]
  show SeqAt.shaped _ = true
  unfold SeqAt.shaped
  rw [PyData.canLay0, layI, PyData.depth, depI]
  rfl
theorem okD_tints (l : List Int) : okD (.tup (l.map D.int)) = true := by
  have e : dat (.tup (l.map D.int)) = some (.tuple (l.map PyData.int)) := by rw [dat, datLI]; rfl
  unfold okD
  rw [e]
  show SeqAt.shaped _ = true
  unfold SeqAt.shaped
  rw [PyData.canLay0, layI, PyData.depth, depI]
  rfl
theorem okD_bls (l : List Bool) : okD (.lst (l.map D.bl)) = true := by
  have e : dat (.lst (l.map D.bl)) = some (.list (l.map PyData.bool)) := by rw [dat, datLB]; rfl
  unfold okD
  rw [e]
  show SeqAt.shaped _ = true
  unfold SeqAt.shaped
  rw [PyData.canLay0, layB, PyData.depth, depB]
  rfl
theorem okD_all : okD (.str "all") = true := by decide +kernel
theorem own_len (s n : Int) (h : n ≤ 1000000) : (own s n).length ≤ 1000001 := Nat.le_trans (List.length_filter_le _ _) (pd_len n h)
theorem deq_nil (l : List Int) : deq (.lst (l.map D.int)) (.lst []) = decide (l = []) := by
  rw [deq]
  exact deqLI (m := [])
def qD (q : Int → Bool) : D → Bool
  | .int i => q i
  | _ => false
theorem map_d (l : List Int) (q : Int → Bool) : ((l.map D.int).filter fun _ => true).map (fun d => (T.v (.bl (qD q d))).d) = (l.map q).map D.bl := by
  rw [List.filter_eq_self.mpr (fun _ _ => rfl), List.map_map, List.map_map]
  rfl
theorem anyK {ps : List Int} {i : Int} {K : Bool → Prop} (h : K (decide (i ∈ ps))) : K ((ps.map D.int).any fun y => deq y (.int i)) := by rw [anyI]; exact h
/-- does_split_by -/
theorem c_ds (k : Nat) (st : List D) (kk : KT2) (e : KX2) (s n : Int) (P : Option (List Int)) (f : Bool) (hv : 1 ≤ n) (hv2 : n ≤ 1000000) (h : kk (.v (.bl (ans s P f n))) st) : Cl tb (k+3) 7 [kd s P f, .int n] st kk e := by
  have go : ((f && decide (n % 4 = 0)) = true → kk (.v (.bl true)) st) ∧ ((f && decide (n % 4 = 0)) = false → kk (.v (.bl (ans2 s n P))) st) := by
    constructor
    · intro z; unfold ans at h; rw [z, Bool.true_or] at h; exact h
    · intro z; unfold ans at h; rw [z, Bool.false_or] at h; exact h
  have rest : ((f && decide (n % 4 = 0)) = false) → wSs (Cl tb (k+2)) (.cons (.set 2 (.call 3 2 0 (.cons (.ix (.var 0) (.c (.int 0))) (.cons (.var 1) .nil)) .nil)) (.cons (.ret (.ite (.val (.cmp .Eq (.ix (.var 0) (.c (.int 1))) (.c (.str "all")))) (.cmp .NotEq (.var 2) (.lst .nil)) (.bi .any (.cons (.lc (.any (.var 2)) (.one 3) .yes (.cmp .In (.var 3) (.ix (.var 0) (.c (.int 1)))) [3]) .nil)))) .nil)) (enOf 4 [kd s P f, .int n]) st (endOf kk e) := by
    intro z
    have h' := go.2 z
    refine ⟨_, rfl, rfl, rfl, c_pf _ _ _ _ _ _ hv hv2 ?_⟩
    cases P with
    | none =>
      refine ⟨_, rfl, .inl rfl, _, rfl, ifP rfl ⟨(show (0 : Nat) ≤ sizeLine by decide), .inr ⟨okD_ints _, okD_ints []⟩, ?_⟩⟩
      have e1 : (!deq (.lst ((own s n).map D.int)) (.lst [])) = ans2 s n none := by rw [deq_nil, ← decide_not]; rfl
      rw [← e1] at h'
      exact h'
    | some ps =>
      refine ⟨_, rfl, .inr ⟨okD_tints _, okD_all⟩, _, rfl, ifN (by show ¬ false = true; simp) ?_⟩
      refine lc_pure (fun _ => true) (fun d => T.v (.bl (qD (fun i => decide (i ∈ ps)) d))) ((own s n).map D.int) (by rw [List.length_map, sizeLine_eq]; have := own_len s n hv2; omega) (fun d hd => ?_) ?_
      · obtain ⟨i, _, rfl⟩ := List.mem_map.mp hd
        refine ⟨_, rfl, rfl, fun K hK => hK, fun _ K hK => ⟨_, rfl, ⟨rfl, flatI ps⟩, ?_⟩⟩
        exact anyK (K := fun b => K (.v (.bl b)) _ _) hK
      · rw [map_d (own s n) fun i => decide (i ∈ ps)]
        refine ⟨_, rfl, ?_⟩
        have e1 : ((own s n).map fun i => decide (i ∈ ps)).any id = ans2 s n (some ps) := by rw [List.any_map]; rfl
        rw [← e1] at h'
        exact h'
  refine ⟨_, rfl, _, rfl, ifB (fun hf => ?_) (fun hf => ?_)⟩
  · refine ⟨by decide, .inl rfl, _, rfl, ifB (fun h4 => ?_) (fun h4 => ?_)⟩
    · have h4 := eqT h4
      exact go.1 (by rw [hf, decide_eq_true h4]; rfl)
    · have h4 := eqF h4
      exact rest (by rw [hf, decide_eq_false h4]; rfl)
  · exact ifN (by simp) (rest (by rw [hf]; rfl))
/-- is_prime -/
def prim (p : Int) : Bool := decide (2 ≤ p ∧ p ≤ 997) && decide (pd p = [p])
theorem c_ip (k : Nat) (st : List D) (kk : KT2) (e : KX2) (p : Int) (hp : 1 ≤ p) (hp2 : p ≤ 1000000) (h : kk (.v (.bl (prim p))) st) : Cl tb (k+3) 4 [.int p] st kk e := by
  refine ⟨rfl, rfl, c_isb _ _ _ _ _ _ _ (mD (fun h1 => ?_) (fun h1 => ?_))⟩
  · refine ⟨rfl, rfl, c_pd _ _ _ _ _ hp hp2 ⟨(show (1 : Nat) ≤ sizeLine by decide), .inr ⟨okD_ints _, okD_ints [p]⟩, ?_⟩⟩
    have e1 : deq (.lst ((pd p).map D.int)) (.lst [.int p]) = decide (pd p = [p]) := by
      rw [deq]
      exact deqLI (m := [p])
    unfold prim at h
    rw [h1, Bool.true_and, ← e1] at h
    exact h
  · unfold prim at h
    rw [h1] at h
    exact h
end Pk26
set_option Elab.async false
set_option linter.all false
set_option autoImplicit false
set_option maxRecDepth 100000
namespace Pk26
open PySem PySem.Spec PyProof.Rows L2 Ev
structure GoodP (ps : List Int) (s : Int) : Prop where
  pr : ∀ p ∈ ps, prim p = true
  two : s < 0 → 2 ∉ ps
  up : ps.Pairwise (· < ·)
  len : ps.length ≤ 1000
structure GoodK (s : Int) (P : Option (List Int)) (f : Bool) : Prop where
  s1 : s = 1 ∨ s = -1
  s2 : 0 < s → f = false
  p : ∀ ps, P = some ps → GoodP ps s
  a : P = none → f = false
theorem noF : ¬ (false = true) := Bool.noConfusion
theorem all_true {α : Type} (ds : List α) : ((ds.map fun _ => true).all id) = true := by
  rw [List.all_map]
  exact List.all_eq_true.mpr fun _ _ => rfl
theorem map_true (ds : List D) : (ds.filter fun _ => true).map (fun _ => (T.v (.bl true)).d) = (ds.map fun _ => true).map D.bl := by
  rw [List.filter_eq_self.mpr (fun _ _ => rfl), List.map_map]
  rfl
theorem zip_up : ∀ (x : Int) (ps : List Int), (x :: ps).Pairwise (· < ·) → ∀ d ∈ zipD ((x :: ps).map D.int) (ps.map D.int), ∃ a b, d = .tup [.int a, .int b] ∧ a < b
  | x, [], _, d, hd => by cases hd
  | x, y :: ps, h, d, hd => by
    have h1 := List.pairwise_cons.mp h
    rcases List.mem_cons.mp (show d ∈ D.tup [.int x, .int y] :: zipD ((y :: ps).map D.int) (ps.map D.int) from hd) with e | e
    · exact ⟨x, y, e, h1.1 y List.mem_cons_self⟩
    · exact zip_up y ps h1.2 d e
theorem zip_len : ∀ (xs ys : List D), (zipD xs ys).length ≤ xs.length
  | [], ys => by cases ys <;> exact Nat.le_refl 0
  | x :: xs, [] => Nat.zero_le _
  | x :: xs, y :: ys => Nat.succ_le_succ (zip_len xs ys)
theorem cut1 {α : Type} (xs : List α) : cut xs (some 1) none = xs.drop 1 := by
  cases xs with
  | nil => rfl
  | cons x xs =>
    unfold cut HT.sIx
    simp
theorem c_ap (k : Nat) (st : List D) (kk : KT2) (e : KX2) (s : Int) (ps : List Int) (g : GoodP ps s) (h : kk (.v (.bl true)) st) : Cl tb (k+4) 5 [.tup (ps.map D.int), .int s] st kk e := by
  have hl : (ps.map D.int).length ≤ sizeLine := by rw [List.length_map, sizeLine_eq]; have := g.len; omega
  refine ⟨rfl, _, rfl, ifN noF ?_⟩
  refine lc_pure (fun _ => true) (fun _ => T.v (.bl true)) (ps.map D.int) hl (fun d hd => ?_) ?_
  · obtain ⟨p, hp, rfl⟩ := List.mem_map.mp hd
    have q := g.pr p hp
    have q2 := of_decide_eq_true (Bool.and_eq_true_iff.mp (show (decide (2 ≤ p ∧ p ≤ 997) && decide (pd p = [p])) = true from q)).1
    refine ⟨_, rfl, rfl, fun K hK => hK, fun _ K hK => ⟨rfl, rfl, c_ip _ _ _ _ _ (by omega) (by omega) ?_⟩⟩
    rw [q]
    exact hK
  · rw [map_true]
    refine ⟨_, rfl, ?_⟩
    rw [all_true]
    refine ⟨_, rfl, ifN noF ?_⟩
    have tail : kk (.v (.bl true)) st → wSs (Cl tb (k+3)) (.cons (.ret (.bi .all (.cons (.lc (.zip (.cons (.var 0) (.cons (.sl (.var 0) (.some (.c (.int 1))) .none) .nil))) (.many [2, 3]) .yes (.cmp .Lt (.var 2) (.var 3)) [2, 3]) .nil))) .nil) (enOf 5 [.tup (ps.map D.int), .int s]) st (endOf kk e) := by
      intro h
      refine ⟨_, rfl, ?_⟩
      show lcL _ _ _ _ (zipD (ps.map D.int) (cut (ps.map D.int) (some 1) none)) [] _ _ _
      rw [cut1]
      have hz : ∀ d ∈ zipD (ps.map D.int) ((ps.map D.int).drop 1), ∃ a b, d = .tup [.int a, .int b] ∧ a < b := by
        cases ps with
        | nil => intro d hd; cases hd
        | cons x ps => exact zip_up x ps g.up
      refine lc_pure (fun _ => true) (fun _ => T.v (.bl true)) _ (Nat.le_trans (zip_len _ _) hl) (fun d hd => ?_) ?_
      · obtain ⟨a, b, rfl, hab⟩ := hz d hd
        refine ⟨_, rfl, rfl, fun K hK => hK, fun _ K hK => ?_⟩
        rw [← decide_eq_true hab] at hK
        exact hK
      · rw [map_true]
        refine ⟨_, rfl, ?_⟩
        rw [all_true]
        exact h
    refine ⟨_, rfl, ifB (fun h1 => ?_) (fun h1 => ?_)⟩
    · have h1 := of_decide_eq_true h1
      have h2 := g.two h1
      refine ⟨⟨rfl, flatI ps⟩, _, rfl, ifN ?_ (tail h)⟩
      show ¬ ((ps.map D.int).any fun y => deq y (.int 2)) = true
      rw [anyI, decide_eq_false h2]
      simp
    · exact ifN noF (tail h)
/-- is_kind -/
theorem c_ik (k : Nat) (st : List D) (kk : KT2) (e : KX2) (s : Int) (P : Option (List Int)) (f : Bool) (g : GoodK s P f) (h : kk (.v (.bl true)) st) : Cl tb (k+5) 8 [kd s P f] st kk e := by
  refine ⟨rfl, _, rfl, ifN noF ⟨.inl rfl, _, rfl, ifN noF ⟨_, rfl, rfl, _, rfl, ifN noF ⟨rfl, rfl, ?_⟩⟩⟩⟩
  refine ⟨_, rfl, rfl, rfl, c_isb _ _ _ _ _ _ _ ⟨_, rfl, ?_⟩⟩
  rw [decide_eq_true (show -1 ≤ s ∧ s ≤ 1 by have := g.s1; omega)]
  refine ifN noF ⟨.inl rfl, _, rfl, ifN (fun z => ?_) ?_⟩
  · have := eqT z
    have := g.s1
    omega
  have tail : wSs (Cl tb (k+4)) (.cons (.ifs (.val (.bi .isinstance (.cons (.var 2) (.cons (.c (.ty .str)) .nil)))) (.cons (.ret (.and (.cmp .Eq (.var 2) (.c (.str "all"))) (.not (.var 3)))) .nil) .nil) (.cons (.ret (.call 5 2 0 (.cons (.var 2) (.cons (.var 1) .nil)) .nil)) .nil)) [some (.v (kd s P f)), some (.v (.int s)), some (.v (Pd P)), some (.v (.bl f))] st (endOf kk e) := by
    cases P with
    | none =>
      have hf := g.a rfl
      subst hf
      exact ⟨rfl, _, rfl, ifP rfl ⟨.inl rfl, _, rfl, h⟩⟩
    | some ps => exact ⟨rfl, _, rfl, ifN noF ⟨rfl, rfl, c_ap _ _ _ _ _ _ (g.p ps rfl) h⟩⟩
  refine ⟨_, rfl, ifB (fun h1 => ?_) (fun h1 => ?_)⟩
  · have hf := g.s2 (of_decide_eq_true h1)
    subst hf
    exact ⟨_, rfl, ifN noF tail⟩
  · exact ifN noF tail
/-- splits_by -/
theorem c_sb (k : Nat) (st : List D) (kk : KT2) (e : KX2) (s n : Int) (P : Option (List Int)) (f : Bool) (g : GoodK s P f) (hv : 1 ≤ n) (hv2 : n ≤ 1000) (h : kk (.v (.bl (ans s P f n))) st) : Cl tb (k+6) 9 [kd s P f, .int n] st kk e := by
  refine ⟨rfl, rfl, c_ik _ _ _ _ _ _ _ g ⟨_, rfl, ifN noF ?_⟩⟩
  refine ⟨rfl, rfl, ?_⟩
  refine ⟨rfl, rfl, c_isb _ _ _ _ _ _ _ ⟨_, rfl, ?_⟩⟩
  rw [decide_eq_true (show 1 ≤ n ∧ n ≤ 1000 from ⟨hv, hv2⟩)]
  refine ifN noF ?_
  exact ⟨rfl, rfl, c_ds _ _ _ _ _ _ _ _ hv (by omega) h⟩
theorem c_sk (k : Nat) (st : List D) (kk : KT2) (e : KX2) (s n : Int) (P : Option (List Int)) (f : Bool) (g : GoodK s P f) (hv : 1 ≤ n) (hv2 : n ≤ 1000) (h : kk (.v (.bl (ans s P f n))) st) : Cl tb (k+6) 15 [.int n, kd s P f] st kk e := c_sb k st kk e s n P f g hv hv2 h
end Pk26
set_option Elab.async false
set_option linter.all false
set_option autoImplicit false
set_option maxRecDepth 100000
namespace Pk26
open PySem PySem.Spec PyProof.Rows L2 Ev
def lpOut : Nat → List Int → Int → Int → List Int × Int
  | 0, f, l, _ => (f, l)
  | n + 1, f, l, s => if s * s ≤ l then (if l % s = 0 then lpOut n (f ++ [s]) (l / s) s else lpOut n f l (s + 1)) else (f, l)
def lp (v : Int) : List Int := (lpOut (2 * v).toNat [] v 2).1 ++ (if (lpOut (2 * v).toNat [] v 2).2 > 1 then [(lpOut (2 * v).toNat [] v 2).2] else [])
def chk (n : Nat) : Bool := decide ((lp n).length < 60) && (decide ((pd n).Pairwise (· < ·)) && ((lp n).all (fun x => (pd n).contains x) && (pd n).all (fun x => (lp n).contains x)))
theorem chk_all : (List.range 1001).all chk = true := by decide +kernel
theorem lp_pd (n : Int) (h : 1 ≤ n) (h2 : n ≤ 1000) : (lp n).length < 60 ∧ (pd n).Pairwise (· < ·) ∧ ∀ i, i ∈ lp n ↔ i ∈ pd n := by
  have e : n = (n.toNat : Int) := by omega
  have q := List.all_eq_true.mp chk_all n.toNat (List.mem_range.mpr (by omega))
  unfold chk at q
  rw [← e] at q
  simp only [Bool.and_eq_true, decide_eq_true_eq, List.all_eq_true, List.contains_iff_mem] at q
  exact ⟨q.1, q.2.1, fun i => ⟨q.2.2.1 i, q.2.2.2 i⟩⟩
theorem c_lp (k : Nat) (st : List D) (kk : KT2) (e : KX2) (v : Int) (hv : 1 ≤ v) (hv2 : v ≤ 1000) (h : kk (.o (.lst ((pd v).map D.int))) st) : Cl tb (k+1) 12 [.int v] st kk e := by
  obtain ⟨c1, c2, c3⟩ := lp_pd v hv hv2
  refine ⟨by decide, rfl, ?_⟩
  refine ⟨fun m en s => ∃ (f : List Int) (l t : Int), s = st ∧ en = [some (.v (.int v)), some (.o (.lst (f.map D.int))), some (.v (.int l)), some (.v (.int t))] ∧ 1 ≤ l ∧ 2 ≤ t ∧ t ≤ v + 1 ∧ f.length + l ≤ v ∧ (2 * l - t).toNat ≤ m ∧ lpOut m f l t = lpOut (2 * v).toNat [] v 2, ⟨(2 * v).toNat, [], v, 2, rfl, rfl, hv, by omega, by omega, by simp, by omega, rfl⟩, ?_⟩
  rintro m en s ⟨f, l, t, rfl, rfl, h1, h3, h4, h5, h6, h7⟩
  refine ⟨mulL (by omega), _, rfl, ifB (fun h0 => ?_) (fun h0 => ?_)⟩
  · have h0 := of_decide_eq_true h0
    have htl := le_of_sq h3 h0
    obtain ⟨m', rfl⟩ : ∃ m', m = m' + 1 := ⟨m - 1, by omega⟩
    rw [lpOut, if_pos h0] at h7
    refine ⟨by omega, .inl rfl, _, rfl, ifB (fun h8 => ?_) (fun h8 => ?_)⟩
    · have h8 := eqT h8
      rw [if_pos h8] at h7
      obtain ⟨x1, x2⟩ := div_less h1 h3 h8
      refine ⟨_, _, rfl, fApp_ok (by rw [sizeLine_eq]; omega), ?_⟩
      exact ⟨cdiv (by omega) (by omega), m', Nat.lt_succ_self _, f ++ [t], l / t, t, rfl, rfl, x1, h3, h4, by simp; omega, by omega, h7⟩
    · have h8 := eqF h8
      rw [if_neg h8] at h7
      exact ⟨m', Nat.lt_succ_self _, f, l, t + 1, rfl, rfl, h1, by omega, by omega, h5, by omega, h7⟩
  · have h0 := of_decide_eq_false h0
    have e7 : lpOut m f l t = (f, l) := by
      cases m with
      | zero => rfl
      | succ m => rw [lpOut, if_neg h0]
    rw [e7] at h7
    have ep : lp v = f ++ (if l > 1 then [l] else []) := by unfold lp; rw [← h7]
    have fin : oSset [.lst ((lp v).map D.int)] fun t => kk t s := by
      refine ⟨lp v, lp v, rfl, by unfold scanBound; omega, by omega, fun _ z => z, fun ms p1 p2 => ?_⟩
      rw [sorted_uniq p1 c2 fun i => (p2 i).trans (c3 i)]
      exact h
    rw [ep] at fin
    refine ⟨_, rfl, ifB (fun h8 => ?_) (fun h8 => ?_)⟩
    · have h8 := of_decide_eq_true h8
      rw [if_pos h8, List.map_append] at fin
      exact ⟨(show (1 : Nat) ≤ sizeLine by decide), by rw [List.length_map, sizeLine_eq]; simp; omega, fin⟩
    · have h8 := of_decide_eq_false h8
      rw [if_neg h8, List.map_append] at fin
      exact ⟨by decide, by rw [List.length_map, sizeLine_eq]; simp; omega, fin⟩
/-- _law_splits -/
theorem c_ls (k : Nat) (st : List D) (kk : KT2) (e : KX2) (s n : Int) (P : Option (List Int)) (f : Bool) (hv : 1 ≤ n) (hv2 : n ≤ 1000) (h : kk (.v (.bl (ans s P f n))) st) : Cl tb (k+2) 14 [kd s P f, .int n] st kk e := by
  have go : ((f && decide (n % 4 = 0)) = true → kk (.v (.bl true)) st) ∧ ((f && decide (n % 4 = 0)) = false → kk (.v (.bl (ans2 s n P))) st) := by
    constructor
    · intro z; unfold ans at h; rw [z, Bool.true_or] at h; exact h
    · intro z; unfold ans at h; rw [z, Bool.false_or] at h; exact h
  refine ⟨rfl, rfl, rfl, rfl, c_lp _ _ _ _ _ hv hv2 ?_⟩
  refine lc_pure (bigD s) T.v ((pd n).map D.int) (by rw [List.length_map, sizeLine_eq]; have := pd_len n (by omega); omega) (fun d hd => ?_) ?_
  · obtain ⟨i, _, rfl⟩ := List.mem_map.mp hd
    exact ⟨_, rfl, rfl, fun K hK => or_test hK, fun _ K hK => hK⟩
  rw [filt_map]
  have tail : ((f && decide (n % 4 = 0)) = false) → wSs (Cl tb (k+1)) (.cons (.ret (.ite (.val (.cmp .Eq (.var 3) (.c (.str "all")))) (.cmp .NotEq (.var 5) (.lst .nil)) (.bi .any (.cons (.lc (.any (.var 5)) (.one 6) .yes (.cmp .In (.var 6) (.var 3)) [6]) .nil)))) .nil) [some (.v (kd s P f)), some (.v (.int n)), some (.v (.int s)), some (.v (Pd P)), some (.v (.bl f)), some (.o (.lst ((own s n).map D.int))), none] st (endOf kk e) := by
    intro z
    have h' := go.2 z
    cases P with
    | none =>
      refine ⟨.inl rfl, _, rfl, ifP rfl ⟨(show (0 : Nat) ≤ sizeLine by decide), .inr ⟨okD_ints _, okD_ints []⟩, ?_⟩⟩
      have e1 : (!deq (.lst ((own s n).map D.int)) (.lst [])) = ans2 s n none := by rw [deq_nil, ← decide_not]; rfl
      rw [← e1] at h'
      exact h'
    | some ps =>
      refine ⟨.inr ⟨okD_tints _, okD_all⟩, _, rfl, ifN noF ?_⟩
      refine lc_pure (fun _ => true) (fun d => T.v (.bl (qD (fun i => decide (i ∈ ps)) d))) ((own s n).map D.int) (by rw [List.length_map, sizeLine_eq]; have := own_len s n (by omega); omega) (fun d hd => ?_) ?_
      · obtain ⟨i, _, rfl⟩ := List.mem_map.mp hd
        refine ⟨_, rfl, rfl, fun K hK => hK, fun _ K hK => ⟨⟨rfl, flatI ps⟩, ?_⟩⟩
        exact anyK (K := fun b => K (.v (.bl b)) _ _) hK
      · rw [map_d (own s n) fun i => decide (i ∈ ps)]
        refine ⟨_, rfl, ?_⟩
        have e1 : ((own s n).map fun i => decide (i ∈ ps)).any id = ans2 s n (some ps) := by rw [List.any_map]; rfl
        rw [← e1] at h'
        exact h'
  refine ⟨_, rfl, ifB (fun hf => ?_) (fun hf => ?_)⟩
  · refine ⟨by decide, .inl rfl, _, rfl, ifB (fun h4 => ?_) (fun h4 => ?_)⟩
    · exact go.1 (by rw [hf, decide_eq_true (eqT h4)]; rfl)
    · exact tail (by rw [hf, decide_eq_false (eqF h4)]; rfl)
  · exact ifN noF (tail (by rw [hf]; rfl))
end Pk26
set_option Elab.async false
set_option linter.all false
set_option autoImplicit false
set_option maxRecDepth 100000
namespace Pk26
open PySem PySem.Spec PyProof.Rows L2 Ev
def KG (st : List D) (n : Nat) : Prop := ∃ a b g, st[n]? = some (keg a b g) ∧ 0 ≤ a
def Sm (n : Nat) (st st' : List D) : Prop := st = st' ∨ ∃ a b g, 0 ≤ a ∧ st' = st.set n (keg a b g)
theorem Sm.trans {n : Nat} {a b c : List D} (h : Sm n a b) (h' : Sm n b c) : Sm n a c := by
  rcases h with rfl | ⟨x, y, z, h1, rfl⟩
  · exact h'
  · rcases h' with rfl | ⟨x', y', z', h2, rfl⟩
    · exact .inr ⟨x, y, z, h1, rfl⟩
    · exact .inr ⟨x', y', z', h2, by rw [List.set_set]⟩
theorem Sm.kg {n : Nat} {a b : List D} (h : Sm n a b) (k : KG a n) : KG b n := by
  rcases h with rfl | ⟨x, y, z, h1, rfl⟩
  · exact k
  · obtain ⟨_, _, _, q, _⟩ := k
    exact ⟨x, y, z, List.getElem?_set_self (List.getElem?_eq_some_iff.mp q).1, h1⟩
theorem tap (k n : Nat) (st : List D) (kk : KT2) (e : KX2) (c : Int) (g : KG st n) (hc : 0 < c) (hc2 : c < 2 ^ 64) (h : ∀ d st', 0 ≤ d → d < c → Sm n st st' → kk (.v (.int d)) st') : Cl tb (k+1) 10 [.box n, .int c] st kk e := by
  obtain ⟨a, b, g, h1, h2⟩ := g
  exact c_tap k n st kk e a b g c h1 h2 hc hc2 fun d a' b' g' e1 e2 e3 => h d _ e1 e2 (.inr ⟨a', b', g', e3, rfl⟩)
theorem szs {n : Nat} {A : Prop} (h : Nat.ble n 1000 = true) (a : A) : n ≤ sizeLine ∧ A := ⟨Nat.le_trans (Nat.le_of_ble_eq_true h) (by decide), a⟩
theorem of_ (k n : Nat) (st : List D) (kk : KT2) (e : KX2) (xs : List D) (g : KG st n) (h1 : 0 < xs.length) (h2 : xs.length < 2 ^ 63) (h : ∀ d st', d ∈ xs → Sm n st st' → kk (.v d) st') : Cl tb (k+2) 11 [.box n, .lst xs] st kk e := by
  refine ⟨rfl, rfl, tap _ _ _ _ _ _ g (by omega) (by omega) fun i st' i1 i2 s1 => ?_⟩
  obtain ⟨x, hx, ex⟩ := atI_ok i1 i2
  exact ⟨x, ex, h x st' hx s1⟩
/-! ### kinds, checked -/
def gpB (ps : List Int) (s : Int) : Bool := ps.all prim && (decide (s < 0 → 2 ∉ ps) && (decide (ps.Pairwise (· < ·)) && decide (ps.length ≤ 1000)))
theorem gpB_ok {ps : List Int} {s : Int} (h : gpB ps s = true) : GoodP ps s := by
  simp only [gpB, Bool.and_eq_true, decide_eq_true_eq, List.all_eq_true] at h
  exact ⟨h.1, h.2.1, h.2.2.1, h.2.2.2⟩
theorem GoodP.sub {ps qs : List Int} {s : Int} (g : GoodP qs s) (h : ps.Sublist qs) : GoodP ps s :=
  ⟨fun p hp => g.pr p (h.subset hp), fun z y => g.two z (h.subset y), g.up.sublist h, Nat.le_trans h.length_le g.len⟩
theorem pool1 : GoodP [2, 3, 5, 7, 11, 997] 1 := gpB_ok (by decide +kernel)
theorem pool2 : GoodP [3, 5, 7, 11, 997] (-1) := gpB_ok (by decide +kernel)
/-- _law_some_kind -/
theorem some_kind (k n : Nat) (st : List D) (kk : KT2) (e : KX2) (g : KG st n) (h : ∀ s P f st', GoodK s P f → Sm n st st' → kk (.v (kd s P f)) st') : Cl tb (k+3) 13 [.box n] st kk e := by
  refine ⟨_, rfl, szs rfl ⟨rfl, rfl, of_ _ _ _ _ _ _ g (by decide) (by decide) fun d st1 hd s1 => ?_⟩⟩
  have hs : ∃ s : Int, d = .int s ∧ (s = 1 ∨ s = -1) := by
    rcases List.mem_cons.mp hd with rfl | hd
    · exact ⟨1, rfl, .inl rfl⟩
    · rcases List.mem_cons.mp hd with rfl | hd
      · exact ⟨-1, rfl, .inr rfl⟩
      · cases hd
  obtain ⟨s, rfl, hs⟩ := hs
  refine ⟨rfl, rfl, tap _ _ _ _ _ _ (s1.kg g) (by decide) (by decide) fun d2 st2 _ _ s2 => ⟨.inl rfl, _, rfl, ifB (fun h6 => ?_) (fun h6 => ?_)⟩⟩
  · exact szs rfl (h s none false st2 ⟨hs, fun _ => rfl, fun _ z => (nomatch z), fun _ => rfl⟩ (s1.trans s2))
  have main : ∀ L : List Int, GoodP L s → L.length ≤ 10 → wSs (Cl tb (k+2)) (.cons (.set 3 (.bi .tuple (.cons (.lc (.any (.var 2)) (.one 4) (.val (.cmp .Eq (.call 10 2 0 (.cons (.var 0) (.cons (.c (.int 3)) .nil)) .nil) (.c (.int 0)))) (.var 4) [4]) .nil))) (.cons (.ret (.tup (.cons (.var 1) (.cons (.var 3) (.cons (.and (.cmp .Lt (.var 1) (.c (.int 0))) (.cmp .Eq (.call 10 2 0 (.cons (.var 0) (.cons (.c (.int 2)) .nil)) .nil) (.c (.int 0)))) .nil))))) .nil)) [some (.v (.box n)), some (.v (.int s)), some (.o (.lst (L.map D.int))), none, none] st2 (endOf kk e) := by
    intro L gL lL
    refine lc_inv (fun rem acc en st => ∃ pre rest ps : List Int, L = pre ++ rest ∧ rem = rest.map D.int ∧ acc = ps.map D.int ∧ ps.Sublist pre ∧ en = [some (.v (.box n)), some (.v (.int s)), some (.v (.lst (L.map D.int))), none, none] ∧ Sm n st2 st) ?_ ?_ (L.map D.int) [] _ _ ⟨[], L, [], rfl, rfl, rfl, .slnil, rfl, .inl rfl⟩
    · rintro d ds acc en st N ⟨pre, rest, ps, rfl, e2, rfl, e4, rfl, e6⟩ hN
      cases rest with
      | nil => cases e2
      | cons x rest =>
        cases e2
        refine ⟨_, rfl, rfl, rfl, tap _ _ _ _ _ _ ((s2.trans e6).kg (s1.kg g)) (by decide) (by decide) fun d3 st3 _ _ s3 => ⟨.inl rfl, _, rfl, ifB (fun h7 => ?_) (fun h7 => ?_)⟩⟩
        · refine ⟨?_, hN _ _ _ ⟨pre ++ [x], rest, ps ++ [x], by simp, rfl, by simp; rfl, e4.append (List.Sublist.refl _), rfl, e6.trans s3⟩⟩
          have := e4.length_le
          rw [List.length_map, sizeLine_eq]
          simp at lL
          omega
        · exact hN _ _ _ ⟨pre ++ [x], rest, ps, by simp, rfl, rfl, e4.trans (List.sublist_append_left _ _), rfl, e6.trans s3⟩
    · rintro acc en st ⟨pre, rest, ps, e1, e2, rfl, e4, rfl, e6⟩
      have er : rest = [] := List.map_eq_nil_iff.mp e2.symm
      subst er
      rw [List.append_nil] at e1
      subst e1
      have gp := gL.sub e4
      refine mD (fun h8 => ?_) (fun h8 => ?_)
      · have h8 := of_decide_eq_true h8
        refine ⟨rfl, rfl, tap _ _ _ _ _ _ ((s2.trans e6).kg (s1.kg g)) (by decide) (by decide) fun d3 st3 _ _ s3 => ⟨.inl rfl, szs rfl ?_⟩⟩
        exact h s (some ps) _ _ ⟨hs, fun z => by omega, fun _ z => by cases z; exact gp, fun z => (nomatch z)⟩ (s1.trans (s2.trans (e6.trans s3)))
      · exact szs rfl (h s (some ps) false _ ⟨hs, fun _ => rfl, fun _ z => by cases z; exact gp, fun z => (nomatch z)⟩ (s1.trans (s2.trans e6)))
  refine ⟨_, rfl, ifB (fun h7 => ?_) (fun h7 => ?_)⟩
  · have h7 := of_decide_eq_true h7
    have es : s = 1 := by omega
    subst es
    exact szs rfl (main _ pool1 (by decide))
  · have h7 := of_decide_eq_false h7
    have es : s = -1 := by omega
    subst es
    exact szs rfl (main _ pool2 (by decide))
end Pk26
set_option Elab.async false
set_option linter.all false
set_option autoImplicit false
set_option maxRecDepth 100000
set_option maxHeartbeats 0
namespace Pk26
open PySem PySem.Spec PyProof.Rows L2 Ev
theorem okR2 (b : Bool) : okRepr (.lst [.bl b, .bl b]) := by
  cases b
  · exact ⟨_, rfl, by decide +kernel, by decide +kernel, by decide +kernel, by decide +kernel⟩
  · exact ⟨_, rfl, by decide +kernel, by decide +kernel, by decide +kernel, by decide +kernel⟩
theorem deq_str (s : Str) : (!deq (.str s) (.str s)) = false := by rw [deqS]; simp
/-- _law_right -/
theorem right (k n : Nat) (st : List D) (kk : KT2) (e : KX2) (g : KG st n) (h : ∀ st', kk (.v (.bl true)) st') : Cl tb (k+7) 17 [.box n] st kk e := by
  refine ⟨⟨by decide, by decide⟩, for_inv (fun _ en s => (∃ x1 x2 x3 x4 x5, en = [some (.v (.box n)), x1, x2, x3, x4, x5]) ∧ Sm n st s) ?_ (fun en s hI => h s) _ _ _ ⟨⟨_, _, _, _, _, rfl⟩, .inl rfl⟩⟩
  rintro d ds en s1 N ⟨⟨x1, x2, x3, x4, x5, rfl⟩, m1⟩ hN
  refine ⟨rfl, rfl, some_kind _ _ _ _ _ (m1.kg g) fun s P f s2 gk m2 => ⟨⟨by decide, by decide⟩, ?_⟩⟩
  refine for_inv (fun _ en s' => (∃ x1 x3 x4 x5, en = [some (.v (.box n)), x1, some (.v (kd s P f)), x3, x4, x5]) ∧ Sm n st s') ?_ (fun en s' hI => ?_) _ _ _ ⟨⟨_, _, _, _, rfl⟩, m1.trans m2⟩
  · rintro d' ds' en s3 N' ⟨⟨x1, x3, x4, x5, rfl⟩, m3⟩ hN'
    refine ⟨rfl, rfl, tap _ _ _ _ _ _ (m3.kg g) (by decide) (by decide) fun t1 s4 t11 t12 m4 => ?_⟩
    refine ⟨rfl, rfl, tap _ _ _ _ _ _ ((m3.trans m4).kg g) (by decide) (by decide) fun t2 s5 t21 t22 m5 => ?_⟩
    refine szs rfl ?_
    refine ⟨rfl, rfl, ?_⟩
    refine of_ _ n s5 _ _ [.int 1, .int 2, .int 4, .int 8, .int 3, .int 6, .int 12, .int 997, .int 994, .int 1000, .int (1 + t1), .int (1 + t2)] ((m3.trans (m4.trans m5)).kg g) (by show 0 < 12; decide) (by show 12 < 2 ^ 63; decide) fun d6 s6 hd6 m6 => ?_
    have hn : ∃ i : Int, d6 = .int i ∧ 1 ≤ i ∧ i ≤ 1000 := by
      simp only [List.mem_cons, List.not_mem_nil, or_false] at hd6
      rcases hd6 with r | r | r | r | r | r | r | r | r | r | r | r <;> subst r <;> exact ⟨_, rfl, by first | decide | omega, by first | decide | omega⟩
    obtain ⟨i, rfl, i1, i2⟩ := hn
    refine ⟨rfl, rfl, c_ls _ _ _ _ _ _ _ _ i1 i2 ?_⟩
    refine ⟨rfl, rfl, c_sb _ _ _ _ _ _ _ _ gk i1 i2 ⟨rfl, rfl, c_sk _ _ _ _ _ _ _ _ gk i1 i2 (szs rfl ⟨okR2 _, szs rfl ⟨okR2 _, .inl rfl, _, rfl, ifN ?_ ?_⟩⟩)⟩⟩
    · show ¬ (!deq (.str _) (.str _)) = true
      rw [deq_str]
      exact noF
    · exact hN' _ _ ⟨⟨_, _, _, _, rfl⟩, m3.trans (m4.trans (m5.trans m6))⟩
  · obtain ⟨⟨y1, y3, y4, y5, rfl⟩, m4⟩ := hI
    exact hN _ _ ⟨⟨_, _, _, _, _, rfl⟩, m4⟩
end Pk26
set_option Elab.async false
set_option linter.all false
set_option autoImplicit false
set_option maxRecDepth 100000
set_option maxHeartbeats 0
namespace Pk26
open PySem PySem.Spec PyProof.Rows L2 Ev
theorem openn (k : Nat) (st : List D) (kk : KT2) (e : KX2) (ns : List Int) (j : Int) (hj : 0 ≤ j) (hj2 : j < 100) (h : ∀ a b g, 0 ≤ a → kk (.o (keg a b g)) st) : Cl tb (k+1) 18 [.scr ns, .int j] st kk e := by
  have tail : ∀ o : Int, wSs (Cl tb k) (.cons (.set 3 (.bin .Add (.c (.int 43013)) (.bin .Mult (.c (.int 263)) (.var 1)))) (.cons (.forr (.any (.sl (.var 0) .none (.some (.c (.int 14))))) (.name 4) (.cons (.set 3 (.bin .Mod (.bi .int (.cons (.bin .Add (.bin .Mult (.var 3) (.c (.int 60013))) (.bi .int (.cons (.var 4) .nil))) .nil)) (.c (.int 2147483323)))) .nil)) (.cons (.ret (.lst (.cons (.ite (.or (.val (.cmp .Lt (.var 2) (.c (.int 0)))) (.val (.cmp .GtE (.var 2) (.bin .Pow (.c (.int 10)) (.c (.int 17)))))) (.bi .abs (.cons (.var 2) .nil)) (.c (.int 0))) (.cons (.bin .Mod (.bi .int (.cons (.bin .Add (.bin .Mult (.var 3) (.c (.int 44207))) (.var 2)) .nil)) (.c (.int 2147483323))) (.cons (.c (.int 9)) .nil))))) .nil))) [some (.v (.scr ns)), some (.v (.int j)), some (.v (.int o)), none, none] st (endOf kk e) := by
    intro o
    refine ⟨mulL (by decide), _, rfl, ?_⟩
    refine for_inv (fun rem en s => (∃ l : List Int, rem = l.map D.int) ∧ s = st ∧ ∃ z x, en = [some (.v (.scr ns)), some (.v (.int j)), some (.v (.int o)), some (.v (.int z)), x]) ?_ ?_ _ _ _ ⟨⟨_, rfl⟩, rfl, _, _, rfl⟩
    · rintro d ds en s N ⟨⟨l, e1⟩, rfl, z, x, rfl⟩ hN
      cases l with
      | nil => cases e1
      | cons i l =>
        cases e1
        exact ⟨mulR (by decide), by decide, hN _ _ ⟨⟨l, rfl⟩, rfl, _, _, rfl⟩⟩
    · rintro en s ⟨_, rfl, z, x, rfl⟩
      have fin : ∀ a : Int, 0 ≤ a → kk (.o (.lst [.int a, .int ((z * 44207 + o) % 2147483323), .int 9])) s := fun a ha => h a _ _ ha
      have ab : 0 ≤ (if o < 0 then -o else o) := by split <;> omega
      refine ⟨_, rfl, ifB (fun h1 => ?_) (fun h1 => ?_)⟩
      · exact ⟨mulR (by decide), by decide, szs rfl (fin _ ab)⟩
      · refine ⟨⟨by decide, by decide, by decide⟩, _, rfl, ifB (fun h2 => ?_) (fun h2 => ?_)⟩
        · exact ⟨mulR (by decide), by decide, szs rfl (fin _ ab)⟩
        · exact ⟨mulR (by decide), by decide, szs rfl (fin _ (Int.le_refl 0))⟩
  refine ⟨_, rfl, ifB (fun h1 => ?_) (fun h1 => ?_)⟩
  · have h1 := of_decide_eq_true h1
    obtain ⟨x, _, ex⟩ := atI_ok hj h1
    exact ⟨x, ex, tail x⟩
  · exact ⟨mulL (by decide), tail _⟩
/-! ### by hand -/
structure Hd where
  s : Int
  P : Option (List Int)
  f : Bool
  n : Int
  b : Bool
def Hd.d (h : Hd) : D := .lst [kd h.s h.P h.f, .int h.n, .bl h.b]
def hand : List Hd := [⟨1, some [], false, 1000, false⟩, ⟨1, none, false, 1, false⟩, ⟨1, none, false, 2, true⟩, ⟨-1, none, false, 8, false⟩, ⟨-1, none, false, 12, true⟩, ⟨-1, some [], true, 8, true⟩,
  ⟨-1, some [], true, 6, false⟩, ⟨-1, some [3], true, 6, true⟩, ⟨-1, some [3], false, 4, false⟩, ⟨1, some [2, 997], false, 997, true⟩, ⟨1, some [2, 997], false, 999, false⟩, ⟨1, some [5, 7], false, 48, false⟩]
def gkB (h : Hd) : Bool := (decide (h.s = 1) || decide (h.s = -1)) && ((decide (0 < h.s → h.f = false)) && ((match h.P with
  | none => !h.f
  | some ps => gpB ps h.s) && (decide (1 ≤ h.n) && (decide (h.n ≤ 1000) && decide (ans h.s h.P h.f h.n = h.b)))))
theorem gkB_ok {h : Hd} (q : gkB h = true) : GoodK h.s h.P h.f ∧ 1 ≤ h.n ∧ h.n ≤ 1000 ∧ ans h.s h.P h.f h.n = h.b := by
  obtain ⟨s, P, f, n, b⟩ := h
  simp only [gkB, Bool.and_eq_true, decide_eq_true_eq, Bool.or_eq_true] at q
  obtain ⟨q1, q2, q3, q4, q5, q6⟩ := q
  refine ⟨⟨q1, q2, fun ps e => ?_, fun e => ?_⟩, q4, q5, q6⟩
  · have e' : P = some ps := e
    subst e'
    exact gpB_ok q3
  · have e' : P = none := e
    subst e'
    simpa using q3
theorem hand_ok : hand.all gkB = true := by decide +kernel
def bD : D → Bool
  | .lst [_, _, .bl b] => b
  | _ => false
theorem hand_map : ((hand.map Hd.d).filter fun _ => true).map (fun d => (T.v (.bl (bD d))).d) = (hand.map (·.b)).map D.bl := rfl
theorem by_hand (k : Nat) (st : List D) (kk : KT2) (e : KX2) (h : kk (.v (.bl true)) st) : Cl tb (k+7) 16 [] st kk e := by
  iterate 7 refine szs rfl ?_
  repeat (first | refine szs rfl ?_ | refine ⟨_, rfl, szs rfl ?_⟩)
  refine ⟨_, _, rfl, rfl, ?_⟩
  refine lc_pure (fun _ => true) (fun d => T.v (.bl (bD d))) (hand.map Hd.d) (by decide) (fun d hd => ?_) ?_
  · obtain ⟨x, hx, rfl⟩ := List.mem_map.mp hd
    obtain ⟨g, n1, n2, ha⟩ := gkB_ok (List.all_eq_true.mp hand_ok x hx)
    refine ⟨_, rfl, rfl, fun K hK => hK, fun _ K hK => ⟨_, rfl, _, rfl, rfl, rfl, c_sb _ _ _ _ _ _ _ _ g n1 n2 ?_⟩⟩
    rw [ha]
    exact hK
  · refine lc_pure (fun _ => true) (fun d => T.v (.bl (bD d))) (hand.map Hd.d) (by decide) (fun d hd => ?_) ?_
    · obtain ⟨x, hx, rfl⟩ := List.mem_map.mp hd
      exact ⟨_, rfl, rfl, fun K hK => hK, fun _ K hK => ⟨_, rfl, hK⟩⟩
    · rw [hand_map]
      refine ⟨.inr ⟨okD_bls _, okD_bls _⟩, ?_⟩
      have e1 : deq (.lst ((hand.map (·.b)).map D.bl)) (.lst ((hand.map (·.b)).map D.bl)) = true := by
        rw [deq, deqLB]
        simp
      rw [← e1] at h
      exact h
end Pk26
set_option Elab.async false
set_option linter.all false
set_option autoImplicit false
set_option maxRecDepth 100000
set_option maxHeartbeats 0
namespace Pk26
open PySem PySem.Spec PyProof.Rows L2 Ev
def lev : Nat := 10
theorem law_true (ns : List Int) (h1 : ns.length ≤ 63) (h2 : ∀ z ∈ ns, Builtin.Int.intBits z ≤ 1048576) : Cl tb (lev + 1) 19 [.scr ns] [] (fun t _ => t = .v (.bl true)) (fun _ _ => False) := by
  refine ⟨rfl, rfl, by_hand _ _ _ _ ⟨_, rfl, ifN noF ?_⟩⟩
  obtain ⟨r, hr, r1, r2⟩ : ∃ r : Int, r = (if (if (5 : Int) < (ns.length : Int) then 5 else (ns.length : Int)) > 2 then (if (5 : Int) < (ns.length : Int) then 5 else (ns.length : Int)) else 2) ∧ 0 ≤ r ∧ r ≤ 5 := ⟨_, rfl, by split <;> (try split) <;> omega, by split <;> (try split) <;> omega⟩
  show rgOk _ ∧ _
  rw [← hr]
  refine ⟨⟨by omega, by omega⟩, ?_⟩
  refine lc_inv (fun rem acc en _ => (∀ d ∈ rem, ∃ j : Int, d = .int j ∧ 0 ≤ j ∧ j < 5) ∧ (∃ m, acc = (List.replicate m true).map D.bl ∧ m + rem.length ≤ 5) ∧ en = [some (.v (.scr ns)), none]) ?_ ?_ _ _ _ _ ⟨?_, ⟨0, rfl, ?_⟩, rfl⟩
  · rintro d ds acc en st N ⟨q1, ⟨m, rfl, hm⟩, rfl⟩ hN
    obtain ⟨j, rfl, j1, j2⟩ := q1 d List.mem_cons_self
    refine ⟨_, rfl, ?_⟩
    refine ⟨rfl, rfl, openn _ _ _ _ _ _ j1 (by omega) fun a b g ha => ?_⟩
    refine ⟨rfl, rfl, right _ _ _ _ _ ⟨a, b, g, ?_, ha⟩ fun st' => ⟨?_, hN _ _ _ ⟨fun x hx => q1 x (List.mem_cons_of_mem _ hx), ⟨m + 1, ?_, ?_⟩, rfl⟩⟩⟩
    · rw [List.getElem?_append_right (Nat.le_refl _), Nat.sub_self]
      rfl
    · rw [List.length_map, List.length_replicate, sizeLine_eq]
      omega
    · rw [List.replicate_succ', List.map_append]
      rfl
    · have : m + (ds.length + 1) ≤ 5 := hm
      omega
  · rintro acc en st ⟨_, ⟨m, rfl, _⟩, rfl⟩
    refine ⟨_, rfl, ?_⟩
    have e1 : (List.replicate m true).all id = true := List.all_eq_true.mpr fun x hx => by rw [(List.mem_replicate.mp hx).2]; rfl
    show T.v (.bl ((List.replicate m true).all id)) = _
    rw [e1]
  · intro d hd
    unfold rangeD at hd
    obtain ⟨i, hi, rfl⟩ := List.mem_map.mp hd
    have := List.mem_range.mp hi
    exact ⟨_, rfl, by omega, by omega⟩
  · unfold rangeD
    rw [List.length_map, List.length_range]
    omega
end Pk26
set_option Elab.async false
set_option linter.all false
set_option autoImplicit false
set_option maxRecDepth 100000
set_option maxHeartbeats 0
open PySem PySem.W PySem.Calls PyProof.Rows
theorem PySem.Challenge.cw_purepowers_k26_whole_kinds_by_themselves_holds : PySem.Challenge.rw_purepowers_k26_whole_kinds_by_themselves.Holds := by
  w_on; o_law
  refine HandSHeadRun.head_any (r := OpenLaw.row PySem.Challenge.rw_purepowers_k26_whole_kinds_by_themselves) (q := Pk26.qv) (H := Pk26.hk) (ob := Pk26.ob) (M := 4000) (loose := Pk26.loose) (d := HandSHeadRun.topDef (OpenLaw.row PySem.Challenge.rw_purepowers_k26_whole_kinds_by_themselves).prog 30) (kwd := []) Pk26.ob_eq
    (by kernel_rfl) (fun s => by kernel_rfl) Pk26.run (by kernel_rfl) (by kernel_rfl) (by kernel_rfl) (by rfl) (by first | assumption | decide +kernel) (by decide +kernel) ⟨rfl, rfl, rfl, rfl, rfl, by decide +kernel⟩ ?hw ?hc
  case hw => w_witness2
  case hc =>
    refine Ev.walk_ev (l := PySem.Challenge.rw_purepowers_k26_whole_kinds_by_themselves) (n := 63) (k := Pk26.lev) rfl (by decide) (by kernel_rfl) ⟨rfl, by decide, by decide⟩ ?F
    intro w mg h Y G
    obtain ⟨K, KX, c⟩ := Y
    refine ⟨⟨K, fun _ => 0, fun _ => ""⟩, Pk26.tb, 19, Pk26.p19, KX, Pk26.tbOk KX G c, rfl, rfl, rfl, by kernel_rfl, fun ns h1 h2 => ?_⟩
    exact Pk26.law_true ns h1 h2
