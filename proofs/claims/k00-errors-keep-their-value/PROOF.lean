import PyProof.Rows.All
import Wide.All
import OpenK.AllK
import Wide.FinOn
import PySem.Challenge.RW_treadplans_k00_errors_keep_their_value
import HandS.ForMost
import HandS.Exc
import HandS.HeadHook2
import HandS.Slots
import HandS.TupAny
import HandS.TupMul
import HandS.TupLe
import HandS.Codes
import HandS.Wide
import HandS.Style
import HandS.HeadEnd
import HandS.Defaults
import HandS.CallLocal
import HandS.IsInst
import HandS.ExcInit
import HandS.ExcOwn
import KE.KExcSuper
import KE.KSuper
import HandS.ExcField
import HandS.ExcValue
import PyProof.Rows.Chain
import HandS.SlotsOwn
import HandS.Property
import HandS.Star
import HandS.SetFor
import HandS.SortInts
import HandS.Strs
import HandS.DictComp
import HandS.DictEq
import HandS.DeepEq
import HandS.OwnEq
import KE.KExcIs
import KE.KStateDown
import HandS.Head0
import HandS.Head1
import HandS.Head2
import HandS.HeadHook1
set_option Elab.async false
set_option linter.all false
set_option maxRecDepth 100000
section
set_option maxHeartbeats 4000000
-- Dn1
/-! Dn1: deep values, who owns an address, what a value says of the heap -/
namespace Dn
open PySem PySem.Spec PyProof.Rows L2

/-- deep values -/
inductive D where
  | non
  | bl (b : Bool)
  | int (i : Int)
  | str (x : Str)
  | tup (xs : List D)
  | lst (xs : List D)
  | dct (kvs : List (D × D))
  | ins (c : Str) (fs : List (Str × D))
  | slt (c : Str) (vs : List D)
  | nul
  | exc (c : Str) (v : D)
  | cell (k : Nat)
  | scr (ns : List Int)

/-- objects that are still written -/
inductive OD where
  | lst (xs : List D)
  | dct (kvs : List (D × D))
  | ins (c : Str) (fs : List (Str × D))
  | slt (c : Str) (vs : List D)
def OD.fz : OD → D
  | .lst xs => .lst xs
  | .dct kvs => .dct kvs
  | .ins c fs => .ins c fs
  | .slt c vs => .slt c vs
/-- what an expression gives, what a slot holds: shared data, or an object of one's own -/
inductive RV where
  | sh (d : D)
  | ow (o : OD)
  | me (o : OD)
def RV.fz : RV → D
  | .sh d => d
  | .ow o => o.fz
  | .me o => o.fz

/-- who owns an address: no one of ours, the frozen data, a cell of the store, a slot of the frame -/
inductive Tag where
  | non | frz | cell (k : Option Nat) | slot (i : Nat)
  deriving DecidableEq
abbrev Tags := Addr → Tag
def fz (t : Tags) (H : Hp) : Hp := fun a => if t a = .frz then H a else none
def rho (t : Tags) : Nat → Addr → Prop := fun k a => t a = .cell (some k)
def setT (t : Tags) (a : Addr) (x : Tag) : Tags := fun b => if b = a then x else t b
theorem setT_same {t : Tags} {a : Addr} {x : Tag} : setT t a x a = x := if_pos rfl
theorem setT_ne {t : Tags} {a b : Addr} {x : Tag} (h : b ≠ a) : setT t a x b = t b := if_neg h
theorem fz_of {t : Tags} {H : Hp} {a : Addr} (h : t a = .frz) : fz t H a = H a := if_pos h
theorem of_fz {t : Tags} {H : Hp} {a : Addr} {o : HO} (h : fz t H a = some o) : t a = .frz ∧ H a = some o := by
  unfold fz at h
  split at h
  · exact ⟨by assumption, h⟩
  · cases h

/-- an exception of the class cls held as a value, its own dict at d -/
def ExH (cls : Value) (d a : Addr) : HO := .ext fun h => ∃ (oe : Obj) (vs : Array Value), h.get? a = some oe ∧ oe.cls = cls ∧ oe.dict = some d ∧ oe.data = .fields vs

mutual
/-- the value v says d over the frozen part F -/
def Dat (K : PySem.W.Frag) (F : Hp) (r : Nat → Addr → Prop) : D → V → Prop
  | .non => fun v => v = .non
  | .bl b => fun v => v = .bl b
  | .int i => fun v => v = .int i
  | .str x => fun v => v = .str x
  | .tup xs => fun v => ∃ a vs, v = .ref a ∧ SqT K F a vs ∧ Dats K F r xs vs
  | .lst xs => fun v => ∃ a vs, v = .ref a ∧ F a = some (.lst vs) ∧ Dats K F r xs vs
  | .dct kvs => fun v => ∃ a ks, v = .ref a ∧ Rd F a (.dK ks) ∧ Datk K F r kvs ks
  | .ins c fs => fun v => ∃ a dx us, v = .ref a ∧ F a = some (.ins (He.ga K c) dx us) ∧ Datf K F r fs us
  | .slt c xs => fun v => ∃ a dx us, v = .ref a ∧ F a = some (SlX.SlO a (He.ga K c) dx us) ∧ F dx = some (.xd []) ∧ Dato K F r xs us
  | .nul => fun _ => False
  | .exc c x => fun v => ∃ a d u, v = .ref a ∧ F a = some (ExH (.ref (He.ga K c)) d a) ∧ F d = some (.xd [("value", u)]) ∧ Dat K F r x u
  | .cell k => fun v => ∃ a, v = .ref a ∧ r k a
  | .scr ns => fun v => ∃ a, v = .ref a ∧ SqL K F a (ns.map V.int)
def Dats (K : PySem.W.Frag) (F : Hp) (r : Nat → Addr → Prop) : List D → List V → Prop
  | [] => fun vs => vs = []
  | d :: ds => fun vs => ∃ v us, vs = v :: us ∧ Dat K F r d v ∧ Dats K F r ds us
def Dato (K : PySem.W.Frag) (F : Hp) (r : Nat → Addr → Prop) : List D → List (Option V) → Prop
  | [] => fun vs => vs = []
  | d :: ds => fun vs => ∃ o us, vs = o :: us ∧ ((o = none ∧ d = .nul) ∨ ∃ v, o = some v ∧ Dat K F r d v) ∧ Dato K F r ds us
def Datk (K : PySem.W.Frag) (F : Hp) (r : Nat → Addr → Prop) : List (D × D) → List (Key × V) → Prop
  | [] => fun ks => ks = []
  | (k, d) :: kvs => fun ks => ∃ (kk : Key) (v : V) (us : List (Key × V)), ks = (kk, v) :: us ∧ Dat K F r k (kV kk) ∧ Dat K F r d v ∧ Datk K F r kvs us
def Datf (K : PySem.W.Frag) (F : Hp) (r : Nat → Addr → Prop) : List (Str × D) → List (Str × V) → Prop
  | [] => fun us => us = []
  | (x, d) :: fs => fun us => ∃ (v : V) (qs : List (Str × V)), us = (x, v) :: qs ∧ Dat K F r d v ∧ Datf K F r fs qs
end

/-- the heap has grown -/
def Le (F F' : Hp) : Prop := ∀ a o, F a = some o → F' a = some o
theorem Le.refl (F : Hp) : Le F F := fun _ _ h => h
theorem Le.trans {F G J : Hp} (a : Le F G) (b : Le G J) : Le F J := fun c o h => b c o (a c o h)
theorem Le.rd {F F' : Hp} (l : Le F F') {a : Addr} {u : HO} (h : Rd F a u) : Rd F' a u := by
  rcases h with h | ⟨o, h⟩
  · exact .inl (l _ _ h)
  · exact .inr ⟨o, l _ _ h⟩
theorem Le.sqT {K : PySem.W.Frag} {F F' : Hp} (l : Le F F') {a : Addr} {vs : List V} (h : SqT K F a vs) : SqT K F' a vs := by
  rcases h with h | h
  · exact .inl (l.rd h)
  · exact .inr h
theorem Le.sqL {K : PySem.W.Frag} {F F' : Hp} (l : Le F F') {a : Addr} {vs : List V} (h : SqL K F a vs) : SqL K F' a vs := by
  rcases h with h | h
  · exact .inl (l.rd h)
  · exact .inr h
section
variable {K : PySem.W.Frag} {F F' : Hp} {r r' : Nat → Addr → Prop}
mutual
theorem Dat.mono (l : Le F F') (q : ∀ k a, r k a → r' k a) : ∀ {d : D} {v : V}, Dat K F r d v → Dat K F' r' d v
  | .non, v, h => by rw [Dat] at h ⊢; exact h
  | .bl b, v, h => by rw [Dat] at h ⊢; exact h
  | .int b, v, h => by rw [Dat] at h ⊢; exact h
  | .str b, v, h => by rw [Dat] at h ⊢; exact h
  | .tup xs, v, h => by
    rw [Dat] at h ⊢
    obtain ⟨a, vs, e, s, m⟩ := h
    exact ⟨a, vs, e, l.sqT s, Dats.mono l q m⟩
  | .lst xs, v, h => by
    rw [Dat] at h ⊢
    obtain ⟨a, vs, e, s, m⟩ := h
    exact ⟨a, vs, e, l _ _ s, Dats.mono l q m⟩
  | .dct kvs, v, h => by
    rw [Dat] at h ⊢
    obtain ⟨a, ks, e, s, m⟩ := h
    exact ⟨a, ks, e, l.rd s, Datk.mono l q m⟩
  | .ins c fs, v, h => by
    rw [Dat] at h ⊢
    obtain ⟨a, dx, us, e, s, m⟩ := h
    exact ⟨a, dx, us, e, l _ _ s, Datf.mono l q m⟩
  | .slt c xs, v, h => by
    rw [Dat] at h ⊢
    obtain ⟨a, dx, us, e, s, s2, m⟩ := h
    exact ⟨a, dx, us, e, l _ _ s, l _ _ s2, Dato.mono l q m⟩
  | .nul, v, h => by rw [Dat] at h; exact h.elim
  | .exc c x, v, h => by
    rw [Dat] at h ⊢
    obtain ⟨a, d, u, e, s, t, m⟩ := h
    exact ⟨a, d, u, e, l _ _ s, l _ _ t, Dat.mono l q m⟩
  | .cell k, v, h => by
    rw [Dat] at h ⊢
    obtain ⟨a, e, s⟩ := h
    exact ⟨a, e, q _ _ s⟩
  | .scr ns, v, h => by
    rw [Dat] at h ⊢
    obtain ⟨a, e, s⟩ := h
    exact ⟨a, e, l.sqL s⟩
theorem Dats.mono (l : Le F F') (q : ∀ k a, r k a → r' k a) : ∀ {ds : List D} {vs : List V}, Dats K F r ds vs → Dats K F' r' ds vs
  | [], vs, h => by rw [Dats] at h ⊢; exact h
  | d :: ds, vs, h => by
    rw [Dats] at h ⊢
    obtain ⟨v, us, e, m, n⟩ := h
    exact ⟨v, us, e, Dat.mono l q m, Dats.mono l q n⟩
theorem Dato.mono (l : Le F F') (q : ∀ k a, r k a → r' k a) : ∀ {ds : List D} {vs : List (Option V)}, Dato K F r ds vs → Dato K F' r' ds vs
  | [], vs, h => by rw [Dato] at h ⊢; exact h
  | d :: ds, vs, h => by
    rw [Dato] at h ⊢
    obtain ⟨o, us, e, m, n⟩ := h
    refine ⟨o, us, e, ?_, Dato.mono l q n⟩
    rcases m with m | ⟨v, e, m⟩
    · exact .inl m
    · exact .inr ⟨v, e, Dat.mono l q m⟩
theorem Datk.mono (l : Le F F') (q : ∀ k a, r k a → r' k a) : ∀ {ds : List (D × D)} {vs : List (Key × V)}, Datk K F r ds vs → Datk K F' r' ds vs
  | [], vs, h => by rw [Datk] at h ⊢; exact h
  | (k, d) :: ds, vs, h => by
    rw [Datk] at h ⊢
    obtain ⟨kk, v, us, e, m, n, p⟩ := h
    exact ⟨kk, v, us, e, Dat.mono l q m, Dat.mono l q n, Datk.mono l q p⟩
theorem Datf.mono (l : Le F F') (q : ∀ k a, r k a → r' k a) : ∀ {ds : List (Str × D)} {vs : List (Str × V)}, Datf K F r ds vs → Datf K F' r' ds vs
  | [], vs, h => by rw [Datf] at h ⊢; exact h
  | (x, d) :: ds, vs, h => by
    rw [Datf] at h ⊢
    obtain ⟨v, us, e, m, n⟩ := h
    exact ⟨v, us, e, Dat.mono l q m, Datf.mono l q n⟩
end
end
end Dn
end

section
set_option maxHeartbeats 4000000
-- Dn2
/-! Dn2: states, how they grow -/
namespace Dn
open PySem PySem.Spec PyProof.Rows L2

/-- a state of the plain side: the frame's slots, the store -/
structure DSt where
  env : List (Option RV)
  S : List OD

/-- an object of one's own stands at a -/
def ObjAt (K : PySem.W.Frag) (F : Hp) (r : Nat → Addr → Prop) (H : Hp) (a : Addr) : OD → Prop
  | .lst xs => ∃ vs, H a = some (.lst vs) ∧ Dats K F r xs vs
  | .dct kvs => ∃ ks, H a = some (.dK ks) ∧ Datk K F r kvs ks
  | .ins c fs => ∃ dx us, H a = some (.ins (He.ga K c) dx us) ∧ Datf K F r fs us
  | .slt c xs => ∃ dx us, H a = some (SlX.SlO a (He.ga K c) dx us) ∧ F dx = some (.xd []) ∧ Dato K F r xs us
theorem ObjAt.mono {K : PySem.W.Frag} {F F' : Hp} {r r' : Nat → Addr → Prop} {H H' : Hp} {a : Addr} (l : Le F F') (q : ∀ k a, r k a → r' k a) (e : ∀ o, H a = some o → H' a = some o) : ∀ {o : OD}, ObjAt K F r H a o → ObjAt K F' r' H' a o
  | .lst _, ⟨vs, h, m⟩ => ⟨vs, e _ h, m.mono l q⟩
  | .dct _, ⟨ks, h, m⟩ => ⟨ks, e _ h, m.mono l q⟩
  | .ins _ _, ⟨dx, us, h, m⟩ => ⟨dx, us, e _ h, m.mono l q⟩
  | .slt _ _, ⟨dx, us, h, h2, m⟩ => ⟨dx, us, e _ h, l _ _ h2, m.mono l q⟩
theorem ObjAt.there {K : PySem.W.Frag} {F : Hp} {r : Nat → Addr → Prop} {H : Hp} {a : Addr} : ∀ {o : OD}, ObjAt K F r H a o → H a ≠ none
  | .lst _, ⟨vs, h, m⟩ => by rw [h]; exact nofun
  | .dct _, ⟨ks, h, m⟩ => by rw [h]; exact nofun
  | .ins _ _, ⟨dx, us, h, m⟩ => by rw [h]; exact nofun
  | .slt _ _, ⟨dx, us, h, _, m⟩ => by rw [h]; exact nofun
/-- laid down for good -/
theorem ObjAt.dat {K : PySem.W.Frag} {F : Hp} {r : Nat → Addr → Prop} {H : Hp} {a : Addr} (e : ∀ o, H a = some o → F a = some o) : ∀ {o : OD}, ObjAt K F r H a o → Dat K F r o.fz (.ref a)
  | .lst xs, ⟨vs, h, m⟩ => by rw [OD.fz, Dat]; exact ⟨a, vs, rfl, e _ h, m⟩
  | .dct kvs, ⟨ks, h, m⟩ => by rw [OD.fz, Dat]; exact ⟨a, ks, rfl, .inl (e _ h), m⟩
  | .ins c fs, ⟨dx, us, h, m⟩ => by rw [OD.fz, Dat]; exact ⟨a, dx, us, rfl, e _ h, m⟩
  | .slt c xs, ⟨dx, us, h, h2, m⟩ => by rw [OD.fz, Dat]; exact ⟨a, dx, us, rfl, e _ h, h2, m⟩

structure R0 (K : PySem.W.Frag) (t : Tags) (S : List OD) (H : Hp) : Prop where
  tag : ∀ a, t a ≠ .non → H a ≠ none
  cel : ∀ (k : Nat) (o : OD), S[k]? = some o → ∃ a, t a = .cell (some k) ∧ (∀ b, t b = .cell (some k) → b = a) ∧ ObjAt K (fz t H) (rho t) H a o
  lt : ∀ a k, t a = .cell (some k) → k < S.length
  one : ∀ a b, t a = .cell none → t b = .cell none → a = b
def SlotIs (K : PySem.W.Frag) (t : Tags) (H : Hp) (i : Nat) : RV → V → Prop
  | .sh d, v => Dat K (fz t H) (rho t) d v
  | .ow o, v => ∃ a, v = .ref a ∧ t a = .slot i ∧ ObjAt K (fz t H) (rho t) H a o
  | .me o, v => ∃ a, v = .ref a ∧ t a = .cell none ∧ ObjAt K (fz t H) (rho t) H a o ∧ i = 0
/-- the plain state and the walked one -/
structure R (K : PySem.W.Frag) (t : Tags) (st : DSt) (σ : L2.St) (H : Hp) : Prop where
  r0 : R0 K t st.S H
  len : st.env.length = σ.length
  env : ∀ (i : Nat) (x : RV), st.env[i]? = some (some x) → ∃ v, σ[i]? = some (some v) ∧ SlotIs K t H i x v

/-- how tags and heap go on -/
structure Ext (t : Tags) (H : Hp) (t' : Tags) (H' : Hp) : Prop where
  frz : ∀ a, t a = .frz → t' a = .frz ∧ H' a = H a
  cel : ∀ a k, t a = .cell k → t' a = .cell k
  oth : ∀ a o, t a = .non → H a = some o → t' a = .non ∧ H' a = some o
  slt : ∀ a i o, t a = .slot i → H a = some o → H' a = some o ∧ ∀ k, t' a ≠ .cell k
theorem Ext.refl (t : Tags) (H : Hp) : Ext t H t H := ⟨fun _ h => ⟨h, rfl⟩, fun _ _ h => h, fun _ _ h e => ⟨h, e⟩, fun a i o h e => ⟨e, fun k => by rw [h]; exact nofun⟩⟩
/-- .. by a statement: what stands in slots may be written -/
structure ExtW (t : Tags) (H : Hp) (t' : Tags) (H' : Hp) : Prop where
  frz : ∀ a, t a = .frz → t' a = .frz ∧ H' a = H a
  cel : ∀ a k, t a = .cell k → t' a = .cell k
  oth : ∀ a o, t a = .non → H a = some o → t' a = .non ∧ H' a = some o
theorem Ext.w {t t1 : Tags} {H H1 : Hp} (a : Ext t H t1 H1) : ExtW t H t1 H1 := ⟨a.frz, a.cel, a.oth⟩
theorem ExtW.refl (t : Tags) (H : Hp) : ExtW t H t H := (Ext.refl t H).w
theorem ExtW.trans {t t1 t2 : Tags} {H H1 H2 : Hp} (a : ExtW t H t1 H1) (b : ExtW t1 H1 t2 H2) : ExtW t H t2 H2 where
  frz := fun c h => by
    obtain ⟨h1, e1⟩ := a.frz c h
    obtain ⟨h2, e2⟩ := b.frz c h1
    exact ⟨h2, e2.trans e1⟩
  cel := fun c k h => b.cel c k (a.cel c k h)
  oth := fun c o h e => by
    obtain ⟨h1, e1⟩ := a.oth c o h e
    exact b.oth c o h1 e1
theorem ExtW.le {t t1 : Tags} {H H1 : Hp} (a : ExtW t H t1 H1) : Le (fz t H) (fz t1 H1) := fun c o h => by
  obtain ⟨h1, h2⟩ := of_fz h
  obtain ⟨h3, h4⟩ := a.frz c h1
  rw [fz_of h3, h4, h2]
theorem ExtW.rh {t t1 : Tags} {H H1 : Hp} (a : ExtW t H t1 H1) : ∀ k c, rho t k c → rho t1 k c := fun k c h => a.cel c k h
/-- the frozen data and the cells stay -/
structure ExtF (t : Tags) (H : Hp) (t' : Tags) (H' : Hp) : Prop where
  frz : ∀ a, t a = .frz → t' a = .frz ∧ H' a = H a
  cel : ∀ a k, t a = .cell k → t' a = .cell k
theorem ExtW.f {t t1 : Tags} {H H1 : Hp} (a : ExtW t H t1 H1) : ExtF t H t1 H1 := ⟨a.frz, a.cel⟩
theorem ExtF.refl (t : Tags) (H : Hp) : ExtF t H t H := (ExtW.refl t H).f
theorem ExtF.trans {t t1 t2 : Tags} {H H1 H2 : Hp} (a : ExtF t H t1 H1) (b : ExtF t1 H1 t2 H2) : ExtF t H t2 H2 where
  frz := fun c h => by
    obtain ⟨h1, e1⟩ := a.frz c h
    obtain ⟨h2, e2⟩ := b.frz c h1
    exact ⟨h2, e2.trans e1⟩
  cel := fun c k h => b.cel c k (a.cel c k h)
theorem ExtF.le {t t1 : Tags} {H H1 : Hp} (a : ExtF t H t1 H1) : Le (fz t H) (fz t1 H1) := fun c o h => by
  obtain ⟨h1, h2⟩ := of_fz h
  obtain ⟨h3, h4⟩ := a.frz c h1
  rw [fz_of h3, h4, h2]
theorem ExtF.rh {t t1 : Tags} {H H1 : Hp} (a : ExtF t H t1 H1) : ∀ k c, rho t k c → rho t1 k c := fun k c h => a.cel c k h
theorem Ext.trans {t t1 t2 : Tags} {H H1 H2 : Hp} (a : Ext t H t1 H1) (b : Ext t1 H1 t2 H2) : Ext t H t2 H2 where
  frz := fun c h => by
    obtain ⟨h1, e1⟩ := a.frz c h
    obtain ⟨h2, e2⟩ := b.frz c h1
    exact ⟨h2, e2.trans e1⟩
  cel := fun c k h => b.cel c k (a.cel c k h)
  oth := fun c o h e => by
    obtain ⟨h1, e1⟩ := a.oth c o h e
    exact b.oth c o h1 e1
  slt := fun c i o h e => by
    obtain ⟨e1, n1⟩ := a.slt c i o h e
    cases q : t1 c with
    | non =>
      obtain ⟨h2, e2⟩ := b.oth c o q e1
      exact ⟨e2, fun k => by rw [h2]; exact nofun⟩
    | frz =>
      obtain ⟨h2, e2⟩ := b.frz c q
      exact ⟨e2.trans e1, fun k => by rw [h2]; exact nofun⟩
    | cell k => exact absurd q (n1 k)
    | slot j => exact b.slt c j o q e1
theorem Ext.le {t t1 : Tags} {H H1 : Hp} (a : Ext t H t1 H1) : Le (fz t H) (fz t1 H1) := fun c o h => by
  obtain ⟨h1, h2⟩ := of_fz h
  obtain ⟨h3, h4⟩ := a.frz c h1
  rw [fz_of h3, h4, h2]
theorem Ext.rh {t t1 : Tags} {H H1 : Hp} (a : Ext t H t1 H1) : ∀ k c, rho t k c → rho t1 k c := fun k c h => a.cel c k h
theorem Ext.dat {K : PySem.W.Frag} {t t1 : Tags} {H H1 : Hp} (a : Ext t H t1 H1) {d : D} {v : V} (h : Dat K (fz t H) (rho t) d v) : Dat K (fz t1 H1) (rho t1) d v := h.mono a.le a.rh
theorem Ext.dats {K : PySem.W.Frag} {t t1 : Tags} {H H1 : Hp} (a : Ext t H t1 H1) {d : List D} {v : List V} (h : Dats K (fz t H) (rho t) d v) : Dats K (fz t1 H1) (rho t1) d v := h.mono a.le a.rh

/-- a value just made: shared, or an object that no one else holds -/
def IsRV (K : PySem.W.Frag) (t : Tags) (H : Hp) (t' : Tags) (H' : Hp) : RV → V → Prop
  | .sh d, v => Dat K (fz t' H') (rho t') d v
  | .ow o, v => ∃ a, v = .ref a ∧ (t a = .non → H a = none) ∧ t' a = .non ∧ ObjAt K (fz t' H') (rho t') H' a o
  | .me _, _ => False

section
variable {K : PySem.W.Frag} {t t' : Tags} {H H' : Hp} {st : DSt} {σ : L2.St} {S : List OD}
theorem le_retag {a : Addr} (n : t a ≠ .frz) : Le (fz t H) (fz (setT t a .frz) H) := fun b o h => by
  obtain ⟨h1, h2⟩ := of_fz h
  have ne : b ≠ a := fun e => n (e ▸ h1)
  rw [fz_of (by rw [setT_ne ne]; exact h1)]
  exact h2
theorem rho_retag {a : Addr} {x : Tag} (n : ∀ k, t a ≠ .cell k) : ∀ k b, rho t k b → rho (setT t a x) k b := fun k b h => by
  have ne : b ≠ a := fun e => n k (e ▸ h)
  show setT t a x b = _
  rw [setT_ne ne]
  exact h
/-- an object of no one's (or of a slot that is not read) is frozen -/
theorem R0.freeze {a : Addr} (r : R0 K t S H) (n : t a ≠ .frz) (c : ∀ k, t a ≠ .cell k) (hs : H a ≠ none) : R0 K (setT t a .frz) S H where
  tag := fun b h => by
    by_cases e : b = a
    · rw [e]; exact hs
    · rw [setT_ne e] at h; exact r.tag b h
  cel := fun k o h => by
    obtain ⟨b, h1, h2, h3⟩ := r.cel k o h
    have ne : b ≠ a := fun e => c k (e ▸ h1)
    refine ⟨b, by rw [setT_ne ne]; exact h1, fun b' hb' => ?_, h3.mono (le_retag n) (rho_retag c) fun _ h => h⟩
    by_cases e : b' = a
    · rw [e, setT_same] at hb'; cases hb'
    · rw [setT_ne e] at hb'; exact h2 b' hb'
  lt := fun b k h => by
    by_cases e : b = a
    · rw [e, setT_same] at h; cases h
    · rw [setT_ne e] at h; exact r.lt b k h
  one := fun b b' h h' => by
    by_cases e : b = a
    · rw [e, setT_same] at h; cases h
    · by_cases e' : b' = a
      · rw [e', setT_same] at h'; cases h'
      · rw [setT_ne e] at h; rw [setT_ne e'] at h'; exact r.one b b' h h'
theorem SlotIs.freeze {a : Addr} {i : Nat} {x : RV} {v : V} (n : t a ≠ .frz) (c : ∀ k, t a ≠ .cell k) (ns : t a ≠ .slot i) (h : SlotIs K t H i x v) : SlotIs K (setT t a .frz) H i x v := by
  cases x with
  | sh d => exact Dat.mono (le_retag n) (rho_retag c) h
  | ow o =>
    obtain ⟨b, e, h1, h2⟩ := h
    have ne : b ≠ a := fun e => ns (e ▸ h1)
    exact ⟨b, e, by rw [setT_ne ne]; exact h1, h2.mono (le_retag n) (rho_retag c) fun _ h => h⟩
  | me o =>
    obtain ⟨b, e, h1, h2, hi⟩ := h
    have ne : b ≠ a := fun e => c _ (e ▸ h1)
    exact ⟨b, e, by rw [setT_ne ne]; exact h1, h2.mono (le_retag n) (rho_retag c) fun _ h => h, hi⟩
theorem R.freeze {a : Addr} (r : R K t st σ H) (n : t a = .non) (hs : H a ≠ none) : R K (setT t a .frz) st σ H where
  r0 := r.r0.freeze (by rw [n]; exact nofun) (fun k => by rw [n]; exact nofun) hs
  len := r.len
  env := fun i x h => by
    obtain ⟨v, e, q⟩ := r.env i x h
    exact ⟨v, e, q.freeze (by rw [n]; exact nofun) (fun k => by rw [n]; exact nofun) (by rw [n]; exact nofun)⟩
/-- a value that was just made is laid down for good -/
theorem IsRV.freeze {x : RV} {v : V} (E : Ext t H t' H') (r : R K t' st σ H') (h : IsRV K t H t' H' x v) :
    ∃ t2, Ext t H t2 H' ∧ R K t2 st σ H' ∧ Dat K (fz t2 H') (rho t2) x.fz v := by
  cases x with
  | sh d => exact ⟨t', E, r, h⟩
  | me o => exact h.elim
  | ow o =>
    obtain ⟨a, rfl, h1, h2, h3⟩ := h
    have hs := h3.there
    refine ⟨setT t' a .frz, ⟨fun b hb => ?_, fun b k hb => ?_, fun b ob hb e => ?_, fun b i ob hb e => ?_⟩, r.freeze h2 hs, ?_⟩
    · obtain ⟨q1, q2⟩ := E.frz b hb
      have ne : b ≠ a := fun e => by rw [e, h2] at q1; cases q1
      exact ⟨by rw [setT_ne ne]; exact q1, q2⟩
    · have q := E.cel b k hb
      have ne : b ≠ a := fun e => by rw [e, h2] at q; cases q
      rw [setT_ne ne]; exact q
    · have ne : b ≠ a := fun e' => by
        subst e'
        rw [h1 hb] at e; cases e
      obtain ⟨q1, q2⟩ := E.oth b ob hb e
      exact ⟨by rw [setT_ne ne]; exact q1, q2⟩
    · obtain ⟨q1, q2⟩ := E.slt b i ob hb e
      refine ⟨q1, fun k => ?_⟩
      by_cases ne : b = a
      · rw [ne, setT_same]; exact nofun
      · rw [setT_ne ne]; exact q2 k
    · have nf : t' a ≠ .frz := by rw [h2]; exact nofun
      have nc : ∀ k, t' a ≠ .cell k := fun k => by rw [h2]; exact nofun
      exact ObjAt.dat (fun ob e => by rw [fz_of setT_same]; exact e) (h3.mono (le_retag nf) (rho_retag nc) fun _ h => h)

/-- the heap grows -/
theorem le_grow (l : Le H H') : Le (fz t H) (fz t H') := fun a o h => by
  obtain ⟨h1, h2⟩ := of_fz h
  rw [fz_of h1]
  exact l a o h2
theorem R0.grow (r : R0 K t S H) (l : Le H H') : R0 K t S H' where
  tag := fun a h e => by
    cases q : H a with
    | none => exact r.tag a h q
    | some o => rw [l a o q] at e; cases e
  cel := fun k o h => by
    obtain ⟨b, h1, h2, h3⟩ := r.cel k o h
    exact ⟨b, h1, h2, h3.mono (le_grow l) (fun _ _ h => h) fun o h => l _ o h⟩
  lt := r.lt
  one := r.one
theorem R.grow (r : R K t st σ H) (l : Le H H') : R K t st σ H' where
  r0 := r.r0.grow l
  len := r.len
  env := fun i x h => by
    obtain ⟨v, e, q⟩ := r.env i x h
    refine ⟨v, e, ?_⟩
    cases x with
    | sh d => exact Dat.mono (le_grow l) (fun _ _ h => h) q
    | ow o =>
      obtain ⟨b, e, h1, h2⟩ := q
      exact ⟨b, e, h1, h2.mono (le_grow l) (fun _ _ h => h) fun o h => l _ o h⟩
    | me o =>
      obtain ⟨b, e, h1, h2, hi⟩ := q
      exact ⟨b, e, h1, h2.mono (le_grow l) (fun _ _ h => h) fun o h => l _ o h, hi⟩
theorem Ext.grow (tg : ∀ a, t a ≠ .non → H a ≠ none) (l : Le H H') : Ext t H t H' where
  frz := fun a h => ⟨h, by
    cases q : H a with
    | none => exact absurd q (tg a (by rw [h]; exact nofun))
    | some o => exact l a o q⟩
  cel := fun _ _ h => h
  oth := fun a o h e => ⟨h, l a o e⟩
  slt := fun a i o h e => ⟨l a o e, fun k => by rw [h]; exact nofun⟩
theorem le_upd {a : Addr} {o : HO} (h : H a = none) : Le H (upd H a o) := fun b u e => by rw [upd_ne (ne_of_none e h)]; exact e
theorem R.non (r : R K t st σ H) {a : Addr} (h : H a = none) : t a = .non := by
  by_cases e : t a = .non
  · exact e
  · exact absurd h (r.r0.tag a e)
theorem R0.non (r : R0 K t S H) {a : Addr} (h : H a = none) : t a = .non := by
  by_cases e : t a = .non
  · exact e
  · exact absurd h (r.tag a e)
/-- a new object is laid and frozen -/
theorem R.alloc (r : R K t st σ H) {a : Addr} {o : HO} (h : H a = none) :
    Ext t H (setT t a .frz) (upd H a o) ∧ R K (setT t a .frz) st σ (upd H a o) ∧ fz (setT t a .frz) (upd H a o) a = some o := by
  have n := r.non h
  have r1 := r.grow (le_upd (o := o) h)
  refine ⟨⟨fun b hb => ?_, fun b k hb => ?_, fun b u hb e => ?_, fun b i u hb e => ?_⟩, r1.freeze n (by rw [upd_same]; exact nofun), by rw [fz_of setT_same, upd_same]⟩
  · have ne : b ≠ a := fun e => by rw [e, n] at hb; cases hb
    exact ⟨by rw [setT_ne ne]; exact hb, upd_ne ne⟩
  · have ne : b ≠ a := fun e => by rw [e, n] at hb; cases hb
    rw [setT_ne ne]; exact hb
  · have ne : b ≠ a := fun q => by rw [q, h] at e; cases e
    exact ⟨by rw [setT_ne ne]; exact hb, by rw [upd_ne ne]; exact e⟩
  · have ne : b ≠ a := fun q => by rw [q, h] at e; cases e
    exact ⟨by rw [upd_ne ne]; exact e, fun k => by rw [setT_ne ne, hb]; exact nofun⟩
/-- .. laid, and no one's yet -/
theorem R.laid (r : R K t st σ H) {a : Addr} {o : HO} (h : H a = none) : Ext t H t (upd H a o) ∧ R K t st σ (upd H a o) ∧ t a = .non :=
  ⟨Ext.grow r.r0.tag (le_upd h), r.grow (le_upd h), r.non h⟩
end
end Dn
end

section
set_option maxHeartbeats 4000000
-- Dn3
/-! Dn3: plain results, the one reading of every expression -/
namespace Dn
open PySem PySem.Spec L2

inductive Out (α : Type) where
  | ok (a : α) (st : DSt)
  | ex (c : Str) (v : D) (st : DSt)
  | no
def Out.bind {α β : Type} : Out α → (α → DSt → Out β) → Out β
  | .ok a st, f => f a st
  | .ex c v st, _ => .ex c v st
  | .no, _ => .no
abbrev DE := DSt → Out RV
abbrev DZ := DSt → Out D
def frz (g : DE) : DZ := fun st => (g st).bind fun r st => .ok r.fz st

/-- an exception's own dict -/
def ExAt (K : PySem.W.Frag) (t : Tags) (H : Hp) (d : Addr) (x : D) : Prop := ∃ u, H d = some (.xd [("value", u)]) ∧ t d = .frz ∧ Dat K (fz t H) (rho t) x u

/-- what a value says, the outermost object perhaps still one's own -/
def NC (t : Tags) (a : Addr) : Prop := ∀ k, t a ≠ .cell k
def Vw (K : PySem.W.Frag) (t : Tags) (H : Hp) : D → V → Prop
  | .non, v => v = .non
  | .bl b, v => v = .bl b
  | .int i, v => v = .int i
  | .str x, v => v = .str x
  | .tup xs, v => ∃ a vs, v = .ref a ∧ SqT K (fz t H) a vs ∧ Dats K (fz t H) (rho t) xs vs
  | .lst xs, v => ∃ a vs, v = .ref a ∧ H a = some (.lst vs) ∧ NC t a ∧ Dats K (fz t H) (rho t) xs vs
  | .dct kvs, v => ∃ a ks, v = .ref a ∧ Rd H a (.dK ks) ∧ NC t a ∧ Datk K (fz t H) (rho t) kvs ks
  | .ins c fs, v => ∃ a dx us, v = .ref a ∧ H a = some (.ins (He.ga K c) dx us) ∧ NC t a ∧ Datf K (fz t H) (rho t) fs us
  | .slt c xs, v => ∃ a dx us, v = .ref a ∧ H a = some (SlX.SlO a (He.ga K c) dx us) ∧ fz t H dx = some (.xd []) ∧ NC t a ∧ Dato K (fz t H) (rho t) xs us
  | .nul, _ => False
  | .exc c x, v => Dat K (fz t H) (rho t) (.exc c x) v
  | .cell k, v => Dat K (fz t H) (rho t) (.cell k) v
  | .scr ns, v => ∃ a, v = .ref a ∧ SqL K (fz t H) a (ns.map V.int)
theorem nc_frz {t : Tags} {a : Addr} (h : t a = .frz) : NC t a := fun k => by rw [h]; exact nofun
theorem Vw.of {K : PySem.W.Frag} {t : Tags} {H : Hp} {d : D} {v : V} (h : Dat K (fz t H) (rho t) d v) : Vw K t H d v := by
  cases d with
  | exc c x => exact h
  | cell k => exact h
  | lst xs =>
    rw [Dat] at h
    obtain ⟨a, vs, e, s, m⟩ := h
    exact ⟨a, vs, e, (of_fz s).2, nc_frz (of_fz s).1, m⟩
  | dct kvs =>
    rw [Dat] at h
    obtain ⟨a, ks, e, s, m⟩ := h
    rcases s with s | ⟨o, s⟩
    · exact ⟨a, ks, e, .inl (of_fz s).2, nc_frz (of_fz s).1, m⟩
    · exact ⟨a, ks, e, .inr ⟨o, (of_fz s).2⟩, nc_frz (of_fz s).1, m⟩
  | ins c fs =>
    rw [Dat] at h
    obtain ⟨a, dx, us, e, s, m⟩ := h
    exact ⟨a, dx, us, e, (of_fz s).2, nc_frz (of_fz s).1, m⟩
  | slt c xs =>
    rw [Dat] at h
    obtain ⟨a, dx, us, e, s, s2, m⟩ := h
    exact ⟨a, dx, us, e, (of_fz s).2, s2, nc_frz (of_fz s).1, m⟩
  | _ => rw [Dat] at h; exact h
theorem Ext.dats' {K : PySem.W.Frag} {t t1 : Tags} {H H1 : Hp} (a : Ext t H t1 H1) {d : List D} {v : List V} (h : Dats K (fz t H) (rho t) d v) : Dats K (fz t1 H1) (rho t1) d v := h.mono a.le a.rh
/-- what is no cell's stays -/
theorem Ext.keep {t t1 : Tags} {H H1 : Hp} (E : Ext t H t1 H1) {a : Addr} {o : HO} (n : NC t a) (h : H a = some o) : H1 a = some o ∧ NC t1 a := by
  cases q : t a with
  | non =>
    obtain ⟨h2, e2⟩ := E.oth a o q h
    exact ⟨e2, fun k => by rw [h2]; exact nofun⟩
  | frz =>
    obtain ⟨h2, e2⟩ := E.frz a q
    exact ⟨e2.trans h, nc_frz h2⟩
  | cell k => exact absurd q (n k)
  | slot j => exact E.slt a j o q h
theorem Vw.step {K : PySem.W.Frag} {t t1 : Tags} {H H1 : Hp} (E : Ext t H t1 H1) {d : D} {v : V} (h : Vw K t H d v) : Vw K t1 H1 d v := by
  cases d with
  | exc c x => exact Ext.dat E h
  | cell k => exact Ext.dat E h
  | tup xs =>
    obtain ⟨a, vs, e, s, m⟩ := h
    exact ⟨a, vs, e, E.le.sqT s, m.mono E.le E.rh⟩
  | scr xs =>
    obtain ⟨a, e, s⟩ := h
    exact ⟨a, e, E.le.sqL s⟩
  | lst xs =>
    obtain ⟨a, vs, e, s, n, m⟩ := h
    obtain ⟨s1, n1⟩ := E.keep n s
    exact ⟨a, vs, e, s1, n1, m.mono E.le E.rh⟩
  | dct kvs =>
    obtain ⟨a, ks, e, s, n, m⟩ := h
    rcases s with s | ⟨o, s⟩
    · obtain ⟨s1, n1⟩ := E.keep n s
      exact ⟨a, ks, e, .inl s1, n1, m.mono E.le E.rh⟩
    · obtain ⟨s1, n1⟩ := E.keep n s
      exact ⟨a, ks, e, .inr ⟨o, s1⟩, n1, m.mono E.le E.rh⟩
  | ins c fs =>
    obtain ⟨a, dx, us, e, s, n, m⟩ := h
    obtain ⟨s1, n1⟩ := E.keep n s
    exact ⟨a, dx, us, e, s1, n1, m.mono E.le E.rh⟩
  | slt c xs =>
    obtain ⟨a, dx, us, e, s, s2, n, m⟩ := h
    obtain ⟨s1, n1⟩ := E.keep n s
    exact ⟨a, dx, us, e, s1, E.le _ _ s2, n1, m.mono E.le E.rh⟩
  | _ => exact h
theorem Vw.obj {K : PySem.W.Frag} {t : Tags} {H : Hp} {a : Addr} (n : NC t a) : ∀ {o : OD}, ObjAt K (fz t H) (rho t) H a o → Vw K t H o.fz (.ref a)
  | .lst _, ⟨vs, h, m⟩ => ⟨a, vs, rfl, h, n, m⟩
  | .dct _, ⟨ks, h, m⟩ => ⟨a, ks, rfl, .inl h, n, m⟩
  | .ins _ _, ⟨dx, us, h, m⟩ => ⟨a, dx, us, rfl, h, n, m⟩
  | .slt _ _, ⟨dx, us, h, h2, m⟩ => ⟨a, dx, us, rfl, h, h2, n, m⟩

/-- what is wanted of a result -/
abbrev RP (α : Type) := Tags → Hp → Tags → Hp → α → V → Prop
def Res {α : Type} (K : PySem.W.Frag) (W : WX) (σ : L2.St) (Q : VK) (P : RP α) (t : Tags) (H : Hp) : Out α → Prop
  | .ok r st' => ∀ t' H' v, Ext t H t' H' → R K t' st' σ H' → P t H t' H' r v → Q v H'
  | .ex c x st' => ∀ t' H' d, Ext t H t' H' → R K t' st' σ H' → ExAt K t' H' d x → W (.ref (He.ga K c)) (some d) σ H'
  | .no => False
def tG {α : Type} (K : PySem.W.Frag) (W : WX) (g : DSt → Out α) (P : RP α) : TE := fun σ H Q => ∃ t st, R K t st σ H ∧ Res K W σ Q P t H (g st)
def PZ (K : PySem.W.Frag) : RP D := fun _ _ t' H' d v => Dat K (fz t' H') (rho t') d v
def PV (K : PySem.W.Frag) : RP D := fun _ _ t' H' d v => Vw K t' H' d v
def tV (K : PySem.W.Frag) (W : WX) (g : DZ) : TE := tG K W g (PV K)
def tD (K : PySem.W.Frag) (W : WX) (g : DE) : TE := tG K W g (IsRV K)
def tZ (K : PySem.W.Frag) (W : WX) (g : DZ) : TE := tG K W g (PZ K)
/-- a want that may be told from an elder start -/
def Sta {α : Type} (P : RP α) : Prop := ∀ t H t1 H1 t' H' r v, ExtW t H t1 H1 → P t1 H1 t' H' r v → P t H t' H' r v
theorem sta_rv {K : PySem.W.Frag} : Sta (IsRV K) := fun t H t1 H1 t' H' r v E h => by
  cases r with
  | sh d => exact h
  | me o => exact h.elim
  | ow o =>
    obtain ⟨a, e, h1, h2⟩ := h
    refine ⟨a, e, fun n => ?_, h2⟩
    cases q : H a with
    | none => rfl
    | some u =>
      obtain ⟨n1, e1⟩ := E.oth a u n q
      rw [h1 n1] at e1; cases e1
theorem sta_z {K : PySem.W.Frag} : Sta (PZ K) := fun _ _ _ _ _ _ _ _ _ h => h
theorem Res.step {α : Type} {K : PySem.W.Frag} {W : WX} {σ : L2.St} {Q : VK} {P : RP α} {t t1 : Tags} {H H1 : Hp} (sp : Sta P) (E : Ext t H t1 H1) : ∀ {o : Out α}, Res K W σ Q P t H o → Res K W σ Q P t1 H1 o
  | .ok r st', h => fun t' H' v E' R' p => h t' H' v (E.trans E') R' (sp _ _ _ _ _ _ _ _ E.w p)
  | .ex c x st', h => fun t' H' d E' R' p => h t' H' d (E.trans E') R' p
  | .no, h => h
/-- one part of an expression first -/
theorem tG_at {α β : Type} {K : PySem.W.Frag} {W : WX} {σ : L2.St} {t : Tags} {H : Hp} {Q Q1 : VK} {P : RP β} {P1 : RP α} {st : DSt} {g : DSt → Out α} {f : α → DSt → Out β} (r : R K t st σ H)
    (h : Res K W σ Q P t H ((g st).bind f))
    (k : ∀ t1 st1 H1 a v, Ext t H t1 H1 → R K t1 st1 σ H1 → P1 t H t1 H1 a v → Res K W σ Q P t H (f a st1) → Q1 v H1) : tG K W g P1 σ H Q1 := by
  refine ⟨t, st, r, ?_⟩
  cases e : g st with
  | no => rw [e] at h; exact h
  | ex c x st' => rw [e] at h; exact h
  | ok a st' =>
    rw [e] at h
    exact fun t1 H1 v E1 R1 p1 => k t1 st' H1 a v E1 R1 p1 h
/-- frozen -/
theorem tZ_of {K : PySem.W.Frag} {W : WX} {g : DE} {σ : L2.St} {H : Hp} {Q : VK} (h : tZ K W (frz g) σ H Q) : tD K W g σ H Q := by
  obtain ⟨t, st, r, h⟩ := h
  refine tG_at (P1 := IsRV K) r h fun t1 st1 H1 a v E1 R1 p1 q => ?_
  obtain ⟨t2, E2, R2, d2⟩ := IsRV.freeze E1 R1 p1
  exact q t2 H1 v E2 R2 d2
theorem Vw.rv {K : PySem.W.Frag} {t0 t : Tags} {H0 H : Hp} : ∀ {r : RV} {v : V}, IsRV K t0 H0 t H r v → Vw K t H r.fz v
  | .sh d, v, h => Vw.of h
  | .ow o, v, ⟨a, e, _, h2, h3⟩ => by subst e; exact Vw.obj (fun k => by rw [h2]; exact nofun) h3
theorem tV_of {K : PySem.W.Frag} {W : WX} {g : DE} {σ : L2.St} {H : Hp} {Q : VK} (h : tV K W (frz g) σ H Q) : tD K W g σ H Q := by
  obtain ⟨t, st, r, h⟩ := h
  exact tG_at (P1 := IsRV K) r h fun t1 st1 H1 a v E1 R1 p1 q => q t1 H1 v E1 R1 (Vw.rv p1)
theorem PE.imp {X : Cx} {e : Expr} {t t' : TE} (h : PE X e t) (i : ∀ σ H Q, t' σ H Q → t σ H Q) : PE X e t' := ⟨fun pins s σ H Q I q => h.run pins s σ H Q I (i σ H Q q)⟩
theorem peZ {X : Cx} {W : WX} {e : Expr} {g : DE} (h : PE X e (tD X.K W g)) : PE X e (tZ X.K W (frz g)) := PE.imp h fun _ _ _ q => tZ_of q
theorem peV {X : Cx} {W : WX} {e : Expr} {g : DE} (h : PE X e (tD X.K W g)) : PE X e (tV X.K W (frz g)) := PE.imp h fun _ _ _ q => tV_of q
/-- a name that is looked at -/
def gN (i : Nat) : DZ := fun st => match st.env[i]? with
  | some (some (.sh d)) => .ok d st
  | some (some (.ow o)) => .ok o.fz st
  | _ => .no
theorem gN_of {K : PySem.W.Frag} {W : WX} {i : Nat} {σ : L2.St} {H : Hp} {Q : VK} (h : tV K W (gN i) σ H Q) : tVar i σ H Q := by
  obtain ⟨t, st, r, q⟩ := h
  unfold gN at q
  cases e : st.env[i]? with
  | none => rw [e] at q; exact q.elim
  | some o =>
    cases o with
    | none => rw [e] at q; exact q.elim
    | some x =>
      rw [e] at q
      obtain ⟨v, ev, sl⟩ := r.env i x e
      cases x with
      | me o => exact q.elim
      | sh d => exact ⟨v, ev, q t H v (Ext.refl t H) r (Vw.of sl)⟩
      | ow ob =>
        refine ⟨v, ev, q t H v (Ext.refl t H) r ?_⟩
        obtain ⟨p, rfl, h1, h2⟩ := sl
        exact Vw.obj (fun k => by rw [h1]; exact nofun) h2
theorem pv_var {X : Cx} {W : WX} {i : Nat} {x : Str} {pos : Pos} (hN : X.N[i]? = some x) (hv : Vis X.env.scope x) (hd : (x == ("__debug__" : Str)) = false) (hcd : (x == ("__classdict__" : Str)) = false) : PE X (.Name x pos) (tV X.K W (gN i)) :=
  PE.imp (pe_var hN hv hd hcd) fun _ _ _ h => gN_of h
/-- shared data as a result -/
def shd (g : DZ) : DE := fun st => (g st).bind fun d st => .ok (.sh d) st

/-! ### a part that only lays new things -/
structure Grow (K : PySem.W.Frag) (t : Tags) (H : Hp) (t' : Tags) (H' : Hp) : Prop where
  ext : Ext t H t' H'
  st : ∀ st σ, R K t st σ H → R K t' st σ H'
theorem Grow.refl {K : PySem.W.Frag} {t : Tags} {H : Hp} : Grow K t H t H := ⟨Ext.refl t H, fun _ _ r => r⟩
theorem Grow.trans {K : PySem.W.Frag} {t t1 t2 : Tags} {H H1 H2 : Hp} (a : Grow K t H t1 H1) (b : Grow K t1 H1 t2 H2) : Grow K t H t2 H2 := ⟨a.ext.trans b.ext, fun st σ r => b.st st σ (a.st st σ r)⟩
def TagOk (t : Tags) (H : Hp) : Prop := ∀ a, t a ≠ .non → H a ≠ none
theorem grow_upd {K : PySem.W.Frag} {t : Tags} {H : Hp} {a : Addr} {o : HO} (tg : TagOk t H) (h : H a = none) : Grow K t H t (upd H a o) ∧ t a = .non := by
  refine ⟨⟨Ext.grow tg (le_upd h), fun st σ r => r.grow (le_upd h)⟩, ?_⟩
  by_cases e : t a = .non
  · exact e
  · exact absurd h (tg a e)
/-- a result by values alone -/
def RO (K : PySem.W.Frag) (t : Tags) (H : Hp) (Q : VK) : Option RV → Prop
  | some r => ∀ t' H' v, Grow K t H t' H' → IsRV K t H t' H' r v → Q v H'
  | none => False
def opt (r : Option RV) (st : DSt) : Out RV := match r with
  | some r => .ok r st
  | none => .no
/-- two values in -/
def rF (K : PySem.W.Frag) (f : D → D → Option RV) : R2 := fun x y H Q => ∃ t a b, TagOk t H ∧ Vw K t H a x ∧ Vw K t H b y ∧ RO K t H Q (f a b)
def gBin (f : D → D → Option RV) (ga gb : DZ) : DE := fun st => (ga st).bind fun a st => (gb st).bind fun b st => opt (f a b) st
theorem res_opt {K : PySem.W.Frag} {W : WX} {σ : L2.St} {Q : VK} {t : Tags} {H : Hp} {st : DSt} (r : R K t st σ H) {o : Option RV} (h : Res K W σ Q (IsRV K) t H (opt o st)) : RO K t H Q o := by
  cases o with
  | none => exact h
  | some x => exact fun t' H' v G p => h t' H' v G.ext (G.st _ _ r) p
theorem bin_of {K : PySem.W.Frag} {W : WX} {f : D → D → Option RV} {ga gb : DZ} {σ : L2.St} {H : Hp} {Q : VK} (h : tD K W (gBin f ga gb) σ H Q) : tOp (rF K f) (tV K W ga) (tV K W gb) σ H Q := by
  obtain ⟨t, st, r, h⟩ := h
  refine tG_at r h fun t1 st1 H1 a x E1 R1 p1 q1 => ?_
  refine tG_at R1 (q1.step sta_rv E1) fun t2 st2 H2 b y E2 R2 p2 q2 => ?_
  exact ⟨t2, a, b, R2.r0.tag, Vw.step E2 p1, p2, res_opt R2 (q2.step sta_rv E2)⟩
theorem de_bin {X : Cx} {W : WX} {op : Operator} {f : D → D → Option RV} {a b : Expr} {ga gb : DZ} {pos : Pos} (ho : OpR X (binaryOp op) (rF X.K f)) (ha : PE X a (tV X.K W ga)) (hb : PE X b (tV X.K W gb)) : PE X (.BinOp a op b pos) (tD X.K W (gBin f ga gb)) :=
  PE.imp (pe_op ho ha hb) fun _ _ _ h => bin_of h
theorem de_cmp {X : Cx} {W : WX} {op : CmpOp} {f : D → D → Option RV} {a b : Expr} {ga gb : DZ} {pos : Pos} (ho : OpR X (compareOp op) (rF X.K f)) (ha : PE X a (tV X.K W ga)) (hb : PE X b (tV X.K W gb)) (hm : behindInMarks op b = false) :
    PE X (.Compare a [op] [b] pos) (tD X.K W (gBin f ga gb)) :=
  PE.imp (pe_cmpR ho ha hb hm) fun _ _ _ h => bin_of h
end Dn
end

section
set_option maxHeartbeats 4000000
-- Dn4
/-! Dn4: constants, names, tests, and | or, argument lists, displays -/
namespace Dn
open PySem PySem.Spec L2
section
variable {X : Cx} {W : WX} {e a b c : Expr} {ga gb gc : DE} {pos : Pos}

/-! ### constants and names -/
def gC (d : D) : DE := fun st => .ok (.sh d) st
theorem de_const {v : V} {d : D} (h : PE X e (tC v)) (hd : ∀ F r, Dat X.K F r d v) : PE X e (tD X.K W (gC d)) :=
  PE.imp h fun σ H Q ⟨t, st, r, q⟩ => q t H v (Ext.refl t H) r (hd _ _)
theorem de_int {i : Int} {j : Nat} : PE X (.Constant (.int i) j pos) (tD X.K W (gC (.int i))) := de_const pe_int fun _ _ => by rw [Dat]
theorem de_bl {i : Bool} {j : Nat} : PE X (.Constant (.bool i) j pos) (tD X.K W (gC (.bl i))) := de_const pe_bl fun _ _ => by rw [Dat]
theorem de_non {j : Nat} : PE X (.Constant .none j pos) (tD X.K W (gC .non)) := de_const pe_non fun _ _ => by rw [Dat]
theorem de_str {x : Str} {j : Nat} : PE X (.Constant (.str x) j pos) (tD X.K W (gC (.str x))) := de_const pe_str fun _ _ => by rw [Dat]
/-- a local name: what is one's own is frozen when it is read -/
def gV (i : Nat) : DE := fun st => match st.env[i]? with
  | some (some (.sh d)) => .ok (.sh d) st
  | some (some (.ow o)) => .ok (.sh o.fz) { st with env := st.env.set i (some (.sh o.fz)) }
  | _ => .no
theorem gV_of {K : PySem.W.Frag} {i : Nat} {σ : L2.St} {H : Hp} {Q : VK} (h : tD K W (gV i) σ H Q) : tVar i σ H Q := by
  obtain ⟨t, st, r, q⟩ := h
  unfold gV at q
  cases e : st.env[i]? with
  | none => rw [e] at q; exact q.elim
  | some o =>
    cases o with
    | none => rw [e] at q; exact q.elim
    | some x =>
      obtain ⟨v, ev, sl⟩ := r.env i x e
      refine ⟨v, ev, ?_⟩
      cases x with
      | me o => rw [e] at q; exact q.elim
      | sh d =>
        rw [e] at q
        exact q t H v (Ext.refl t H) r sl
      | ow ob =>
        rw [e] at q
        obtain ⟨p, rfl, h1, h2⟩ := sl
        have nf : t p ≠ .frz := by rw [h1]; exact nofun
        have nc : ∀ k, t p ≠ .cell k := fun k => by rw [h1]; exact nofun
        have dd : Dat K (fz (setT t p .frz) H) (rho (setT t p .frz)) ob.fz (.ref p) :=
          ObjAt.dat (fun ob e => by rw [fz_of setT_same]; exact e) (h2.mono (le_retag nf) (rho_retag nc) fun _ h => h)
        refine q (setT t p .frz) H (.ref p) ⟨fun b hb => ?_, fun b k hb => ?_, fun b u hb eb => ?_, fun b j u hb eb => ⟨eb, fun k => ?_⟩⟩ ⟨r.r0.freeze nf nc h2.there, by simpa using r.len, fun j y ej => ?_⟩ dd
        · have ne : b ≠ p := fun z => nf (z ▸ hb)
          exact ⟨by rw [setT_ne ne]; exact hb, rfl⟩
        · have ne : b ≠ p := fun z => nc k (z ▸ hb)
          rw [setT_ne ne]; exact hb
        · have ne : b ≠ p := fun z => by rw [z, h1] at hb; cases hb
          exact ⟨by rw [setT_ne ne]; exact hb, eb⟩
        · by_cases ne : b = p
          · rw [ne, setT_same]; exact nofun
          · rw [setT_ne ne, hb]; exact nofun
        · by_cases hj : i = j
          · subst hj
            have hl : i < st.env.length := (List.getElem?_eq_some_iff.mp e).1
            have ej : (st.env.set i (some (.sh ob.fz)))[i]? = some (some y) := ej
            rw [List.getElem?_set_self hl] at ej
            cases ej
            exact ⟨.ref p, ev, dd⟩
          · have ej : (st.env.set i (some (.sh ob.fz)))[j]? = some (some y) := ej
            rw [List.getElem?_set_ne hj] at ej
            obtain ⟨w, ew, sw⟩ := r.env j y ej
            exact ⟨w, ew, sw.freeze nf nc (fun z => hj (by rw [h1] at z; injection z))⟩
theorem de_var {i : Nat} {x : Str} (hN : X.N[i]? = some x) (hv : Vis X.env.scope x) (hd : (x == ("__debug__" : Str)) = false) (hcd : (x == ("__classdict__" : Str)) = false) : PE X (.Name x pos) (tD X.K W (gV i)) :=
  PE.imp (pe_var hN hv hd hcd) fun _ _ _ h => gV_of h
/-- a module's constant -/
theorem de_glob {x : Str} {v : V} {u : Value} {d : D} (hg : Gl X x) (hm : X.mg x = some u) (r : RelV v u) (hd : ∀ F r, Dat X.K F r d v) (hdb : (x == ("__debug__" : Str)) = false) : PE X (.Name x pos) (tD X.K W (gC d)) :=
  de_const (pe_glob hg hm r hdb) hd

/-! ### tests -/
abbrev DT := DSt → Out Bool
def ResT (K : PySem.W.Frag) (W : WX) (σ : L2.St) (Q : Bool → Hp → Prop) (t : Tags) (H : Hp) : Out Bool → Prop
  | .ok b st' => ∀ t' H', Ext t H t' H' → R K t' st' σ H' → Q b H'
  | .ex c x st' => ∀ t' H' d, Ext t H t' H' → R K t' st' σ H' → ExAt K t' H' d x → W (.ref (He.ga K c)) (some d) σ H'
  | .no => False
def tT (K : PySem.W.Frag) (W : WX) (g : DT) : TT := fun σ H Q => ∃ t st, R K t st σ H ∧ ResT K W σ Q t H (g st)
theorem ResT.step {K : PySem.W.Frag} {W : WX} {σ : L2.St} {Q : Bool → Hp → Prop} {t t1 : Tags} {H H1 : Hp} (E : Ext t H t1 H1) : ∀ {o : Out Bool}, ResT K W σ Q t H o → ResT K W σ Q t1 H1 o
  | .ok r st', h => fun t' H' E' R' => h t' H' (E.trans E') R'
  | .ex c x st', h => fun t' H' d E' R' p => h t' H' d (E.trans E') R' p
  | .no, h => h
/-- a part of a test first -/
theorem tG_atT {α : Type} {K : PySem.W.Frag} {W : WX} {σ : L2.St} {t : Tags} {H : Hp} {Q : Bool → Hp → Prop} {Q1 : VK} {P1 : RP α} {st : DSt} {g : DSt → Out α} {f : α → DSt → Out Bool} (r : R K t st σ H)
    (h : ResT K W σ Q t H ((g st).bind f))
    (k : ∀ t1 st1 H1 a v, Ext t H t1 H1 → R K t1 st1 σ H1 → P1 t H t1 H1 a v → ResT K W σ Q t H (f a st1) → Q1 v H1) : tG K W g P1 σ H Q1 := by
  refine ⟨t, st, r, ?_⟩
  cases e : g st with
  | no => rw [e] at h; exact h
  | ex c x st' => rw [e] at h; exact h
  | ok a st' =>
    rw [e] at h
    exact fun t1 H1 v E1 R1 p1 => k t1 st' H1 a v E1 R1 p1 h
/-- a test first, then an expression -/
theorem tT_at {β : Type} {K : PySem.W.Frag} {W : WX} {σ : L2.St} {t : Tags} {H : Hp} {Q : VK} {Q1 : Bool → Hp → Prop} {P : RP β} {st : DSt} {g : DT} {f : Bool → DSt → Out β} (r : R K t st σ H)
    (h : Res K W σ Q P t H ((g st).bind f))
    (k : ∀ t1 st1 H1 b, Ext t H t1 H1 → R K t1 st1 σ H1 → Res K W σ Q P t H (f b st1) → Q1 b H1) : tT K W g σ H Q1 := by
  refine ⟨t, st, r, ?_⟩
  cases e : g st with
  | no => rw [e] at h; exact h
  | ex c x st' => rw [e] at h; exact h
  | ok a st' =>
    rw [e] at h
    exact fun t1 H1 E1 R1 => k t1 st' H1 a E1 R1 h
theorem tT_atT {K : PySem.W.Frag} {W : WX} {σ : L2.St} {t : Tags} {H : Hp} {Q Q1 : Bool → Hp → Prop} {st : DSt} {g : DT} {f : Bool → DSt → Out Bool} (r : R K t st σ H)
    (h : ResT K W σ Q t H ((g st).bind f))
    (k : ∀ t1 st1 H1 b, Ext t H t1 H1 → R K t1 st1 σ H1 → ResT K W σ Q t H (f b st1) → Q1 b H1) : tT K W g σ H Q1 := by
  refine ⟨t, st, r, ?_⟩
  cases e : g st with
  | no => rw [e] at h; exact h
  | ex c x st' => rw [e] at h; exact h
  | ok a st' =>
    rw [e] at h
    exact fun t1 H1 E1 R1 => k t1 st' H1 a E1 R1 h
theorem PT.imp {e : Expr} {t t' : TT} (h : PT X e t) (i : ∀ σ H Q, t' σ H Q → t σ H Q) : PT X e t' := ⟨fun pins s σ H Q I q => h.run pins s σ H Q I (i σ H Q q)⟩
theorem PW.imp {e : Expr} {t t' : TT} (h : PW X e t) (i : ∀ σ H Q, t' σ H Q → t σ H Q) : PW X e t' := ⟨fun wh pins s σ H Q I q => h.run wh pins s σ H Q I (i σ H Q q)⟩
def asB : D → Option Bool
  | .bl b => some b
  | _ => none
def gTest (f : D → Option Bool) (g : DZ) : DT := fun st => (g st).bind fun d st => match f d with
  | some b => .ok b st
  | none => .no
/-- a comparison's bool as a test -/
theorem dt_cmp {za zb : DZ} {op : CmpOp} {f : D → D → Option RV} (ho : OpR X (compareOp op) (rF X.K f)) (ha : PE X a (tV X.K W za)) (hb : PE X b (tV X.K W zb)) (hm : behindInMarks op b = false) :
    PT X (.Compare a [op] [b] pos) (tT X.K W (gTest asB (frz (gBin f za zb)))) := by
  refine PT.imp (pt_cmpR ho ha hb hm) fun σ H Q ⟨t, st, r, h⟩ => ?_
  refine bin_of (W := W) (f := f) ?_
  refine tZ_of ?_
  refine tG_atT r h fun t1 st1 H1 d v E1 R1 p1 q1 => ?_
  cases d with
  | bl k =>
    have p1 : Dat X.K (fz t1 H1) (rho t1) (.bl k) v := p1
    rw [Dat] at p1
    exact ⟨k, p1, q1 t1 H1 E1 R1⟩
  | _ => exact q1.elim
def truD : D → Option Bool
  | .non => some false
  | .bl b => some b
  | .int i => some (i != 0)
  | .lst xs => some (!xs.isEmpty)
  | .tup xs => some (!xs.isEmpty)
  | _ => none
theorem Dats.length {K : PySem.W.Frag} {F : Hp} {r : Nat → Addr → Prop} : ∀ {ds : List D} {vs : List V}, Dats K F r ds vs → ds.length = vs.length
  | [], vs, h => by rw [Dats] at h; rw [h]; rfl
  | d :: ds, vs, h => by
    rw [Dats] at h
    obtain ⟨v, us, rfl, _, m⟩ := h
    simp [Dats.length m]
theorem Dats.isEmpty {K : PySem.W.Frag} {F : Hp} {r : Nat → Addr → Prop} {ds : List D} {vs : List V} (h : Dats K F r ds vs) : ds.isEmpty = vs.isEmpty := by
  have l := h.length
  cases ds <;> cases vs <;> simp at l <;> rfl
theorem fz_le {t : Tags} {H : Hp} : Le (fz t H) H := fun a o h => (of_fz h).2
theorem truV_of {K : PySem.W.Frag} {t : Tags} {H : Hp} {d : D} {v : V} {k : Bool} (h : Vw K t H d v) (e : truD d = some k) : TruV K v H k := by
  cases d with
  | non => cases h; cases e; rfl
  | bl b => cases h; cases e; rfl
  | int i => cases h; cases e; rfl
  | lst xs =>
    obtain ⟨a, vs, rfl, s, _, m⟩ := h
    cases e
    exact .inl ⟨vs, SqL.of s, by rw [m.isEmpty]⟩
  | tup xs =>
    obtain ⟨a, vs, rfl, s, m⟩ := h
    cases e
    exact .inr (.inl ⟨vs, fz_le.sqT s, by rw [m.isEmpty]⟩)
  | _ => cases e
/-- any other expression's truth -/
theorem dt_truth {za : DZ} (ha : PE X a (tV X.K W za)) (he : ∀ whole, isTrue a X.env whole = (do let v ← whole; standAt a.pos; holding [v] (truthy v))) : PT X a (tT X.K W (gTest truD za)) := by
  refine PT.imp (pt_truth ha he) fun σ H Q ⟨t, st, r, h⟩ => ?_
  refine tG_atT r h fun t1 st1 H1 d v E1 R1 p1 q1 => ?_
  cases e : truD d with
  | none => rw [e] at q1; exact q1.elim
  | some k =>
    rw [e] at q1
    exact ⟨k, truV_of p1 e, q1 t1 H1 E1 R1⟩
def gNotT (g : DT) : DT := fun st => (g st).bind fun b st => .ok (!b) st
theorem dt_not {ta : DT} (ha : PT X a (tT X.K W ta)) : PT X (.UnaryOp .Not a pos) (tT X.K W (gNotT ta)) := by
  refine PT.imp (pt_not ha) fun σ H Q ⟨t, st, r, h⟩ => ?_
  exact tT_atT r h fun t1 st1 H1 b E1 R1 q => q t1 H1 E1 R1
def gAndT (g h : DT) : DT := fun st => (g st).bind fun b st => if b = true then h st else .ok false st
def gOrT (g h : DT) : DT := fun st => (g st).bind fun b st => if b = true then .ok true st else h st
theorem and_of {ta tb : DT} {σ : L2.St} {H : Hp} {Q : Bool → Hp → Prop} (h : tT X.K W (gAndT ta tb) σ H Q) : tAnd (tT X.K W ta) (tT X.K W tb) σ H Q := by
  obtain ⟨t, st, r, h⟩ := h
  refine tT_atT r h fun t1 st1 H1 b E1 R1 q => ?_
  cases b with
  | true => exact ⟨t1, st1, R1, q.step E1⟩
  | false => exact q t1 H1 E1 R1
theorem or_of {ta tb : DT} {σ : L2.St} {H : Hp} {Q : Bool → Hp → Prop} (h : tT X.K W (gOrT ta tb) σ H Q) : tOr (tT X.K W ta) (tT X.K W tb) σ H Q := by
  obtain ⟨t, st, r, h⟩ := h
  refine tT_atT r h fun t1 st1 H1 b E1 R1 q => ?_
  cases b with
  | false => exact ⟨t1, st1, R1, q.step E1⟩
  | true => exact q t1 H1 E1 R1
/-- and | or of several, as tests -/
def gAnds : DT → List DT → DT
  | g, [] => g
  | g, h :: r => gAndT g (gAnds h r)
def gOrs : DT → List DT → DT
  | g, [] => g
  | g, h :: r => gOrT g (gOrs h r)
inductive PTl (X : Cx) (W : WX) : List Expr → List DT → Prop where
  | nil : PTl X W [] []
  | cons {e : Expr} {es : List Expr} {g : DT} {gs : List DT} (h : PT X e (tT X.K W g)) (r : PTl X W es gs) : PTl X W (e :: es) (g :: gs)
theorem dw_ands : ∀ {es : List Expr} {gs : List DT} {e : Expr} {g : DT}, PT X e (tT X.K W g) → PTl X W es gs → PW X (.BoolOp .And (e :: es) pos) (tT X.K W (gAnds g gs))
  | [], _, e, g, h, .nil => pw_and1 h
  | _ :: es, _, e, g, h, .cons h2 r => PW.imp (pw_and h (dw_ands h2 r)) fun _ _ _ q => and_of q
theorem dw_ors : ∀ {es : List Expr} {gs : List DT} {e : Expr} {g : DT}, PT X e (tT X.K W g) → PTl X W es gs → PW X (.BoolOp .Or (e :: es) pos) (tT X.K W (gOrs g gs))
  | [], _, e, g, h, .nil => pw_or1 h
  | _ :: es, _, e, g, h, .cons h2 r => PW.imp (pw_or h (dw_ors h2 r)) fun _ _ _ q => or_of q

/-! ### as values -/
def gNot (g : DE) : DE := fun st => (frz g st).bind fun d st => match d with
  | .bl b => .ok (.sh (.bl (!b))) st
  | _ => .no
theorem de_not (ha : PE X a (tD X.K W ga)) : PE X (.UnaryOp .Not a pos) (tD X.K W (gNot ga)) := by
  refine PE.imp (pe_not (peZ ha)) fun σ H Q ⟨t, st, r, h⟩ => ?_
  refine tG_at r h fun t1 st1 H1 d v E1 R1 p1 q1 => ?_
  cases d with
  | bl k =>
    have p1 : Dat X.K (fz t1 H1) (rho t1) (.bl k) v := p1
    rw [Dat] at p1
    exact ⟨k, p1, q1 t1 H1 (.bl !k) E1 R1 (by show Dat _ _ _ _ _; rw [Dat])⟩
  | _ => exact q1.elim
def gAnd (g h : DE) : DE := fun st => (frz g st).bind fun d st => match d with
  | .bl true => h st
  | .bl false => .ok (.sh (.bl false)) st
  | _ => .no
def gOr (g h : DE) : DE := fun st => (frz g st).bind fun d st => match d with
  | .bl true => .ok (.sh (.bl true)) st
  | .bl false => h st
  | _ => .no
def gAndL : DE → List DE → DE
  | g, [] => g
  | g, h :: r => gAnd g (gAndL h r)
def gOrL : DE → List DE → DE
  | g, [] => g
  | g, h :: r => gOr g (gOrL h r)
inductive PEl (X : Cx) (W : WX) : List Expr → List DE → Prop where
  | nil : PEl X W [] []
  | cons {e : Expr} {es : List Expr} {g : DE} {gs : List DE} (h : PE X e (tD X.K W g)) (r : PEl X W es gs) : PEl X W (e :: es) (g :: gs)
theorem Res.step0 {K : PySem.W.Frag} {W : WX} {σ : L2.St} {Q : VK} {t t1 : Tags} {H H1 : Hp} {o : Out RV} (E : Ext t H t1 H1) (h : Res K W σ Q (IsRV K) t H o) : Res K W σ Q (IsRV K) t1 H1 o := h.step sta_rv E
theorem de_ands : ∀ {es : List Expr} {gs : List DE} {e : Expr} {g : DE}, PE X e (tD X.K W g) → PEl X W es gs → PE X (.BoolOp .And (e :: es) pos) (tD X.K W (gAndL g gs))
  | [], _, e, g, h, .nil => pe_one h
  | _ :: es, _, e, g, h, .cons h2 r => by
    refine PE.imp (pe_and (peZ h) (de_ands h2 r)) fun σ H Q ⟨t, st, r, h⟩ => ?_
    refine tG_at r h fun t1 st1 H1 d v E1 R1 p1 q1 => ?_
    cases d with
    | bl k =>
      have p1 : Dat X.K (fz t1 H1) (rho t1) (.bl k) v := p1
      rw [Dat] at p1
      refine ⟨k, p1, ?_⟩
      cases k with
      | true => exact ⟨t1, st1, R1, Res.step0 E1 q1⟩
      | false => exact q1 t1 H1 (.bl false) E1 R1 (by show Dat _ _ _ _ _; rw [Dat])
    | _ => exact q1.elim
theorem de_ors : ∀ {es : List Expr} {gs : List DE} {e : Expr} {g : DE}, PE X e (tD X.K W g) → PEl X W es gs → PE X (.BoolOp .Or (e :: es) pos) (tD X.K W (gOrL g gs))
  | [], _, e, g, h, .nil => pe_one h
  | _ :: es, _, e, g, h, .cons h2 r => by
    refine PE.imp (pe_or (peZ h) (de_ors h2 r)) fun σ H Q ⟨t, st, r, h⟩ => ?_
    refine tG_at r h fun t1 st1 H1 d v E1 R1 p1 q1 => ?_
    cases d with
    | bl k =>
      have p1 : Dat X.K (fz t1 H1) (rho t1) (.bl k) v := p1
      rw [Dat] at p1
      refine ⟨k, p1, ?_⟩
      cases k with
      | true => exact q1 t1 H1 (.bl true) E1 R1 (by show Dat _ _ _ _ _; rw [Dat])
      | false => exact ⟨t1, st1, R1, Res.step0 E1 q1⟩
    | _ => exact q1.elim
def gIf (c : DT) (g h : DE) : DE := fun st => (c st).bind fun b st => if b = true then g st else h st
theorem de_if {tc : DT} (hc : PT X c (tT X.K W tc)) (ha : PE X a (tD X.K W ga)) (hb : PE X b (tD X.K W gb)) : PE X (.IfExp c a b pos) (tD X.K W (gIf tc ga gb)) := by
  refine PE.imp (pe_ifExp hc ha hb) fun σ H Q ⟨t, st, r, h⟩ => ?_
  refine tT_at r h fun t1 st1 H1 b E1 R1 q => ?_
  cases b with
  | true => exact ⟨t1, st1, R1, Res.step0 E1 q⟩
  | false => exact ⟨t1, st1, R1, Res.step0 E1 q⟩
end
end Dn
end

section
set_option maxHeartbeats 4000000
-- Dn5
/-! Dn5: operators on plain values -/
namespace Dn
open PySem PySem.Spec L2

abbrev lim : Nat := sizeLine
/-! ### what the operators give -/
def addD : D → D → Option RV
  | .int i, .int j => some (.sh (.int (i + j)))
  | .str x, .str y => if x.length + y.length ≤ lim then some (.sh (.str (x ++ y))) else none
  | .lst xs, .lst ys => if xs.length + ys.length ≤ lim then some (.ow (.lst (xs ++ ys))) else none
  | .tup xs, .tup ys => if xs.length + ys.length ≤ lim then some (.sh (.tup (xs ++ ys))) else none
  | _, _ => none
def subD : D → D → Option RV
  | .int i, .int j => some (.sh (.int (i - j)))
  | _, _ => none
def mulD : D → D → Option RV
  | .int i, .int j => if (-(2 ^ 64) < i ∧ i < 2 ^ 64) ∨ (-(2 ^ 64) < j ∧ j < 2 ^ 64) then some (.sh (.int (i * j))) else none
  | .lst xs, .int k => if -(2 ^ 63) ≤ k ∧ k < 2 ^ 63 ∧ xs.length * k.toNat ≤ lim then some (.ow (.lst (List.replicate k.toNat xs).flatten)) else none
  | .tup xs, .int k => if xs ≠ [] ∧ 2 ≤ k ∧ k ≤ 1000 ∧ xs.length ≤ 1000 then some (.sh (.tup (List.replicate k.toNat xs).flatten)) else none
  | _, _ => none
def modD : D → D → Option RV
  | .int i, .int j => if 0 < j then some (.sh (.int (i % j))) else none
  | _, _ => none
def fdivD : D → D → Option RV
  | .int i, .int j => if 0 < j ∧ j < 1073741824 then some (.sh (.int (i / j))) else none
  | _, _ => none
def powD : D → D → Option RV
  | .int i, .int j => if 0 ≤ j ∧ (Builtin.Int.intBits i : Int) * j ≤ 2 ^ 27 then some (.sh (.int (i ^ j.toNat))) else none
  | _, _ => none
def bo (b : Bool) : Option RV := some (.sh (.bl b))
def ltD : D → D → Option RV
  | .int i, .int j => bo (decide (i < j))
  | _, _ => none
def leD : D → D → Option RV
  | .int i, .int j => bo (decide (i ≤ j))
  | _, _ => none
def gtD : D → D → Option RV
  | .int i, .int j => bo (decide (j < i))
  | _, _ => none
def geD : D → D → Option RV
  | .int i, .int j => bo (decide (j ≤ i))
  | _, _ => none
/-- == of single values -/
def eqS : D → D → Option Bool
  | .non, .non => some true
  | .non, .int _ => some false
  | .int _, .non => some false
  | .non, .bl _ => some false
  | .bl _, .non => some false
  | .non, .str _ => some false
  | .str _, .non => some false
  | .int i, .int j => some (decide (i = j))
  | .bl i, .bl j => some (decide (i = j))
  | .str i, .str j => some (decide (i = j))
  | .int _, .str _ => some false
  | .str _, .int _ => some false
  | .bl _, .str _ => some false
  | .str _, .bl _ => some false
  | _, _ => none
mutual
def toP : D → Option PyData
  | .non => some .none
  | .bl b => some (.bool b)
  | .int i => some (.int i)
  | .str x => some (.str x)
  | .lst xs => (toPs xs).map .list
  | .tup xs => (toPs xs).map .tuple
  | _ => none
def toPs : List D → Option (List PyData)
  | [] => some []
  | d :: ds => match toP d, toPs ds with
    | some p, some ps => some (p :: ps)
    | _, _ => none
end
def eqP (a b : D) : Option Bool := match toP a, toP b with
  | some p, some q => if SeqAt.shaped p = true ∧ SeqAt.shaped q = true then some (PyData.eqv p q) else none
  | _, _ => none
def eqB (a b : D) : Option Bool := match eqS a b with
  | some k => some k
  | none => eqP a b
def eqD (a b : D) : Option RV := (eqB a b).map fun k => .sh (.bl k)
def neD (a b : D) : Option RV := (eqB a b).map fun k => .sh (.bl (!k))
def isD : D → D → Option RV
  | .non, .non => bo true
  | .bl _, .non => bo false
  | .int _, .non => bo false
  | .str _, .non => bo false
  | .tup _, .non => bo false
  | .lst _, .non => bo false
  | .dct _, .non => bo false
  | .ins _ _, .non => bo false
  | .slt _ _, .non => bo false
  | .exc _ _, .non => bo false
  | .bl a, .bl b => bo (decide (a = b))
  | _, _ => none
def isntD : D → D → Option RV
  | .non, .non => bo false
  | .bl _, .non => bo true
  | .int _, .non => bo true
  | .str _, .non => bo true
  | .tup _, .non => bo true
  | .lst _, .non => bo true
  | .dct _, .non => bo true
  | .ins _ _, .non => bo true
  | .slt _ _, .non => bo true
  | .exc _ _, .non => bo true
  | .bl a, .bl b => bo (!decide (a = b))
  | _, _ => none
def flatD : D → Bool
  | .non => true
  | .bl _ => true
  | .int _ => true
  | .str _ => true
  | _ => false
def eqF : D → D → Bool
  | .non, .non => true
  | .bl a, .bl b => a == b
  | .bl a, .int b => (if a then 1 else 0) == b
  | .int a, .bl b => a == (if b then 1 else 0)
  | .int a, .int b => a == b
  | .str a, .str b => a == b
  | _, _ => false
def inB : D → D → Option Bool
  | .str x, .str y => some (!(Builtin.Str.occurrences y x 0 y.length 1).isEmpty)
  | d, .lst ys => if flatD d = true ∧ ys.all flatD = true then some (ys.any fun y => eqF y d) else none
  | d, .tup ys => if flatD d = true ∧ ys.all flatD = true then some (ys.any fun y => eqF y d) else none
  | _, _ => none
def inD (a b : D) : Option RV := (inB a b).map fun k => .sh (.bl k)
def notInD (a b : D) : Option RV := (inB a b).map fun k => .sh (.bl (!k))
/-- o[i] -/
def ixD : D → D → Option RV
  | .lst xs, .int i => (atI xs i).map .sh
  | .tup xs, .int i => (atI xs i).map .sh
  | .scr xs, .int i => (atI xs i).map fun j => .sh (.int j)
  | .str x, .int i => if x.length ≤ lim then (atI x.cps.toList i).map fun c => .sh (.str ⟨#[c]⟩) else none
  | _, _ => none

/-! ### the rules -/
section
variable {X : Cx} {K : PySem.W.Frag} {t : Tags} {H : Hp} {Q : VK} {F : Hp} {r : Nat → Addr → Prop}
theorem RO.val {d : D} {v : V} (h : RO K t H Q (some (.sh d))) (e : Dat K (fz t H) (rho t) d v) : Q v H := h t H v Grow.refl e
theorem RO.int {i : Int} (h : RO K t H Q (some (.sh (.int i)))) : Q (.int i) H := h.val (by rw [Dat])
theorem RO.bl {b : Bool} (h : RO K t H Q (bo b)) : Q (.bl b) H := RO.val h (by rw [Dat])
theorem RO.str {x : Str} (h : RO K t H Q (some (.sh (.str x)))) : Q (.str x) H := h.val (by rw [Dat])
/-- a new list of one's own -/
theorem RO.newL {xs : List D} {vs : List V} (tg : TagOk t H) (h : RO K t H Q (some (.ow (.lst xs)))) (m : Dats K (fz t H) (rho t) xs vs) : ∀ p, H p = none → Q (.ref p) (upd H p (.lst vs)) := fun p hp => by
  obtain ⟨g, n⟩ := grow_upd (K := K) (o := .lst vs) tg hp
  exact h t (upd H p (.lst vs)) (.ref p) g ⟨p, rfl, fun _ => hp, n, vs, upd_same, m.mono g.ext.le fun _ _ h => h⟩
/-- a new tuple, frozen at once -/
theorem grow_frz {a : Addr} {o : HO} (tg : TagOk t H) (h : H a = none) : Grow K t H (setT t a .frz) (upd H a o) ∧ fz (setT t a .frz) (upd H a o) a = some o := by
  have n : t a = .non := by
    by_cases e : t a = .non
    · exact e
    · exact absurd h (tg a e)
  refine ⟨⟨⟨fun b hb => ?_, fun b k hb => ?_, fun b u hb e => ?_, fun b i u hb e => ?_⟩, fun st σ r => (r.alloc h).2.1⟩, by rw [fz_of setT_same, upd_same]⟩
  · have ne : b ≠ a := fun e => by rw [e, n] at hb; cases hb
    exact ⟨by rw [setT_ne ne]; exact hb, upd_ne ne⟩
  · have ne : b ≠ a := fun e => by rw [e, n] at hb; cases hb
    rw [setT_ne ne]; exact hb
  · have ne : b ≠ a := fun q => by rw [q, h] at e; cases e
    exact ⟨by rw [setT_ne ne]; exact hb, by rw [upd_ne ne]; exact e⟩
  · have ne : b ≠ a := fun q => by rw [q, h] at e; cases e
    exact ⟨by rw [upd_ne ne]; exact e, fun k => by rw [setT_ne ne, hb]; exact nofun⟩
theorem RO.newT {xs : List D} {vs : List V} (tg : TagOk t H) (h : RO K t H Q (some (.sh (.tup xs)))) (m : Dats K (fz t H) (rho t) xs vs) : ∀ p, H p = none → Q (.ref p) (upd H p (.tup vs)) := fun p hp => by
  obtain ⟨g, e⟩ := grow_frz (K := K) (o := .tup vs) tg hp
  refine h _ _ (.ref p) g ?_
  show Dat _ _ _ _ _
  rw [Dat]
  exact ⟨p, vs, rfl, .inl (.inl e), m.mono g.ext.le g.ext.rh⟩
theorem Dats.append : ∀ {xs ys : List D} {vs us : List V}, Dats K F r xs vs → Dats K F r ys us → Dats K F r (xs ++ ys) (vs ++ us)
  | [], ys, vs, us, h, h' => by
    rw [Dats] at h
    subst h
    exact h'
  | x :: xs, ys, vs, us, h, h' => by
    rw [Dats] at h
    obtain ⟨v, w, rfl, h1, h2⟩ := h
    show Dats _ _ _ (x :: (xs ++ ys)) _
    rw [Dats]
    exact ⟨v, w ++ us, rfl, h1, Dats.append h2 h'⟩
theorem Dats.nil : Dats K F r [] [] := by rw [Dats]
theorem Dats.cons {d : D} {ds : List D} {v : V} {vs : List V} (h : Dat K F r d v) (h' : Dats K F r ds vs) : Dats K F r (d :: ds) (v :: vs) := by
  rw [Dats]; exact ⟨v, vs, rfl, h, h'⟩
theorem Dats.rep {xs : List D} {vs : List V} (h : Dats K F r xs vs) : ∀ n : Nat, Dats K F r (List.replicate n xs).flatten (List.replicate n vs).flatten
  | 0 => Dats.nil
  | n + 1 => by
    rw [List.replicate_succ, List.replicate_succ, List.flatten_cons, List.flatten_cons]
    exact h.append (Dats.rep h n)
theorem Dats.get : ∀ {ds : List D} {vs : List V} {i : Nat} {d : D}, Dats K F r ds vs → ds[i]? = some d → ∃ v, vs[i]? = some v ∧ Dat K F r d v
  | [], _, _, _, _, e => by simp at e
  | x :: xs, vs, i, d, h, e => by
    rw [Dats] at h
    obtain ⟨v, us, rfl, h1, h2⟩ := h
    cases i with
    | zero => simp at e; subst e; exact ⟨v, rfl, h1⟩
    | succ i =>
      obtain ⟨w, e1, h3⟩ := Dats.get (i := i) h2 (by simpa using e)
      exact ⟨w, by simpa using e1, h3⟩
theorem Dats.at {ds : List D} {vs : List V} {i : Int} {d : D} (h : Dats K F r ds vs) (e : atI ds i = some d) : ∃ v, atI vs i = some v ∧ Dat K F r d v := by
  unfold atI at e ⊢
  rw [h.length] at e
  cases q : ixN vs.length i with
  | none => rw [q] at e; cases e
  | some j =>
    rw [q] at e
    exact Dats.get h e

theorem op_addD : OpR X (binaryOp .Add) (rF X.K addD) := by
  intro pins s σ H x y v u Q I rx ry ⟨t, a, b, tg, da, db, h⟩
  unfold addD at h
  split at h
  · simp only [Vw] at da db
    subst da db
    exact op_add pins s σ H _ _ v u Q I rx ry ⟨_, _, rfl, rfl, h.int⟩
  · simp only [Vw] at da db
    subst da db
    split at h
    · exact op_add_str pins s σ H _ _ v u Q I rx ry ⟨_, _, rfl, rfl, by assumption, h.str⟩
    · exact h.elim
  · simp only [Vw] at da db
    obtain ⟨p, vs, rfl, sp, _, mp⟩ := da
    obtain ⟨q, us, rfl, sq, _, mq⟩ := db
    split at h
    · rename_i hz
      rw [mp.length, mq.length] at hz
      exact op_cat pins s σ H _ _ v u Q I rx ry ⟨p, q, vs, us, rfl, rfl, sp, sq, hz, h.newL tg (mp.append mq)⟩
    · exact h.elim
  · rename_i xs ys
    have da0 := da
    have db0 := db
    simp only [Vw] at da db
    obtain ⟨p, vs, rfl, sp, mp⟩ := da
    obtain ⟨q, us, rfl, sq, mq⟩ := db
    split at h
    · rename_i hz
      rw [mp.length, mq.length] at hz
      refine op_catA pins s σ H _ _ v u Q I rx ry ⟨p, q, vs, us, rfl, rfl, fz_le.sqT sp, fz_le.sqT sq, hz, fun e => ?_, fun _ e => ?_, fun _ _ => h.newT tg (mp.append mq)⟩
      · have e2 : xs = [] := List.eq_nil_of_length_eq_zero (by rw [mp.length, e]; rfl)
        subst e2
        exact h.val (by rw [Dat]; exact db0)
      · have e2 : ys = [] := List.eq_nil_of_length_eq_zero (by rw [mq.length, e]; rfl)
        subst e2
        rw [List.append_nil] at h
        exact h.val (by rw [Dat]; exact da0)
    · exact h.elim
  · exact h.elim
theorem op_subD : OpR X (binaryOp .Sub) (rF X.K subD) := by
  intro pins s σ H x y v u Q I rx ry ⟨t, a, b, tg, da, db, h⟩
  unfold subD at h
  split at h
  · simp only [Vw] at da db
    subst da db
    exact op_sub pins s σ H _ _ v u Q I rx ry ⟨_, _, rfl, rfl, h.int⟩
  · exact h.elim
theorem op_modD : OpR X (binaryOp .Mod) (rF X.K modD) := by
  intro pins s σ H x y v u Q I rx ry ⟨t, a, b, tg, da, db, h⟩
  unfold modD at h
  split at h
  · simp only [Vw] at da db
    subst da db
    split at h
    · exact op_mod pins s σ H _ _ v u Q I rx ry ⟨_, _, rfl, rfl, by assumption, h.int⟩
    · exact h.elim
  · exact h.elim
theorem op_fdivD : OpR X (binaryOp .FloorDiv) (rF X.K fdivD) := by
  intro pins s σ H x y v u Q I rx ry ⟨t, a, b, tg, da, db, h⟩
  unfold fdivD at h
  split at h
  · simp only [Vw] at da db
    subst da db
    split at h
    · exact op_fdiv pins s σ H _ _ v u Q I rx ry ⟨_, _, rfl, rfl, by assumption, h.int⟩
    · exact h.elim
  · exact h.elim
theorem op_powD : OpR X (binaryOp .Pow) (rF X.K powD) := by
  intro pins s σ H x y v u Q I rx ry ⟨t, a, b, tg, da, db, h⟩
  unfold powD at h
  split at h
  · simp only [Vw] at da db
    subst da db
    split at h
    · rename_i hc
      obtain ⟨t1, rfl⟩ := rx
      obtain ⟨t2, rfl⟩ := ry
      exact PyProof.Rows.pow_int hc.1 hc.2 ⟨.int _, H, I.tok _, ⟨_, rfl⟩, h.int⟩
    · exact h.elim
  · exact h.elim
theorem op_mulD : OpR X (binaryOp .Mult) (rF X.K mulD) := by
  intro pins s σ H x y v u Q I rx ry ⟨t, a, b, tg, da, db, h⟩
  unfold mulD at h
  split at h
  · simp only [Vw] at da db
    subst da db
    split at h
    · exact op_mul pins s σ H _ _ v u Q I rx ry ⟨_, _, rfl, rfl, by assumption, h.int⟩
    · exact h.elim
  · simp only [Vw] at da db
    obtain ⟨p, vs, rfl, sp, _, mp⟩ := da
    subst db
    split at h
    · rename_i hc
      exact op_rep pins s σ H _ _ v u Q I rx ry ⟨p, _, vs, rfl, rfl, sp, hc.1, hc.2.1, by rw [← mp.length]; exact hc.2.2, h.newL tg (mp.rep _)⟩
    · exact h.elim
  · simp only [Vw] at da db
    obtain ⟨p, vs, rfl, sp, mp⟩ := da
    subst db
    split at h
    · rename_i hc
      exact op_repT pins s σ H _ _ v u Q I rx ry ⟨p, _, vs, rfl, rfl, fz_le.sqT sp, fun e => hc.1 (List.eq_nil_of_length_eq_zero (by rw [mp.length, e]; rfl)), hc.2.1, hc.2.2.1, by rw [← mp.length]; exact hc.2.2.2, h.newT tg (mp.rep _)⟩
    · exact h.elim
  · exact h.elim
theorem op_ltD : OpR X (compareOp .Lt) (rF X.K ltD) := by
  intro pins s σ H x y v u Q I rx ry ⟨t, a, b, tg, da, db, h⟩
  unfold ltD at h
  split at h
  · simp only [Vw] at da db
    subst da db
    exact op_lt pins s σ H _ _ v u Q I rx ry ⟨_, _, rfl, rfl, h.bl⟩
  · exact h.elim
theorem op_leD : OpR X (compareOp .LtE) (rF X.K leD) := by
  intro pins s σ H x y v u Q I rx ry ⟨t, a, b, tg, da, db, h⟩
  unfold leD at h
  split at h
  · simp only [Vw] at da db
    subst da db
    exact op_le pins s σ H _ _ v u Q I rx ry ⟨_, _, rfl, rfl, h.bl⟩
  · exact h.elim
theorem op_gtD : OpR X (compareOp .Gt) (rF X.K gtD) := by
  intro pins s σ H x y v u Q I rx ry ⟨t, a, b, tg, da, db, h⟩
  unfold gtD at h
  split at h
  · simp only [Vw] at da db
    subst da db
    exact op_gt pins s σ H _ _ v u Q I rx ry ⟨_, _, rfl, rfl, h.bl⟩
  · exact h.elim
theorem op_geD : OpR X (compareOp .GtE) (rF X.K geD) := by
  intro pins s σ H x y v u Q I rx ry ⟨t, a, b, tg, da, db, h⟩
  unfold geD at h
  split at h
  · simp only [Vw] at da db
    subst da db
    exact op_ge pins s σ H _ _ v u Q I rx ry ⟨_, _, rfl, rfl, h.bl⟩
  · exact h.elim
mutual
theorem dp_of (l : Le F H) : ∀ {d : D} {v : V} {p : PyData}, Dat K F r d v → toP d = some p → Dp K H v p
  | .non, v, p, h, e => by rw [Dat] at h; subst h; cases e; exact .non
  | .bl b, v, p, h, e => by rw [Dat] at h; subst h; cases e; exact .bl b
  | .int b, v, p, h, e => by rw [Dat] at h; subst h; cases e; exact .int b
  | .str b, v, p, h, e => by rw [Dat] at h; subst h; cases e; exact .str b
  | .tup xs, v, p, h, e => by
    rw [Dat] at h
    obtain ⟨a, vs, rfl, s, m⟩ := h
    rw [toP] at e
    obtain ⟨ps, e1, rfl⟩ := Option.map_eq_some_iff.mp e
    exact .tup (l.sqT s) (dps_of l m e1)
  | .lst xs, v, p, h, e => by
    rw [Dat] at h
    obtain ⟨a, vs, rfl, s, m⟩ := h
    rw [toP] at e
    obtain ⟨ps, e1, rfl⟩ := Option.map_eq_some_iff.mp e
    exact .lst (SqL.of (l _ _ s)) (dps_of l m e1)
  | .dct _, _, _, _, e => by rw [toP] at e <;> first | cases e | exact nofun
  | .ins _ _, _, _, _, e => by rw [toP] at e <;> first | cases e | exact nofun
  | .slt _ _, _, _, _, e => by rw [toP] at e <;> first | cases e | exact nofun
  | .nul, _, _, _, e => by rw [toP] at e <;> first | cases e | exact nofun
  | .exc _ _, _, _, _, e => by rw [toP] at e <;> first | cases e | exact nofun
  | .cell _, _, _, _, e => by rw [toP] at e <;> first | cases e | exact nofun
  | .scr _, _, _, _, e => by rw [toP] at e <;> first | cases e | exact nofun
theorem dps_of (l : Le F H) : ∀ {ds : List D} {vs : List V} {ps : List PyData}, Dats K F r ds vs → toPs ds = some ps → DpAll K H vs ps
  | [], vs, ps, h, e => by
    rw [Dats] at h
    rw [toPs] at e
    subst h
    cases e
    exact .nil
  | d :: ds, vs, ps, h, e => by
    rw [Dats] at h
    obtain ⟨v, us, rfl, h1, h2⟩ := h
    rw [toPs] at e
    cases e1 : toP d with
    | none => rw [e1] at e; cases e
    | some p =>
      cases e2 : toPs ds with
      | none => rw [e1, e2] at e; cases e
      | some qs =>
        rw [e1, e2] at e
        cases e
        exact .cons (dp_of l h1 e1) (dps_of l h2 e2)
end
theorem dp_vw {d : D} {v : V} {p : PyData} (h : Vw K t H d v) (e : toP d = some p) : Dp K H v p := by
  cases d with
  | lst xs =>
    obtain ⟨a, vs, rfl, s, _, m⟩ := h
    rw [toP] at e
    obtain ⟨ps, e1, rfl⟩ := Option.map_eq_some_iff.mp e
    exact .lst (SqL.of s) (dps_of fz_le m e1)
  | dct _ => rw [toP] at e <;> first | cases e | exact nofun
  | ins _ _ => rw [toP] at e <;> first | cases e | exact nofun
  | slt _ _ => rw [toP] at e <;> first | cases e | exact nofun
  | nul => rw [toP] at e <;> first | cases e | exact nofun
  | exc _ _ => rw [toP] at e <;> first | cases e | exact nofun
  | cell _ => rw [toP] at e <;> first | cases e | exact nofun
  | scr _ => rw [toP] at e <;> first | cases e | exact nofun
  | _ => exact dp_of (F := fz t H) (r := rho t) fz_le (by rw [Dat]; exact h) e
/-- single values, as V has them -/
def sV : D → Option V
  | .non => some .non
  | .bl b => some (.bl b)
  | .int i => some (.int i)
  | .str x => some (.str x)
  | _ => none
theorem eqS_ok {a b : D} {k : Bool} (h : eqS a b = some k) : ∃ x y, sV a = some x ∧ sV b = some y ∧ scal x y = true ∧ decide (x = y) = k := by
  unfold eqS at h
  split at h <;> first
    | (cases h; exact ⟨_, _, rfl, rfl, rfl, by simp⟩)
    | cases h
theorem dat_sV {a : D} {x v : V} (h : Vw K t H a v) (e : sV a = some x) : v = x := by
  unfold sV at e
  split at e <;> first
    | (cases e; exact h)
    | cases e
theorem op_eqDD (hu : X.A.units + 64 < cLine) : OpR X (compareOp .Eq) (rF X.K eqD) := by
  intro pins s σ H x y v u Q I rx ry ⟨t, a, b, tg, da, db, h⟩
  unfold eqD eqB at h
  cases e : eqS a b with
  | some k =>
    rw [e] at h
    obtain ⟨x', y', e1, e2, sc, dk⟩ := eqS_ok e
    have ex := dat_sV da e1
    have ey := dat_sV db e2
    subst ex ey
    exact op_eq pins s σ H _ _ v u Q I rx ry ⟨sc, by rw [dk]; exact RO.bl h⟩
  | none =>
    rw [e] at h
    unfold eqP at h
    cases e1 : toP a with
    | none => rw [e1] at h; exact h.elim
    | some p =>
      cases e2 : toP b with
      | none => rw [e1, e2] at h; exact h.elim
      | some q =>
        rw [e1, e2] at h
        dsimp only at h
        split at h
        · rename_i hs
          exact op_eqD hu pins s σ H _ _ v u Q I rx ry ⟨p, q, dp_vw da e1, dp_vw db e2, hs.1, hs.2, RO.bl h⟩
        · exact h.elim
theorem op_neDD (hu : X.A.units + 64 < cLine) : OpR X (compareOp .NotEq) (rF X.K neD) := by
  intro pins s σ H x y v u Q I rx ry ⟨t, a, b, tg, da, db, h⟩
  unfold neD eqB at h
  cases e : eqS a b with
  | some k =>
    rw [e] at h
    obtain ⟨x', y', e1, e2, sc, dk⟩ := eqS_ok e
    have ex := dat_sV da e1
    have ey := dat_sV db e2
    subst ex ey
    exact op_ne pins s σ H _ _ v u Q I rx ry ⟨sc, by rw [dk]; exact RO.bl h⟩
  | none =>
    rw [e] at h
    unfold eqP at h
    cases e1 : toP a with
    | none => rw [e1] at h; exact h.elim
    | some p =>
      cases e2 : toP b with
      | none => rw [e1, e2] at h; exact h.elim
      | some q =>
        rw [e1, e2] at h
        dsimp only at h
        split at h
        · rename_i hs
          exact op_neD hu pins s σ H _ _ v u Q I rx ry ⟨p, q, dp_vw da e1, dp_vw db e2, hs.1, hs.2, RO.bl h⟩
        · exact h.elim
theorem ix_D : IxR X (rF X.K ixD) := by
  intro value slice pins s σ H x y v u Q I rx ry ⟨t, a, b, tg, da, db, h⟩ hs
  refine ix_seq value slice pins s σ H x y v u Q I rx ry ?_ hs
  unfold ixD at h
  split at h
  · simp only [Vw] at da db
    obtain ⟨p, vs, rfl, sp, _, mp⟩ := da
    rename_i xs i _
    cases e : atI xs i with
    | none => rw [e] at h; exact h.elim
    | some d =>
      rw [e] at h
      obtain ⟨w, e1, h1⟩ := mp.at e
      exact .inl ⟨p, vs, i, w, rfl, db, SqL.of sp, e1, RO.val h h1⟩
  · simp only [Vw] at da db
    obtain ⟨p, vs, rfl, sp, mp⟩ := da
    rename_i xs i
    cases e : atI xs i with
    | none => rw [e] at h; exact h.elim
    | some d =>
      rw [e] at h
      obtain ⟨w, e1, h1⟩ := mp.at e
      exact .inr (.inl ⟨p, vs, i, w, rfl, db, fz_le.sqT sp, e1, RO.val h h1⟩)
  · simp only [Vw] at da db
    obtain ⟨p, rfl, sp⟩ := da
    rename_i xs i
    cases e : atI xs i with
    | none => rw [e] at h; exact h.elim
    | some d =>
      rw [e] at h
      refine .inl ⟨p, xs.map V.int, i, .int d, rfl, db, fz_le.sqL sp, ?_, RO.int h⟩
      unfold atI at e ⊢
      rw [List.length_map]
      cases q : ixN xs.length i with
      | none => rw [q] at e; cases e
      | some j =>
        rw [q] at e
        show (xs.map V.int)[j]? = _
        rw [List.getElem?_map, show xs[j]? = some d from e]
        rfl
  · simp only [Vw] at da db
    rename_i z i
    split at h
    · rename_i hz
      cases e : atI z.cps.toList i with
      | none => rw [e] at h; exact h.elim
      | some c =>
        rw [e] at h
        exact .inr (.inr ⟨z, i, c, da, db, hz, e, RO.str h⟩)
    · exact h.elim
  · exact h.elim
end
end Dn
end

section
set_option maxHeartbeats 4000000
-- Dn6
/-! Dn6: statements -/
namespace Dn
open PySem PySem.Spec L2

inductive OutS where
  | nx (st : DSt)
  | rt (r : RV) (st : DSt)
  | bk (st : DSt)
  | ct (st : DSt)
  | ex (c : Str) (v : D) (st : DSt)
  | no
abbrev DS := DSt → OutS
def ResS (K : PySem.W.Frag) (W : WX) (D : Ends) (t : Tags) (H : Hp) : OutS → Prop
  | .nx st' => ∀ t' σ' H', ExtW t H t' H' → R K t' st' σ' H' → D.nx σ' H'
  | .rt r st' => ∀ t' σ' H' v, ExtW t H t' H' → R K t' st' σ' H' → IsRV K t H t' H' r v → D.rt v H'
  | .bk st' => ∀ t' σ' H', ExtW t H t' H' → R K t' st' σ' H' → D.bk σ' H'
  | .ct st' => ∀ t' σ' H', ExtW t H t' H' → R K t' st' σ' H' → D.ct σ' H'
  | .ex c x st' => ∀ t' σ' H' d, ExtW t H t' H' → R K t' st' σ' H' → ExAt K t' H' d x → W (.ref (He.ga K c)) (some d) σ' H'
  | .no => False
def tS (K : PySem.W.Frag) (W : WX) (g : DS) : TS := fun D σ H => ∃ t st, R K t st σ H ∧ ResS K W D t H (g st)
section
variable {K : PySem.W.Frag} {W : WX} {D : Ends} {t t1 : Tags} {H H1 : Hp} {st : DSt} {σ : L2.St}
theorem ResS.step (E : ExtW t H t1 H1) : ∀ {o : OutS}, ResS K W D t H o → ResS K W D t1 H1 o
  | .nx _, h => fun t' σ' H' E' R' => h t' σ' H' (E.trans E') R'
  | .rt _ _, h => fun t' σ' H' v E' R' p => h t' σ' H' v (E.trans E') R' (sta_rv _ _ _ _ _ _ _ _ E p)
  | .bk _, h => fun t' σ' H' E' R' => h t' σ' H' (E.trans E') R'
  | .ct _, h => fun t' σ' H' E' R' => h t' σ' H' (E.trans E') R'
  | .ex _ _ _, h => fun t' σ' H' d E' R' p => h t' σ' H' d (E.trans E') R' p
  | .no, h => h
def Out.bindS {α : Type} : Out α → (α → DSt → OutS) → OutS
  | .ok a st, f => f a st
  | .ex c v st, _ => .ex c v st
  | .no, _ => .no
/-- an expression first -/
theorem tG_atS {α : Type} {Q1 : VK} {P1 : RP α} {g : DSt → Out α} {f : α → DSt → OutS} (r : R K t st σ H)
    (h : ResS K W D t H ((g st).bindS f))
    (k : ∀ t1 st1 H1 a v, Ext t H t1 H1 → R K t1 st1 σ H1 → P1 t H t1 H1 a v → ResS K W D t H (f a st1) → Q1 v H1) : tG K W g P1 σ H Q1 := by
  refine ⟨t, st, r, ?_⟩
  cases e : g st with
  | no => rw [e] at h; exact h
  | ex c x st' => rw [e] at h; exact fun t' H' d E' R' p => h t' σ H' d E'.w R' p
  | ok a st' =>
    rw [e] at h
    exact fun t1 H1 v E1 R1 p1 => k t1 st' H1 a v E1 R1 p1 h
theorem tT_atS {Q1 : Bool → Hp → Prop} {g : DT} {f : Bool → DSt → OutS} (r : R K t st σ H)
    (h : ResS K W D t H ((g st).bindS f))
    (k : ∀ t1 st1 H1 b, Ext t H t1 H1 → R K t1 st1 σ H1 → ResS K W D t H (f b st1) → Q1 b H1) : tT K W g σ H Q1 := by
  refine ⟨t, st, r, ?_⟩
  cases e : g st with
  | no => rw [e] at h; exact h
  | ex c x st' => rw [e] at h; exact fun t' H' d E' R' p => h t' σ H' d E'.w R' p
  | ok a st' =>
    rw [e] at h
    exact fun t1 H1 E1 R1 => k t1 st' H1 a E1 R1 h
end
section
variable {X : Cx} {W : WX} {e : Expr} {g : DE} {pos : Pos} {s s2 : Stmt} {ss : List Stmt} {a b : DS}
theorem PS.imp {s : Stmt} {t t' : TS} (h : PS X s t) (i : ∀ D σ H, t' D σ H → t D σ H) : PS X s t' := ⟨fun pins s σ H D I q => h.run pins s σ H D I (i D σ H q)⟩
theorem PSs.imp {s : List Stmt} {t t' : TS} (h : PSs X s t) (i : ∀ D σ H, t' D σ H → t D σ H) : PSs X s t' := ⟨fun pins s σ H D I q => h.run pins s σ H D I (i D σ H q)⟩
/-! ### blocks -/
def gNil : DS := fun st => .nx st
def gSeq (a b : DS) : DS := fun st => match a st with
  | .nx st => b st
  | o => o
theorem dss_nil : PSs X [] (tS X.K W gNil) := PSs.imp pss_nil fun D σ H ⟨t, st, r, h⟩ => h t σ H (ExtW.refl t H) r
theorem seq_of {K : PySem.W.Frag} {D : Ends} {σ : L2.St} {H : Hp} (h : tS K W (gSeq a b) D σ H) : tSeq (tS K W a) (tS K W b) D σ H := by
  obtain ⟨t, st, r, h⟩ := h
  refine ⟨t, st, r, ?_⟩
  unfold gSeq at h
  cases e : a st with
  | nx st1 =>
    rw [e] at h
    exact fun t1 σ1 H1 E1 R1 => ⟨t1, st1, R1, h.step E1⟩
  | rt _ _ => rw [e] at h; exact h
  | bk _ => rw [e] at h; exact h
  | ct _ => rw [e] at h; exact h
  | ex _ _ _ => rw [e] at h; exact h
  | no => rw [e] at h; exact h
theorem dss_cons (h1 : PS X s (tS X.K W a)) (h2 : PSs X ss (tS X.K W b)) : PSs X (s :: ss) (tS X.K W (gSeq a b)) := PSs.imp (pss_cons h1 h2) fun _ _ _ h => seq_of h
theorem ds_pass : PS X (.Pass pos) (tS X.K W gNil) := PS.imp ps_pass fun D σ H ⟨t, st, r, h⟩ => h t σ H (ExtW.refl t H) r
theorem ds_break : PS X (.Break pos) (tS X.K W (fun st => .bk st)) := PS.imp ps_break fun D σ H ⟨t, st, r, h⟩ => h t σ H (ExtW.refl t H) r
theorem ds_cont : PS X (.Continue pos) (tS X.K W (fun st => .ct st)) := PS.imp ps_continue fun D σ H ⟨t, st, r, h⟩ => h t σ H (ExtW.refl t H) r
/-! ### return -/
def gRet (g : DE) : DS := fun st => (g st).bindS fun r st => .rt r st
theorem ds_ret (h : PE X e (tD X.K W g)) : PS X (.Return (some e) pos) (tS X.K W (gRet g)) :=
  PS.imp (ps_ret h) fun D σ H ⟨t, st, r, q⟩ => tG_atS r q fun t1 st1 H1 x v E1 R1 p1 q1 => q1 t1 σ H1 v E1.w R1 p1
def gRetN : DS := fun st => .rt (.sh .non) st
theorem ds_retN : PS X (.Return none pos) (tS X.K W gRetN) :=
  PS.imp ps_retN fun D σ H ⟨t, st, r, q⟩ => q t σ H .non (ExtW.refl t H) r (by show Dat _ _ _ _ _; rw [Dat])
/-- return of a name: what is one's own is handed over -/
def gRetV (i : Nat) : DS := fun st => match st.env[i]? with
  | some (some (.sh d)) => .rt (.sh d) st
  | some (some (.ow o)) => .rt (.ow o) { st with env := st.env.set i none }
  | _ => .no
theorem le_untag {t : Tags} {H : Hp} {a : Addr} {x : Tag} (n : t a ≠ .frz) (nx : x ≠ .frz) : Le (fz t H) (fz (setT t a x) H) := fun b o h => by
  obtain ⟨h1, h2⟩ := of_fz h
  have ne : b ≠ a := fun e => n (e ▸ h1)
  rw [fz_of (by rw [setT_ne ne]; exact h1)]
  exact h2
/-- a tag of a slot that is not read is turned -/
theorem R0.retag {K : PySem.W.Frag} {t : Tags} {S : List OD} {H : Hp} {a : Addr} {x : Tag} (r : R0 K t S H) (n : t a ≠ .frz) (c : ∀ k, t a ≠ .cell k) (nx : x ≠ .frz) (cx : ∀ k, x ≠ .cell k) (hs : H a ≠ none) : R0 K (setT t a x) S H where
  tag := fun b h => by
    by_cases e : b = a
    · rw [e]; exact hs
    · rw [setT_ne e] at h; exact r.tag b h
  cel := fun k o h => by
    obtain ⟨b, h1, h2, h3⟩ := r.cel k o h
    have ne : b ≠ a := fun e => c k (e ▸ h1)
    refine ⟨b, by rw [setT_ne ne]; exact h1, fun b' hb' => ?_, h3.mono (le_untag n nx) (rho_retag c) fun _ h => h⟩
    by_cases e : b' = a
    · rw [e, setT_same] at hb'; exact absurd hb' (cx k)
    · rw [setT_ne e] at hb'; exact h2 b' hb'
  lt := fun b k h => by
    by_cases e : b = a
    · rw [e, setT_same] at h; exact absurd h (cx k)
    · rw [setT_ne e] at h; exact r.lt b k h
  one := fun b b' h h' => by
    by_cases e : b = a
    · rw [e, setT_same] at h; exact absurd h (cx _)
    · by_cases e' : b' = a
      · rw [e', setT_same] at h'; exact absurd h' (cx _)
      · rw [setT_ne e] at h; rw [setT_ne e'] at h'; exact r.one b b' h h'
theorem SlotIs.retag {K : PySem.W.Frag} {t : Tags} {H : Hp} {a : Addr} {x : Tag} {i : Nat} {y : RV} {v : V} (n : t a ≠ .frz) (c : ∀ k, t a ≠ .cell k) (nx : x ≠ .frz) (ns : t a ≠ .slot i) (h : SlotIs K t H i y v) : SlotIs K (setT t a x) H i y v := by
  cases y with
  | sh d => exact Dat.mono (le_untag n nx) (rho_retag c) h
  | ow o =>
    obtain ⟨b, e, h1, h2⟩ := h
    have ne : b ≠ a := fun e => ns (e ▸ h1)
    exact ⟨b, e, by rw [setT_ne ne]; exact h1, h2.mono (le_untag n nx) (rho_retag c) fun _ h => h⟩
  | me o =>
    obtain ⟨b, e, h1, h2, hi⟩ := h
    have ne : b ≠ a := fun e => c _ (e ▸ h1)
    exact ⟨b, e, by rw [setT_ne ne]; exact h1, h2.mono (le_untag n nx) (rho_retag c) fun _ h => h, hi⟩
theorem retV_of {K : PySem.W.Frag} {i : Nat} {D : Ends} {σ : L2.St} {H : Hp} (h : tS K W (gRetV i) D σ H) : tRet (tVar i) D σ H := by
  obtain ⟨t, st, r, q⟩ := h
  unfold gRetV at q
  cases e : st.env[i]? with
  | none => rw [e] at q; exact q.elim
  | some o =>
    cases o with
    | none => rw [e] at q; exact q.elim
    | some x =>
      obtain ⟨v, ev, sl⟩ := r.env i x e
      refine ⟨v, ev, ?_⟩
      cases x with
      | me o => rw [e] at q; exact q.elim
      | sh d =>
        rw [e] at q
        exact q t σ H v (ExtW.refl t H) r sl
      | ow ob =>
        rw [e] at q
        obtain ⟨p, rfl, h1, h2⟩ := sl
        have nf : t p ≠ .frz := by rw [h1]; exact nofun
        have nc : ∀ k, t p ≠ .cell k := fun k => by rw [h1]; exact nofun
        refine q (setT t p .non) σ H (.ref p) ⟨fun b hb => ?_, fun b k hb => ?_, fun b u hb eb => ?_⟩ ⟨r.r0.retag nf nc nofun (fun _ => nofun) h2.there, by simpa using r.len, fun j y ej => ?_⟩ (show IsRV K t H (setT t p .non) H (.ow ob) (.ref p) from ⟨p, rfl, (fun z => by rw [h1] at z; cases z), setT_same, h2.mono (le_untag (x := .non) nf nofun) (rho_retag nc) fun _ h => h⟩)
        · have ne : b ≠ p := fun z => nf (z ▸ hb)
          exact ⟨by rw [setT_ne ne]; exact hb, rfl⟩
        · have ne : b ≠ p := fun z => nc k (z ▸ hb)
          rw [setT_ne ne]; exact hb
        · have ne : b ≠ p := fun z => by rw [z, h1] at hb; cases hb
          exact ⟨by rw [setT_ne ne]; exact hb, eb⟩
        · by_cases hj : i = j
          · subst hj
            have hl : i < st.env.length := (List.getElem?_eq_some_iff.mp e).1
            have ej : (st.env.set i none)[i]? = some (some y) := ej
            rw [List.getElem?_set_self hl] at ej
            cases ej
          · have ej : (st.env.set i none)[j]? = some (some y) := ej
            rw [List.getElem?_set_ne hj] at ej
            obtain ⟨w, ew, sw⟩ := r.env j y ej
            exact ⟨w, ew, sw.retag nf nc nofun (fun z => hj (by rw [h1] at z; injection z))⟩
theorem ds_retV {i : Nat} {x : Str} {p : Pos} (hN : X.N[i]? = some x) (hv : Vis X.env.scope x) (hd : (x == ("__debug__" : Str)) = false) (hcd : (x == ("__classdict__" : Str)) = false) : PS X (.Return (some (.Name x p)) pos) (tS X.K W (gRetV i)) :=
  PS.imp (ps_ret (pe_var hN hv hd hcd)) fun _ _ _ h => retV_of h
/-! ### an expression as a statement; if -/
def gExp (g : DE) : DS := fun st => (g st).bindS fun _ st => .nx st
theorem ds_expr (h : PE X e (tD X.K W g)) (hs : swapsWith e none pos.line X.env = pure false) : PS X (.Expr e pos) (tS X.K W (gExp g)) :=
  PS.imp (ps_expr h hs) fun D σ H ⟨t, st, r, q⟩ => tG_atS r q fun t1 st1 H1 x v E1 R1 p1 q1 => q1 t1 σ H1 E1.w R1
def gIfS (c : DT) (a b : DS) : DS := fun st => (c st).bindS fun k st => if k = true then a st else b st
theorem ds_if {c : Expr} {tc : DT} {x y : List Stmt} (hc : PT X c (tT X.K W tc)) (hx : PSs X x (tS X.K W a)) (hy : PSs X y (tS X.K W b)) : PS X (.If c x y pos) (tS X.K W (gIfS tc a b)) := by
  refine PS.imp (ps_if hc hx hy) fun D σ H ⟨t, st, r, h⟩ => ?_
  refine tT_atS r h fun t1 st1 H1 k E1 R1 q => ?_
  cases k with
  | true => exact ⟨t1, st1, R1, q.step E1.w⟩
  | false => exact ⟨t1, st1, R1, q.step E1.w⟩
/-! ### stores to names -/
def put (i : Nat) (x : RV) (st : DSt) : DSt := { st with env := st.env.set i (some x) }
/-- a value that was just made comes into a slot -/
theorem R.stored {K : PySem.W.Frag} {t0 t : Tags} {H0 H : Hp} {st : DSt} {σ : L2.St} {i : Nat} {x : RV} {v : V} (E : Ext t0 H0 t H) (r : R K t st σ H) (p : IsRV K t0 H0 t H x v) :
    ∃ t', ExtW t0 H0 t' H ∧ R K t' (put i x st) (σ.set i (some v)) H := by
  have slots : ∀ {t' : Tags}, (∀ j y w, j ≠ i → SlotIs K t H j y w → SlotIs K t' H j y w) → SlotIs K t' H i x v → ∀ (j : Nat) (y : RV), (put i x st).env[j]? = some (some y) → ∃ w, (σ.set i (some v))[j]? = some (some w) ∧ SlotIs K t' H j y w := fun {t'} k hi j y ej => by
    have ej : (st.env.set i (some x))[j]? = some (some y) := ej
    by_cases hj : i = j
    · subst hj
      by_cases hl : i < st.env.length
      · rw [List.getElem?_set_self hl] at ej
        cases ej
        exact ⟨v, List.getElem?_set_self (by rw [← r.len]; exact hl), hi⟩
      · rw [List.getElem?_eq_none (by simpa using hl)] at ej
        cases ej
    · rw [List.getElem?_set_ne hj] at ej ⊢
      obtain ⟨w, ew, sw⟩ := r.env j y ej
      exact ⟨w, ew, k j y w (Ne.symm hj) sw⟩
  have len : (put i x st).env.length = (σ.set i (some v)).length := by
    show (st.env.set i (some x)).length = _
    simp only [List.length_set]; exact r.len
  cases x with
  | me o => exact p.elim
  | sh d => exact ⟨t, E.w, ⟨r.r0, len, slots (fun _ _ _ _ h => h) p⟩⟩
  | ow o =>
    obtain ⟨a, rfl, h1, h2, h3⟩ := p
    have nf : t a ≠ .frz := by rw [h2]; exact nofun
    have nc : ∀ k, t a ≠ .cell k := fun k => by rw [h2]; exact nofun
    refine ⟨setT t a (.slot i), ⟨fun b hb => ?_, fun b k hb => ?_, fun b u hb e => ?_⟩, ⟨r.r0.retag nf nc nofun (fun _ => nofun) h3.there, len,
      slots (fun j y w _ h => h.retag nf nc nofun (by rw [h2]; exact nofun)) ⟨a, rfl, setT_same, h3.mono (le_untag (x := .slot i) nf nofun) (rho_retag nc) fun _ h => h⟩⟩⟩
    · obtain ⟨q1, q2⟩ := E.frz b hb
      have ne : b ≠ a := fun e => nf (e ▸ q1)
      exact ⟨by rw [setT_ne ne]; exact q1, q2⟩
    · have q := E.cel b k hb
      have ne : b ≠ a := fun e => nc k (e ▸ q)
      rw [setT_ne ne]; exact q
    · have ne : b ≠ a := fun e' => by
        subst e'
        rw [h1 hb] at e; cases e
      obtain ⟨q1, q2⟩ := E.oth b u hb e
      exact ⟨by rw [setT_ne ne]; exact q1, q2⟩
def gSet (i : Nat) (g : DE) : DS := fun st => (g st).bindS fun x st => .nx (put i x st)
theorem set_of {K : PySem.W.Frag} {i : Nat} {D : Ends} {σ : L2.St} {H : Hp} (h : tS K W (gSet i g) D σ H) : tAsg (tD K W g) (gName i) D σ H := by
  obtain ⟨t, st, r, q⟩ := h
  refine tG_atS r q fun t1 st1 H1 x v E1 R1 p1 q1 => ?_
  obtain ⟨t2, E2, R2⟩ := R.stored (i := i) E1 R1 p1
  exact q1 t2 _ H1 E2 R2
theorem ds_set {i : Nat} {x : Str} {pos' : Pos} (hN : X.N.Nodup) (hi : X.N[i]? = some x) (hx : Loc X.env.scope x) (he : PE X e (tD X.K W g)) (hs : swapsWith e (some (.Name x pos')) pos.line X.env = pure false) (hf : X.fn x = true ∨ X.env.scope.names.lookup x = some .local) :
    PS X (.Assign [.Name x pos'] e pos) (tS X.K W (gSet i g)) := PS.imp (ps_set hN hi hx he hs hf) fun _ _ _ h => set_of h
end
end Dn
end

section
set_option maxHeartbeats 4000000
-- Dn7
/-! Dn7: targets, what is walked, for, while -/
namespace Dn
open PySem PySem.Spec L2

/-! ### targets -/
abbrev GT := D → DSt → Option DSt
/-- names are stored: tags and heap stay, slots but those at sl, too -/
def after (K : PySem.W.Frag) (t : Tags) (H : Hp) (σ : L2.St) (sl : List Nat) (Q : L2.St → Hp → Prop) : Option DSt → Prop
  | some st' => ∀ σ' : L2.St, σ'.length = σ.length → (∀ j, j ∉ sl → σ'[j]? = σ[j]?) → R K t st' σ' H → Q σ' H
  | none => False
def TgOk (K : PySem.W.Frag) (g : TG) (f : GT) (sl : List Nat) : Prop := ∀ (t : Tags) (st : DSt) (σ : L2.St) (H : Hp) (d : D) (v : V) (Q : L2.St → Hp → Prop), R K t st σ H → Dat K (fz t H) (rho t) d v → after K t H σ sl Q (f d st) → g v σ H Q
abbrev GTs := List D → DSt → Option DSt
def TgsOk (K : PySem.W.Frag) (g : TGs) (f : GTs) (sl : List Nat) : Prop := ∀ (t : Tags) (st : DSt) (σ : L2.St) (H : Hp) (d : List D) (v : List V) (Q : L2.St → Hp → Prop), R K t st σ H → Dats K (fz t H) (rho t) d v → after K t H σ sl Q (f d st) → g v σ H Q
theorem R.storeSh {K : PySem.W.Frag} {t : Tags} {H : Hp} {st : DSt} {σ : L2.St} {i : Nat} {d : D} {v : V} (r : R K t st σ H) (p : Dat K (fz t H) (rho t) d v) : R K t (put i (.sh d) st) (σ.set i (some v)) H where
  r0 := r.r0
  len := by
    show (st.env.set i (some (.sh d))).length = _
    simp only [List.length_set]; exact r.len
  env := fun j y ej => by
    have ej : (st.env.set i (some (.sh d)))[j]? = some (some y) := ej
    by_cases hj : i = j
    · subst hj
      by_cases hl : i < st.env.length
      · rw [List.getElem?_set_self hl] at ej
        cases ej
        exact ⟨v, List.getElem?_set_self (by rw [← r.len]; exact hl), p⟩
      · rw [List.getElem?_eq_none (by simpa using hl)] at ej
        cases ej
    · rw [List.getElem?_set_ne hj] at ej ⊢
      exact r.env j y ej
def fName (i : Nat) : GT := fun d st => some (put i (.sh d) st)
theorem tg_name {K : PySem.W.Frag} {i : Nat} : TgOk K (gName i) (fName i) [i] := fun t st σ H d v Q r p h =>
  h _ (by simp) (fun j hj => List.getElem?_set_ne (fun e => hj (by simp [e]))) (r.storeSh p)
def fNil : GTs := fun ds st => match ds with
  | [] => some st
  | _ => none
def fCons (f : GT) (g : GTs) : GTs := fun ds st => match ds with
  | d :: ds => (f d st).bind fun st => g ds st
  | [] => none
def fTup (n : Nat) (f : GTs) : GT := fun d st => match d with
  | .tup xs => if xs.length = n then f xs st else none
  | _ => none
theorem tgs_nil {K : PySem.W.Frag} : TgsOk K L2.gNil fNil [] := fun t st σ H d v Q r p h => by
  cases d with
  | nil =>
    rw [Dats] at p
    exact ⟨p, h σ rfl (fun _ _ => rfl) r⟩
  | cons _ _ => exact h.elim
theorem tgs_cons {K : PySem.W.Frag} {g : TG} {f : GT} {gs : TGs} {fs : GTs} {s1 s2 : List Nat} (h1 : TgOk K g f s1) (h2 : TgsOk K gs fs s2) : TgsOk K (gCons g gs) (fCons f fs) (s1 ++ s2) := fun t st σ H d v Q r p h => by
  cases d with
  | nil => exact h.elim
  | cons d ds =>
    rw [Dats] at p
    obtain ⟨x, us, rfl, p1, p2⟩ := p
    refine ⟨x, us, rfl, h1 t st σ H d x _ r p1 ?_⟩
    have h : after K t H σ (s1 ++ s2) Q ((f d st).bind fun st => fs ds st) := h
    cases e : f d st with
    | none => rw [e] at h; exact h.elim
    | some st1 =>
      rw [e] at h
      intro σ1 l1 E1 R1
      refine h2 t st1 σ1 H ds us Q R1 p2 ?_
      have h : after K t H σ (s1 ++ s2) Q (fs ds st1) := h
      cases e2 : fs ds st1 with
      | none => rw [e2] at h; exact h.elim
      | some st2 =>
        rw [e2] at h
        exact fun σ2 l2 E2 R2 => h σ2 (l2.trans l1) (fun j hj => (E2 j (fun z => hj (List.mem_append_right _ z))).trans (E1 j fun z => hj (List.mem_append_left _ z))) R2
theorem tg_tup {K : PySem.W.Frag} {n : Nat} {gs : TGs} {fs : GTs} {sl : List Nat} (h2 : TgsOk K gs fs sl) : TgOk K (gTup K n gs) (fTup n fs) sl := fun t st σ H d v Q r p h => by
  cases d with
  | tup xs =>
    rw [Dat] at p
    obtain ⟨a, vs, e, s, m⟩ := p
    have h : after K t H σ sl Q (if xs.length = n then fs xs st else none) := h
    by_cases hl : xs.length = n
    · rw [if_pos hl] at h
      exact ⟨a, vs, e, fz_le.sqT s, by rw [← m.length]; exact hl, h2 t st σ H xs vs Q r m h⟩
    · rw [if_neg hl] at h; exact h.elim
  | _ => exact h.elim

/-! ### walks -/
structure Wk (K : PySem.W.Frag) (t : Tags) (H : Hp) (J : It) (ds : List D) : Prop where
  at_ : ∀ t1 H1, ExtF t H t1 H1 → TagOk t1 H1 → ∀ (i : Nat) (d : D), ds[i]? = some d → J.go i H1 ∧ ∀ x H2, J.yld i H1 x H2 → ∃ t2, Grow K t1 H1 t2 H2 ∧ Dat K (fz t2 H2) (rho t2) d x
  end_ : ∀ t1 H1, ExtF t H t1 H1 → ∀ i, ds.length ≤ i → J.stop i H1
abbrev DL := DSt → Out (List D)
def ResI (K : PySem.W.Frag) (W : WX) (σ : L2.St) (Q : It → Hp → Prop) (t : Tags) (H : Hp) : Out (List D) → Prop
  | .ok ds st' => ∀ t' H' J, Ext t H t' H' → R K t' st' σ H' → Wk K t' H' J ds → Q J H'
  | .ex c x st' => ∀ t' H' d, Ext t H t' H' → R K t' st' σ H' → ExAt K t' H' d x → W (.ref (He.ga K c)) (some d) σ H'
  | .no => False
def tI (K : PySem.W.Frag) (W : WX) (g : DL) : TI := fun σ H Q => ∃ t st, R K t st σ H ∧ ResI K W σ Q t H (g st)
theorem PI.imp {X : Cx} {tg e : Expr} {w w' : TI} (h : PI X tg e w) (i : ∀ σ H Q, w' σ H Q → w σ H Q) : PI X tg e w' := ⟨fun pins s σ H Q I q => h.run pins s σ H Q I (i σ H Q q)⟩
theorem tG_atI {α : Type} {K : PySem.W.Frag} {W : WX} {σ : L2.St} {t : Tags} {H : Hp} {Q : It → Hp → Prop} {Q1 : VK} {P1 : RP α} {st : DSt} {g : DSt → Out α} {f : α → DSt → Out (List D)} (r : R K t st σ H)
    (h : ResI K W σ Q t H ((g st).bind f))
    (k : ∀ t1 st1 H1 a v, Ext t H t1 H1 → R K t1 st1 σ H1 → P1 t H t1 H1 a v → ResI K W σ Q t H (f a st1) → Q1 v H1) : tG K W g P1 σ H Q1 := by
  refine ⟨t, st, r, ?_⟩
  cases e : g st with
  | no => rw [e] at h; exact h
  | ex c x st' => rw [e] at h; exact h
  | ok a st' =>
    rw [e] at h
    exact fun t1 H1 v E1 R1 p1 => k t1 st' H1 a v E1 R1 p1 h
def asL : D → Option (List D)
  | .lst xs => some xs
  | _ => none
def asTu : D → Option (List D)
  | .tup xs => some xs
  | _ => none
def asLT : D → Option (List D)
  | .lst xs => some xs
  | .tup xs => some xs
  | _ => none
def signs (x : Str) : List D := x.cps.toList.map fun c => .str ⟨#[c]⟩
def asSt : D → Option (List D)
  | .str x => some (signs x)
  | _ => none
def gI (f : D → Option (List D)) (g : DE) : DL := fun st => (frz g st).bind fun d st => match f d with
  | some l => .ok l st
  | none => .no
section
variable {X : Cx} {W : WX} {tg e : Expr} {g : DE}
theorem wk_list {K : PySem.W.Frag} {t : Tags} {H : Hp} {a : Addr} {vs : List V} {ds : List D} (h : fz t H a = some (.lst vs)) (m : Dats K (fz t H) (rho t) ds vs) : Wk K t H (Itl K a) ds where
  at_ := fun t1 H1 E1 _ i d hd => by
    obtain ⟨v, hv, dv⟩ := m.get hd
    have hl : SqL K H1 a vs := SqL.of (fz_le _ _ (E1.le _ _ h))
    refine ⟨⟨vs, v, hl, hv⟩, fun x H2 ⟨e, q⟩ => ?_⟩
    subst e
    have e := q vs hl
    rw [hv] at e
    cases e
    exact ⟨t1, Grow.refl, dv.mono E1.le E1.rh⟩
  end_ := fun t1 H1 E1 i hi => ⟨vs, SqL.of (fz_le _ _ (E1.le _ _ h)), by rw [← m.length]; exact hi⟩
theorem wk_tup {K : PySem.W.Frag} {t : Tags} {H : Hp} {a : Addr} {vs : List V} {ds : List D} (h : SqT K (fz t H) a vs) (m : Dats K (fz t H) (rho t) ds vs) : Wk K t H (Itt K a) ds where
  at_ := fun t1 H1 E1 _ i d hd => by
    obtain ⟨v, hv, dv⟩ := m.get hd
    have hl : SqT K H1 a vs := (Le.trans E1.le fz_le).sqT h
    refine ⟨⟨vs, v, hl, hv⟩, fun x H2 ⟨e, q⟩ => ?_⟩
    subst e
    have e := q vs hl
    rw [hv] at e
    cases e
    exact ⟨t1, Grow.refl, dv.mono E1.le E1.rh⟩
  end_ := fun t1 H1 E1 i hi => ⟨vs, (Le.trans E1.le fz_le).sqT h, by rw [← m.length]; exact hi⟩
theorem wk_str {K : PySem.W.Frag} {t : Tags} {H : Hp} {x : Str} : Wk K t H (Its x) (signs x) where
  at_ := fun t1 H1 E1 _ i d hd => by
    unfold signs at hd
    rw [List.getElem?_map] at hd
    obtain ⟨c, hc, rfl⟩ := Option.map_eq_some_iff.mp hd
    rw [Array.getElem?_toList] at hc
    refine ⟨(Array.getElem?_eq_some_iff.mp hc).1, fun v H2 ⟨e, c', hc', ev⟩ => ?_⟩
    subst e
    rw [hc] at hc'
    cases hc'
    exact ⟨t1, Grow.refl, by rw [Dat]; exact ev⟩
  end_ := fun t1 H1 E1 i hi => by
    show x.cps.size ≤ i
    simpa [signs] using hi
theorem wk_enum {K : PySem.W.Frag} {t : Tags} {H : Hp} {a : Addr} {vs : List V} {ds : List D} (h : fz t H a = some (.lst vs)) (m : Dats K (fz t H) (rho t) ds vs) : Wk K t H (Ite K a) (ds.zipIdx.map fun p => .tup [.int p.2, p.1]) where
  at_ := fun t1 H1 E1 tg i d hd => by
    rw [List.getElem?_map] at hd
    obtain ⟨⟨d0, i0⟩, hc, rfl⟩ := Option.map_eq_some_iff.mp hd
    rw [List.getElem?_zipIdx] at hc
    obtain ⟨d1, hc2, e⟩ := Option.map_eq_some_iff.mp hc
    injection e with e1 e2
    subst e1 e2
    obtain ⟨v, hv, dv⟩ := m.get hc2
    have hl : SqL K H1 a vs := SqL.of (fz_le _ _ (E1.le _ _ h))
    refine ⟨⟨vs, v, hl, hv⟩, fun x H2 ⟨T, y, ex, hT, eH, q⟩ => ?_⟩
    have e := q vs hl
    rw [hv] at e
    cases e
    subst ex eH
    obtain ⟨G, eT⟩ := grow_frz (K := K) (o := .tup [.int (i : Nat), v]) tg hT
    refine ⟨_, G, ?_⟩
    rw [Dat]
    refine ⟨T, _, rfl, .inl (.inl eT), Dats.cons (by rw [Dat]; simp) (Dats.cons (G.ext.dat (dv.mono E1.le E1.rh)) Dats.nil)⟩
  end_ := fun t1 H1 E1 i hi => ⟨vs, SqL.of (fz_le _ _ (E1.le _ _ h)), by rw [← m.length]; simpa using hi⟩
theorem di_list (h : PE X e (tD X.K W g)) : PI X tg e (tI X.K W (gI asL g)) := by
  refine PI.imp (pi_list (peZ h)) fun σ H Q ⟨t, st, r, q⟩ => ?_
  refine tG_atI r q fun t1 st1 H1 d v E1 R1 p1 q1 => ?_
  cases d with
  | lst xs =>
    have p1 : Dat X.K (fz t1 H1) (rho t1) (.lst xs) v := p1
    rw [Dat] at p1
    obtain ⟨a, vs, rfl, s, m⟩ := p1
    exact ⟨a, rfl, ⟨vs, SqL.of (fz_le _ _ s)⟩, q1 t1 H1 _ E1 R1 (wk_list s m)⟩
  | _ => exact q1.elim
theorem di_tup (h : PE X e (tD X.K W g)) : PI X tg e (tI X.K W (gI asTu g)) := by
  refine PI.imp (pi_tup (peZ h)) fun σ H Q ⟨t, st, r, q⟩ => ?_
  refine tG_atI r q fun t1 st1 H1 d v E1 R1 p1 q1 => ?_
  cases d with
  | tup xs =>
    have p1 : Dat X.K (fz t1 H1) (rho t1) (.tup xs) v := p1
    rw [Dat] at p1
    obtain ⟨a, vs, rfl, s, m⟩ := p1
    exact ⟨a, rfl, ⟨vs, fz_le.sqT s⟩, q1 t1 H1 _ E1 R1 (wk_tup s m)⟩
  | _ => exact q1.elim
theorem di_str (h : PE X e (tD X.K W g)) : PI X tg e (tI X.K W (gI asSt g)) := by
  refine PI.imp (pi_str (peZ h)) fun σ H Q ⟨t, st, r, q⟩ => ?_
  refine tG_atI r q fun t1 st1 H1 d v E1 R1 p1 q1 => ?_
  cases d with
  | str x =>
    have p1 : Dat X.K (fz t1 H1) (rho t1) (.str x) v := p1
    rw [Dat] at p1
    exact ⟨x, p1, q1 t1 H1 _ E1 R1 wk_str⟩
  | _ => exact q1.elim
end

/-! ### for -/
def gForL (f : GT) (b : DS) : List D → DS
  | [], st => .nx st
  | d :: ds, st => match f d st with
    | none => .no
    | some st1 => match b st1 with
      | .nx st2 => gForL f b ds st2
      | .ct st2 => gForL f b ds st2
      | .bk st2 => .nx st2
      | .rt r st2 => .rt r st2
      | .ex c x st2 => .ex c x st2
      | .no => .no
def gFor (s : DL) (f : GT) (b : DS) : DS := fun st => (s st).bindS fun ds st => gForL f b ds st
theorem R.tagOk {K : PySem.W.Frag} {t : Tags} {st : DSt} {σ : L2.St} {H : Hp} (r : R K t st σ H) : TagOk t H := r.r0.tag
theorem for_of {K : PySem.W.Frag} {W : WX} {s : DL} {g : TG} {f : GT} {b : DS} {D : Ends} {σ : L2.St} {H : Hp} {sl : List Nat} (tg : TgOk K g f sl) (h : tS K W (gFor s f b) D σ H) : tFor (tI K W s) g (tS K W b) D σ H := by
  obtain ⟨t, st, r, q⟩ := h
  refine ⟨t, st, r, ?_⟩
  unfold gFor at q
  cases e : s st with
  | no => rw [e] at q; exact q
  | ex c x st' => rw [e] at q; exact fun t' H' d E' R' p => q t' σ H' d E'.w R' p
  | ok ds st' =>
    rw [e] at q
    intro t0 H0 J E0 R0 wk
    have q0 : ResS K W D t0 H0 (gForL f b ds st') := ResS.step E0.w q
    refine ⟨fun i m σ' H' => ∃ t' s', ExtW t0 H0 t' H' ∧ R K t' s' σ' H' ∧ i + m = ds.length ∧ ResS K W D t' H' (gForL f b (ds.drop i) s'), ⟨ds.length, t0, st', ExtW.refl _ _, R0, by omega, q0⟩, ?_⟩
    rintro i m σ1 H1 ⟨t1, s1, E1, R1, hl, q1⟩
    cases hd : ds[i]? with
    | none =>
      have hi : ds.length ≤ i := List.getElem?_eq_none_iff.mp hd
      rw [List.drop_eq_nil_of_le hi] at q1
      exact .inl ⟨wk.end_ t1 H1 E1.f i hi, q1 t1 σ1 H1 (ExtW.refl _ _) R1⟩
    | some d =>
      have hi : i < ds.length := (List.getElem?_eq_some_iff.mp hd).1
      obtain ⟨go, step⟩ := wk.at_ t1 H1 E1.f R1.tagOk i d hd
      refine .inr ⟨go, fun σ' H' => ∃ m', m' < m ∧ ∃ t' s', ExtW t0 H0 t' H' ∧ R K t' s' σ' H' ∧ (i + 1) + m' = ds.length ∧ ResS K W D t' H' (gForL f b (ds.drop (i + 1)) s'), fun σ' H' ⟨m', lt, r'⟩ => ⟨m', lt, r'⟩, fun x H2 hy => ?_⟩
      obtain ⟨t2, G2, d2⟩ := step x H2 hy
      have ed : ds.drop i = d :: ds.drop (i + 1) := by
        rw [List.drop_eq_getElem_cons hi]
        congr 1
        exact (List.getElem?_eq_some_iff.mp hd).2
      rw [ed] at q1
      refine tg t2 s1 σ1 H2 d x _ (G2.st _ _ R1) d2 ?_
      rw [gForL] at q1
      cases e1 : f d s1 with
      | none => rw [e1] at q1; exact q1.elim
      | some s2 =>
        rw [e1] at q1
        dsimp only at q1
        intro σ3 _ _ R3
        have E13 : ExtW t1 H1 t2 H2 := G2.ext.w
        refine ⟨t2, s2, R3, ?_⟩
        have q1 := ResS.step E13 q1
        have nx : ∀ s4, ResS K W D t2 H2 (gForL f b (ds.drop (i + 1)) s4) → ∀ t' σ' H', ExtW t2 H2 t' H' → R K t' s4 σ' H' → ∃ m', m' < m ∧ ∃ t' s', ExtW t0 H0 t' H' ∧ R K t' s' σ' H' ∧ (i + 1) + m' = ds.length ∧ ResS K W D t' H' (gForL f b (ds.drop (i + 1)) s') := fun s4 q4 t' σ' H' E' R' =>
          ⟨m - 1, by omega, t', s4, (E1.trans E13).trans E', R', by omega, ResS.step E' q4⟩
        cases e2 : b s2 with
        | nx s4 => rw [e2] at q1; exact nx s4 q1
        | ct s4 => rw [e2] at q1; exact nx s4 q1
        | bk s4 => rw [e2] at q1; exact q1
        | rt r s4 => rw [e2] at q1; exact q1
        | ex c x s4 => rw [e2] at q1; exact q1
        | no => rw [e2] at q1; exact q1
theorem ds_for {X : Cx} {W : WX} {tg iter : Expr} {body : List Stmt} {s : DL} {g : TG} {f : GT} {b : DS} {pos : Pos} {sl : List Nat} (hp : PassesOwn (model X.prog X.w) X.A X.env X.xe) (hc : X.calm = true) (hi : PI X tg iter (tI X.K W s)) (hg : PG X tg g) (tk : TgOk X.K g f sl) (hb : PSs X body (tS X.K W b))
    (hs : ∀ x, foldedSetIterable iter X.env x = pure x) : PS X (.For tg iter body [] pos) (tS X.K W (gFor s f b)) := PS.imp (ps_for hp hc hi hg hb hs) fun _ _ _ h => for_of tk h

/-! ### while -/
def gWhileN (c : DT) (b : DS) : Nat → DS
  | 0, _ => .no
  | n + 1, st => (c st).bindS fun k st1 => if k = true then (match b st1 with
      | .nx st2 => gWhileN c b n st2
      | .ct st2 => gWhileN c b n st2
      | .bk st2 => .nx st2
      | .rt r st2 => .rt r st2
      | .ex c x st2 => .ex c x st2
      | .no => .no) else .nx st1
theorem while_of {K : PySem.W.Frag} {W : WX} {c : DT} {b : DS} {D : Ends} {σ : L2.St} {H : Hp} {n : Nat} (h : tS K W (gWhileN c b n) D σ H) : tWhile (tT K W c) (tS K W b) D σ H := by
  obtain ⟨t, st, r, q⟩ := h
  refine ⟨fun m σ' H' => ∃ t' s', R K t' s' σ' H' ∧ ResS K W D t' H' (gWhileN c b m s'), ⟨n, t, st, r, q⟩, ?_⟩
  rintro m σ1 H1 ⟨t1, s1, R1, q1⟩
  cases m with
  | zero => exact q1.elim
  | succ m =>
    rw [gWhileN] at q1
    refine tT_atS R1 q1 fun t2 s2 H2 k E2 R2 q2 => ?_
    cases k with
    | false => exact q2 t2 σ1 H2 E2.w R2
    | true =>
      have q2 := ResS.step E2.w q2
      rw [if_pos rfl] at q2
      refine ⟨fun σ' H' => ∃ t' s', R K t' s' σ' H' ∧ ResS K W D t' H' (gWhileN c b m s'), fun σ' H' r' => ⟨m, Nat.lt_succ_self m, r'⟩, t2, s2, R2, ?_⟩
      have nx : ∀ s4, ResS K W D t2 H2 (gWhileN c b m s4) → ∀ t' σ' H', ExtW t2 H2 t' H' → R K t' s4 σ' H' → ∃ t' s', R K t' s' σ' H' ∧ ResS K W D t' H' (gWhileN c b m s') := fun s4 q4 t' σ' H' E' R' => ⟨t', s4, R', ResS.step E' q4⟩
      cases e2 : b s2 with
      | nx s4 => rw [e2] at q2; exact nx s4 q2
      | ct s4 => rw [e2] at q2; exact nx s4 q2
      | bk s4 => rw [e2] at q2; exact q2
      | rt r s4 => rw [e2] at q2; exact q2
      | ex c x s4 => rw [e2] at q2; exact q2
      | no => rw [e2] at q2; exact q2
/-- .. some number of turns is enough -/
def gWhile (c : DT) (b : DS) (fuel : DSt → Nat) : DS := fun st => gWhileN c b (fuel st) st
theorem ds_while {X : Cx} {W : WX} {c : Expr} {body : List Stmt} {tc : DT} {b : DS} {fuel : DSt → Nat} {pos : Pos} (hp : PassesOwn (model X.prog X.w) X.A X.env X.xe) (hc : PT X c (tT X.K W tc)) (hb : PSs X body (tS X.K W b)) : PS X (.While c body [] pos) (tS X.K W (gWhile tc b fuel)) :=
  PS.imp (ps_while hp hc hb) fun D σ H ⟨t, st, r, h⟩ => while_of (n := fuel st) ⟨t, st, r, h⟩
end Dn
end

section
set_option maxHeartbeats 4000000
-- Dn8
/-! Dn8: is, in; argument lists, displays, calls of built-ins, methods of texts, slices -/
namespace Dn
open PySem PySem.Spec L2
section
variable {X : Cx} {K : PySem.W.Frag} {t : Tags} {H : Hp} {Q : VK} {F : Hp} {r : Nat → Addr → Prop}
theorem vw_notNon {d : D} {v : V} (h : Vw K t H d v) (e : d ≠ .non) : v ≠ .non := by
  cases d with
  | non => exact absurd rfl e
  | bl _ => cases h; exact nofun
  | int _ => cases h; exact nofun
  | str _ => cases h; exact nofun
  | tup _ => obtain ⟨a, vs, rfl, _⟩ := h; exact nofun
  | lst _ => obtain ⟨a, vs, rfl, _⟩ := h; exact nofun
  | dct _ => obtain ⟨a, vs, rfl, _⟩ := h; exact nofun
  | ins _ _ => obtain ⟨a, vs, _, rfl, _⟩ := h; exact nofun
  | slt _ _ => obtain ⟨a, vs, _, rfl, _⟩ := h; exact nofun
  | nul => exact h.elim
  | exc c x =>
    have h : Dat K (fz t H) (rho t) (.exc c x) v := h
    rw [Dat] at h
    obtain ⟨a, vs, _, rfl, _⟩ := h; exact nofun
  | cell k =>
    have h : Dat K (fz t H) (rho t) (.cell k) v := h
    rw [Dat] at h
    obtain ⟨a, rfl, _⟩ := h; exact nofun
  | scr ns => obtain ⟨a, rfl, _⟩ := h; exact nofun
def isNone : D → Bool
  | .non => true
  | _ => false
def isND (a b : D) : Option RV := match b with
  | .non => bo (isNone a)
  | _ => none
def isntND (a b : D) : Option RV := match b with
  | .non => bo (!isNone a)
  | _ => none
theorem op_isND : OpR X (compareOp .Is) (rF X.K isND) := by
  intro pins s σ H x y v u Q I rx ry ⟨t, a, b, tg, da, db, h⟩
  unfold isND at h
  split at h
  · simp only [Vw] at db
    refine op_isN pins s σ H _ _ v u Q I rx ry ⟨db, ?_⟩
    have h := RO.bl h
    cases a with
    | non => cases da; exact h
    | _ => rw [decide_eq_false (vw_notNon da nofun)]; exact h
  · exact h.elim
theorem op_isntND : OpR X (compareOp .IsNot) (rF X.K isntND) := by
  intro pins s σ H x y v u Q I rx ry ⟨t, a, b, tg, da, db, h⟩
  unfold isntND at h
  split at h
  · simp only [Vw] at db
    refine op_notN pins s σ H _ _ v u Q I rx ry ⟨db, ?_⟩
    have h := RO.bl h
    cases a with
    | non => cases da; exact h
    | _ => rw [decide_eq_false (vw_notNon da nofun)]; exact h
  · exact h.elim
theorem flat_v {d : D} {v : V} (f : flatD d = true) (h : Dat K F r d v) : flatV v = true ∧ ∀ {e : D} {u : V}, flatD e = true → Dat K F r e u → eqV u v = eqF e d := by
  cases d <;> first
    | (rw [Dat] at h; subst h
       refine ⟨rfl, fun {e u} fe he => ?_⟩
       cases e <;> first
         | (rw [Dat] at he; subst he; rfl)
         | cases fe)
    | cases f
theorem flats_v : ∀ {ds : List D} {vs : List V}, ds.all flatD = true → Dats K F r ds vs → vs.all flatV = true ∧ ∀ {d : D} {v : V}, flatD d = true → Dat K F r d v → vs.any (fun y => eqV y v) = ds.any fun y => eqF y d
  | [], vs, f, h => by
    rw [Dats] at h
    subst h
    exact ⟨rfl, fun _ _ => rfl⟩
  | d :: ds, vs, f, h => by
    rw [Dats] at h
    obtain ⟨v, us, rfl, h1, h2⟩ := h
    rw [List.all_cons, Bool.and_eq_true] at f
    obtain ⟨q1, q2⟩ := flats_v f.2 h2
    refine ⟨by rw [List.all_cons, (flat_v f.1 h1).1, q1]; rfl, fun {d' v'} fd hd => ?_⟩
    rw [List.any_cons, List.any_cons, q2 fd hd, (flat_v fd hd).2 f.1 h1]
theorem vw_flat {d : D} {v : V} (f : flatD d = true) (h : Vw K t H d v) : Dat K (fz t H) (rho t) d v := by
  cases d <;> first
    | (rw [Dat]; exact h)
    | cases f
theorem in_str_occ {Q : Bool → Prop} : True := trivial
theorem op_inD : OpR X (compareOp .In) (rF X.K inD) := by
  intro pins s σ H x y v u Q I rx ry ⟨t, a, b, tg, da, db, h⟩
  unfold inD inB at h
  split at h
  · simp only [Vw] at da db
    subst da db
    exact op_in_str pins s σ H _ _ v u Q I rx ry ⟨_, _, rfl, rfl, RO.bl h⟩
  · split at h
    · rename_i hf
      obtain ⟨p, vs, rfl, sp, _, mp⟩ := db
      obtain ⟨q1, q2⟩ := flats_v hf.2 mp
      have fd := vw_flat hf.1 da
      exact op_in_seq pins s σ H _ _ v u Q I rx ry ⟨p, vs, rfl, .inl (SqL.of sp), (flat_v hf.1 fd).1, q1, by
        show Q (.bl (vs.any fun y => eqV y x)) H
        rw [q2 hf.1 fd]; exact RO.bl h⟩
    · exact h.elim
  · split at h
    · rename_i hf
      obtain ⟨p, vs, rfl, sp, mp⟩ := db
      obtain ⟨q1, q2⟩ := flats_v hf.2 mp
      have fd := vw_flat hf.1 da
      exact op_in_seq pins s σ H _ _ v u Q I rx ry ⟨p, vs, rfl, .inr (fz_le.sqT sp), (flat_v hf.1 fd).1, q1, by
        show Q (.bl (vs.any fun y => eqV y x)) H
        rw [q2 hf.1 fd]; exact RO.bl h⟩
    · exact h.elim
  · exact h.elim
theorem op_notInD : OpR X (compareOp .NotIn) (rF X.K notInD) := by
  intro pins s σ H x y v u Q I rx ry ⟨t, a, b, tg, da, db, h⟩
  unfold notInD inB at h
  split at h
  · simp only [Vw] at da db
    subst da db
    exact op_notIn_str pins s σ H _ _ v u Q I rx ry ⟨_, _, rfl, rfl, RO.bl h⟩
  · split at h
    · rename_i hf
      obtain ⟨p, vs, rfl, sp, _, mp⟩ := db
      obtain ⟨q1, q2⟩ := flats_v hf.2 mp
      have fd := vw_flat hf.1 da
      exact op_notIn_seq pins s σ H _ _ v u Q I rx ry ⟨p, vs, rfl, .inl (SqL.of sp), (flat_v hf.1 fd).1, q1, by
        show Q (.bl (!(vs.any fun y => eqV y x))) H
        rw [q2 hf.1 fd]; exact RO.bl h⟩
    · exact h.elim
  · split at h
    · rename_i hf
      obtain ⟨p, vs, rfl, sp, mp⟩ := db
      obtain ⟨q1, q2⟩ := flats_v hf.2 mp
      have fd := vw_flat hf.1 da
      exact op_notIn_seq pins s σ H _ _ v u Q I rx ry ⟨p, vs, rfl, .inr (fz_le.sqT sp), (flat_v hf.1 fd).1, q1, by
        show Q (.bl (!(vs.any fun y => eqV y x))) H
        rw [q2 hf.1 fd]; exact RO.bl h⟩
    · exact h.elim
  · exact h.elim
end

/-! ### argument lists -/
abbrev DAs := DSt → Out (List D)
abbrev PL := Tags → Hp → List D → List V → Prop
def ResA (K : PySem.W.Frag) (W : WX) (σ : L2.St) (Q : List V → Hp → Prop) (P : PL) (t : Tags) (H : Hp) : Out (List D) → Prop
  | .ok ds st' => ∀ t' H' vs, Ext t H t' H' → R K t' st' σ H' → P t' H' ds vs → Q vs H'
  | .ex c x st' => ∀ t' H' d, Ext t H t' H' → R K t' st' σ H' → ExAt K t' H' d x → W (.ref (He.ga K c)) (some d) σ H'
  | .no => False
def tA (K : PySem.W.Frag) (W : WX) (g : DAs) (P : PL) : TA := fun σ H Q => ∃ t st, R K t st σ H ∧ ResA K W σ Q P t H (g st)
theorem ResA.step {K : PySem.W.Frag} {W : WX} {σ : L2.St} {Q : List V → Hp → Prop} {P : PL} {t t1 : Tags} {H H1 : Hp} (E : Ext t H t1 H1) : ∀ {o : Out (List D)}, ResA K W σ Q P t H o → ResA K W σ Q P t1 H1 o
  | .ok r st', h => fun t' H' v E' R' p => h t' H' v (E.trans E') R' p
  | .ex c x st', h => fun t' H' d E' R' p => h t' H' d (E.trans E') R' p
  | .no, h => h
theorem tG_atA {α : Type} {K : PySem.W.Frag} {W : WX} {σ : L2.St} {t : Tags} {H : Hp} {Q : List V → Hp → Prop} {P : PL} {Q1 : VK} {P1 : RP α} {st : DSt} {g : DSt → Out α} {f : α → DSt → Out (List D)} (r : R K t st σ H)
    (h : ResA K W σ Q P t H ((g st).bind f))
    (k : ∀ t1 st1 H1 a v, Ext t H t1 H1 → R K t1 st1 σ H1 → P1 t H t1 H1 a v → ResA K W σ Q P t H (f a st1) → Q1 v H1) : tG K W g P1 σ H Q1 := by
  refine ⟨t, st, r, ?_⟩
  cases e : g st with
  | no => rw [e] at h; exact h
  | ex c x st' => rw [e] at h; exact h
  | ok a st' =>
    rw [e] at h
    exact fun t1 H1 v E1 R1 p1 => k t1 st' H1 a v E1 R1 p1 h
theorem tA_at {β : Type} {K : PySem.W.Frag} {W : WX} {σ : L2.St} {t : Tags} {H : Hp} {Q : VK} {Q1 : List V → Hp → Prop} {P : RP β} {P1 : PL} {st : DSt} {g : DAs} {f : List D → DSt → Out β} (r : R K t st σ H)
    (h : Res K W σ Q P t H ((g st).bind f))
    (k : ∀ t1 st1 H1 ds vs, Ext t H t1 H1 → R K t1 st1 σ H1 → P1 t1 H1 ds vs → Res K W σ Q P t H (f ds st1) → Q1 vs H1) : tA K W g P1 σ H Q1 := by
  refine ⟨t, st, r, ?_⟩
  cases e : g st with
  | no => rw [e] at h; exact h
  | ex c x st' => rw [e] at h; exact h
  | ok a st' =>
    rw [e] at h
    exact fun t1 H1 v E1 R1 p1 => k t1 st' H1 a v E1 R1 p1 h
theorem PA.imp {X : Cx} {es : List Expr} {t t' : TA} (h : PA X es t) (i : ∀ σ H Q, t' σ H Q → t σ H Q) : PA X es t' := ⟨fun pos pins s σ H Q I q => h.run pos pins s σ H Q I (i σ H Q q)⟩
def PLz (K : PySem.W.Frag) : PL := fun t H ds vs => Dats K (fz t H) (rho t) ds vs
def Vws (K : PySem.W.Frag) (t : Tags) (H : Hp) : List D → List V → Prop
  | [], vs => vs = []
  | d :: ds, vs => ∃ v us, vs = v :: us ∧ Vw K t H d v ∧ Vws K t H ds us
theorem Vws.step {K : PySem.W.Frag} {t t1 : Tags} {H H1 : Hp} (E : Ext t H t1 H1) : ∀ {ds : List D} {vs : List V}, Vws K t H ds vs → Vws K t1 H1 ds vs
  | [], _, h => h
  | _ :: _, _, ⟨v, us, e, h1, h2⟩ => ⟨v, us, e, h1.step E, h2.step E⟩
def gNilA : DAs := fun st => .ok [] st
def gConsA (g : DZ) (gs : DAs) : DAs := fun st => (g st).bind fun d st => (gs st).bind fun ds st => .ok (d :: ds) st
section
variable {X : Cx} {W : WX} {e a b : Expr} {es : List Expr} {g za zb : DZ} {gs : DAs} {pos : Pos}
theorem da_nil : PA X [] (tA X.K W gNilA (PLz X.K)) := PA.imp pa_nil fun σ H Q ⟨t, st, r, h⟩ => h t H [] (Ext.refl t H) r Dats.nil
theorem dv_nil : PA X [] (tA X.K W gNilA (Vws X.K)) := PA.imp pa_nil fun σ H Q ⟨t, st, r, h⟩ => h t H [] (Ext.refl t H) r rfl
theorem consA_of {K : PySem.W.Frag} {P : PL} {P1 : RP D} (sp : ∀ {t H t1 H1 t2 H2 d ds v vs}, P1 t H t1 H1 d v → Ext t1 H1 t2 H2 → P t2 H2 ds vs → P t2 H2 (d :: ds) (v :: vs)) {σ : L2.St} {H : Hp} {Q : List V → Hp → Prop}
    (h : tA K W (gConsA g gs) P σ H Q) : tCons (tG K W g P1) (tA K W gs P) σ H Q := by
  obtain ⟨t, st, r, h⟩ := h
  refine tG_atA r h fun t1 st1 H1 d v E1 R1 p1 q1 => ?_
  refine ⟨t1, st1, R1, ?_⟩
  have q1 := ResA.step E1 q1
  cases e : gs st1 with
  | no => rw [e] at q1; exact q1
  | ex c x st' => rw [e] at q1; exact q1
  | ok ds st' =>
    rw [e] at q1
    exact fun t2 H2 vs E2 R2 p2 => q1 t2 H2 (v :: vs) E2 R2 (sp p1 E2 p2)
theorem da_cons (h : PE X e (tZ X.K W g)) (hr : PA X es (tA X.K W gs (PLz X.K))) (hs : starEach (e :: es) X.env = (false, eval e X.env) :: starEach es X.env) : PA X (e :: es) (tA X.K W (gConsA g gs) (PLz X.K)) :=
  PA.imp (pa_cons h hr hs) fun _ _ _ q => consA_of (P1 := PZ X.K) (fun p1 E p2 => Dats.cons (E.dat p1) p2) q
theorem dv_cons (h : PE X e (tV X.K W g)) (hr : PA X es (tA X.K W gs (Vws X.K))) (hs : starEach (e :: es) X.env = (false, eval e X.env) :: starEach es X.env) : PA X (e :: es) (tA X.K W (gConsA g gs) (Vws X.K)) :=
  PA.imp (pa_cons h hr hs) fun _ _ _ q => consA_of (P1 := PV X.K) (fun p1 E p2 => ⟨_, _, rfl, Vw.step E p1, p2⟩) q
/-! ### displays -/
def gLst (gs : DAs) : DE := fun st => (gs st).bind fun ds st => if ds.length ≤ sizeLine then .ok (.ow (.lst ds)) st else .no
def gTup (gs : DAs) : DE := fun st => (gs st).bind fun ds st => if ds.length ≤ sizeLine then .ok (.sh (.tup ds)) st else .no
theorem de_lst (h : PA X es (tA X.K W gs (PLz X.K))) : PE X (.List es pos) (tD X.K W (gLst gs)) := by
  refine PE.imp (pe_lst h) fun σ H Q ⟨t, st, r, q⟩ => ?_
  refine tA_at r q fun t1 st1 H1 ds vs E1 R1 p1 q1 => ?_
  have p1 : Dats X.K (fz t1 H1) (rho t1) ds vs := p1
  split at q1
  · rename_i hz
    rw [p1.length] at hz
    have q2 := Res.step0 E1 q1
    exact ⟨hz, RO.newL R1.tagOk (res_opt (o := some _) R1 q2) p1⟩
  · exact q1.elim
theorem de_tup {x1 : Nat} (h : PA X es (tA X.K W gs (PLz X.K))) : PE X (.Tuple es x1 pos) (tD X.K W (gTup gs)) := by
  refine PE.imp (pe_tup h) fun σ H Q ⟨t, st, r, q⟩ => ?_
  refine tA_at r q fun t1 st1 H1 ds vs E1 R1 p1 q1 => ?_
  have p1 : Dats X.K (fz t1 H1) (rho t1) ds vs := p1
  split at q1
  · rename_i hz
    rw [p1.length] at hz
    have q2 := Res.step0 E1 q1
    exact ⟨hz, RO.newT R1.tagOk (res_opt (o := some _) R1 q2) p1⟩
  · exact q1.elim
/-! ### built-in functions and types, called by name -/
def rC (K : PySem.W.Frag) (f : List D → Option RV) : List V → Hp → VK → Prop := fun vs H Q => ∃ t ds, TagOk t H ∧ Vws K t H ds vs ∧ RO K t H Q (f ds)
def gCall (f : List D → Option RV) (gs : DAs) : DE := fun st => (gs st).bind fun ds st => opt (f ds) st
theorem callB_of {K : PySem.W.Frag} {f : List D → Option RV} {σ : L2.St} {H : Hp} {Q : VK} (h : tD K W (gCall f gs) σ H Q) : tCB (rC K f) (tA K W gs (Vws K)) σ H Q := by
  obtain ⟨t, st, r, q⟩ := h
  refine tA_at r q fun t1 st1 H1 ds vs E1 R1 p1 q1 => ?_
  exact ⟨t1, ds, R1.tagOk, p1, res_opt R1 (Res.step0 E1 q1)⟩
theorem de_callB {f : List D → Option RV} {x : Str} {id : String} {p : Pos} (hc : CallR X (.builtin id) (rC X.K f)) (hg : Gl X x) (hm : X.mg x = none) (hv : bootBuiltins x = some (.builtin id)) (ha : PA X (e :: es) (tA X.K W gs (Vws X.K))) (hn : x ≠ "__name__") (hdb : (x == ("__debug__" : Str)) = false)
    (he : starEach (e :: es) X.env = (false, eval e X.env) :: starEach es X.env) (hpl : (backTo pos (starEach es X.env)).any (·.1) = false) : PE X (.Call (.Name x p) (e :: es) [] pos) (tD X.K W (gCall f gs)) :=
  PE.imp (pe_callB hc hg hm hv ha hn hdb he hpl) fun _ _ _ q => callB_of q
theorem de_callTy {f : List D → Option RV} {x : Str} {T : String} {p : Pos} (hc : CallR X (.type T) (rC X.K f)) (hg : Gl X x) (hm : X.mg x = none) (hv : bootBuiltins x = some (.type T)) (ha : PA X (e :: es) (tA X.K W gs (Vws X.K))) (hn : x ≠ "__name__") (hdb : (x == ("__debug__" : Str)) = false)
    (he : starEach (e :: es) X.env = (false, eval e X.env) :: starEach es X.env) (hpl : (backTo pos (starEach es X.env)).any (·.1) = false) : PE X (.Call (.Name x p) (e :: es) [] pos) (tD X.K W (gCall f gs)) :=
  PE.imp (pe_callTy hc hg hm hv ha hn hdb he hpl) fun _ _ _ q => callB_of q
def bad : Option RV := none
def lenD : List D → Option RV
  | [.lst xs] => some (.sh (.int xs.length))
  | [.tup xs] => some (.sh (.int xs.length))
  | [.scr xs] => some (.sh (.int xs.length))
  | [.str x] => if x.length ≤ sizeLine then some (.sh (.int x.length)) else none
  | _ => none
theorem vws1 {K : PySem.W.Frag} {t : Tags} {H : Hp} {d : D} {vs : List V} (h : Vws K t H [d] vs) : ∃ v, vs = [v] ∧ Vw K t H d v := by
  obtain ⟨v, us, rfl, h1, h2⟩ := h
  cases h2
  exact ⟨v, rfl, h1⟩
theorem vws2 {K : PySem.W.Frag} {t : Tags} {H : Hp} {d e : D} {vs : List V} (h : Vws K t H [d, e] vs) : ∃ v w, vs = [v, w] ∧ Vw K t H d v ∧ Vw K t H e w := by
  obtain ⟨v, us, rfl, h1, h2⟩ := h
  obtain ⟨w, rfl, h3⟩ := vws1 h2
  exact ⟨v, w, rfl, h1, h3⟩
theorem cr_len : CallR X (.builtin "len") (rC X.K lenD) := by
  intro pins s σ H vs us Q I r ⟨t, ds, tg, m, h⟩
  unfold lenD at h
  split at h
  · obtain ⟨v, rfl, d⟩ := vws1 m
    obtain ⟨a, xs, rfl, sp, _, mp⟩ := d
    exact call_len_seq pins s σ H _ us Q I r ⟨a, xs, rfl, .inl (SqL.of sp), by rw [← mp.length]; exact h.int⟩
  · obtain ⟨v, rfl, d⟩ := vws1 m
    obtain ⟨a, xs, rfl, sp, mp⟩ := d
    exact call_len_seq pins s σ H _ us Q I r ⟨a, xs, rfl, .inr (fz_le.sqT sp), by rw [← mp.length]; exact h.int⟩
  · obtain ⟨v, rfl, d⟩ := vws1 m
    obtain ⟨a, rfl, sp⟩ := d
    exact call_len_seq pins s σ H _ us Q I r ⟨a, _, rfl, .inl (fz_le.sqL sp), by rw [List.length_map]; exact h.int⟩
  · split at h
    · rename_i hz
      obtain ⟨v, rfl, d⟩ := vws1 m
      cases d
      exact call_len_str pins s σ H _ us Q I r ⟨_, rfl, hz, h.int⟩
    · exact h.elim
  · exact h.elim
def absD : List D → Option RV
  | [.int i] => some (.sh (.int (if i < 0 then -i else i)))
  | _ => none
theorem cr_abs : CallR X (.builtin "abs") (rC X.K absD) := by
  intro pins s σ H vs us Q I r ⟨t, ds, tg, m, h⟩
  unfold absD at h
  split at h
  · obtain ⟨v, rfl, d⟩ := vws1 m
    cases d
    exact call_abs pins s σ H _ us Q I r ⟨_, rfl, h.int⟩
  · exact h.elim
def max2D : List D → Option RV
  | [.int i, .int j] => some (.sh (.int (if j > i then j else i)))
  | _ => none
def min2D : List D → Option RV
  | [.int i, .int j] => some (.sh (.int (if j < i then j else i)))
  | _ => none
theorem cr_max2 (hc : X.calm = true) : CallR X (.builtin "max") (rC X.K max2D) := by
  intro pins s σ H vs us Q I r ⟨t, ds, tg, m, h⟩
  unfold max2D at h
  split at h
  · obtain ⟨v, w, rfl, d, e⟩ := vws2 m
    cases d; cases e
    exact call_max2 hc pins s σ H _ us Q I r ⟨_, _, rfl, h.int⟩
  · exact h.elim
theorem cr_min2 (hc : X.calm = true) : CallR X (.builtin "min") (rC X.K min2D) := by
  intro pins s σ H vs us Q I r ⟨t, ds, tg, m, h⟩
  unfold min2D at h
  split at h
  · obtain ⟨v, w, rfl, d, e⟩ := vws2 m
    cases d; cases e
    exact call_min2 hc pins s σ H _ us Q I r ⟨_, _, rfl, h.int⟩
  · exact h.elim
def intD : List D → Option RV
  | [.int i] => some (.sh (.int i))
  | [.bl k] => some (.sh (.int (if k then 1 else 0)))
  | _ => none
theorem cr_int : CallR X (.type "int") (rC X.K intD) := by
  intro pins s σ H vs us Q I r ⟨t, ds, tg, m, h⟩
  unfold intD at h
  split at h
  · obtain ⟨v, rfl, d⟩ := vws1 m
    cases d
    exact call_int1 pins s σ H _ us Q I r (.inl ⟨_, rfl, h.int⟩)
  · obtain ⟨v, rfl, d⟩ := vws1 m
    cases d
    exact call_int1 pins s σ H _ us Q I r (.inr ⟨_, rfl, h.int⟩)
  · exact h.elim
def listD : List D → Option RV
  | [.lst xs] => some (.ow (.lst xs))
  | [.tup xs] => some (.ow (.lst xs))
  | _ => none
theorem cr_list : CallR X (.type "list") (rC X.K listD) := by
  intro pins s σ H vs us Q I r ⟨t, ds, tg, m, h⟩
  unfold listD at h
  split at h
  · obtain ⟨v, rfl, d⟩ := vws1 m
    obtain ⟨a, xs, rfl, sp, _, mp⟩ := d
    exact call_list_of pins s σ H _ us Q I r ⟨a, xs, rfl, .inl (SqL.of sp), h.newL tg mp⟩
  · obtain ⟨v, rfl, d⟩ := vws1 m
    obtain ⟨a, xs, rfl, sp, mp⟩ := d
    exact call_list_of pins s σ H _ us Q I r ⟨a, xs, rfl, .inr (fz_le.sqT sp), h.newL tg mp⟩
  · exact h.elim
def tupleD : List D → Option RV
  | [.lst xs] => some (.sh (.tup xs))
  | [.tup xs] => some (.sh (.tup xs))
  | _ => none
theorem cr_tuple : CallR X (.type "tuple") (rC X.K tupleD) := by
  intro pins s σ H vs us Q I r ⟨t, ds, tg, m, h⟩
  unfold tupleD at h
  split at h
  · obtain ⟨v, rfl, d⟩ := vws1 m
    obtain ⟨a, xs, rfl, sp, _, mp⟩ := d
    exact call_tuple_of pins s σ H _ us Q I r ⟨a, xs, rfl, .inl ⟨SqL.of sp, h.newT tg mp⟩⟩
  · obtain ⟨v, rfl, d⟩ := vws1 m
    have d0 := d
    obtain ⟨a, xs, rfl, sp, mp⟩ := d
    exact call_tuple_of pins s σ H _ us Q I r ⟨a, xs, rfl, .inr ⟨fz_le.sqT sp, h.val (by rw [Dat]; exact d0)⟩⟩
  · exact h.elim
def bools : List D → Option (List Bool)
  | [] => some []
  | .bl b :: ds => (bools ds).map (b :: ·)
  | _ => none
theorem bools_v {K : PySem.W.Frag} {F : Hp} {r : Nat → Addr → Prop} : ∀ {ds : List D} {vs : List V} {bs : List Bool}, bools ds = some bs → Dats K F r ds vs → vs = bs.map V.bl
  | [], vs, bs, e, h => by
    cases e
    rw [Dats] at h
    exact h
  | d :: ds, vs, bs, e, h => by
    rw [Dats] at h
    obtain ⟨v, us, rfl, h1, h2⟩ := h
    cases d with
    | bl b =>
      rw [bools] at e
      obtain ⟨bs', e', rfl⟩ := Option.map_eq_some_iff.mp e
      rw [Dat] at h1
      rw [h1, bools_v e' h2]
      rfl
    | _ => cases e
def allD : List D → Option RV
  | [.lst xs] => (bools xs).map fun bs => .sh (.bl (bs.all id))
  | _ => none
def anyD : List D → Option RV
  | [.lst xs] => (bools xs).map fun bs => .sh (.bl (bs.any id))
  | _ => none
theorem cr_allD (hc : X.calm = true) : CallR X (.builtin "all") (rC X.K allD) := by
  intro pins s σ H vs us Q I r ⟨t, ds, tg, m, h⟩
  unfold allD at h
  split at h
  · obtain ⟨v, rfl, d⟩ := vws1 m
    obtain ⟨a, xs, rfl, sp, _, mp⟩ := d
    rename_i ys _
    cases e : bools ys with
    | none => rw [e] at h; exact h.elim
    | some bs =>
      rw [e] at h
      exact cr_all hc pins s σ H _ us Q I r ⟨a, bs, rfl, by rw [← bools_v e mp]; exact SqL.of sp, RO.bl h⟩
  · exact h.elim
theorem cr_anyD (hc : X.calm = true) : CallR X (.builtin "any") (rC X.K anyD) := by
  intro pins s σ H vs us Q I r ⟨t, ds, tg, m, h⟩
  unfold anyD at h
  split at h
  · obtain ⟨v, rfl, d⟩ := vws1 m
    obtain ⟨a, xs, rfl, sp, _, mp⟩ := d
    rename_i ys _
    cases e : bools ys with
    | none => rw [e] at h; exact h.elim
    | some bs =>
      rw [e] at h
      exact cr_any hc pins s σ H _ us Q I r ⟨a, bs, rfl, by rw [← bools_v e mp]; exact SqL.of sp, RO.bl h⟩
  · exact h.elim
/-! ### methods of texts -/
def gM1 (f : Str → D → Option RV) (za zb : DZ) : DE := fun st => (za st).bind fun a st => match a with
  | .str x => (zb st).bind fun b st => opt (f x b) st
  | _ => .no
def rM (K : PySem.W.Frag) (f : Str → D → Option RV) : V → List V → Hp → VK → Prop := fun x xs H Q => ∃ t y b v, x = .str y ∧ xs = [v] ∧ TagOk t H ∧ Vw K t H b v ∧ RO K t H Q (f y b)
theorem m1_of {K : PySem.W.Frag} {f : Str → D → Option RV} {r' : V → List V → Hp → VK → Prop} (hr : ∀ x xs H Q, rM K f x xs H Q → r' x xs H Q) {σ : L2.St} {H : Hp} {Q : VK} (h : tD K W (gM1 f za zb) σ H Q) : tM1 r' (tV K W za) (tV K W zb) σ H Q := by
  obtain ⟨t, st, r, q⟩ := h
  refine tG_at r q fun t1 st1 H1 a v E1 R1 p1 q1 => ?_
  cases a with
  | str x =>
    have p1 : v = .str x := p1
    refine ⟨⟨x, p1⟩, ?_⟩
    refine tG_at R1 (Res.step0 E1 q1) fun t2 st2 H2 b w E2 R2 p2 q2 => ?_
    exact hr _ _ _ _ ⟨t2, x, b, w, p1, rfl, R2.tagOk, p2, res_opt R2 (Res.step0 E2 q2)⟩
  | _ => exact q1.elim
def strL : List Str → List D := fun ys => ys.map D.str
theorem dats_strs {K : PySem.W.Frag} {F : Hp} {r : Nat → Addr → Prop} : ∀ ys : List Str, Dats K F r (strL ys) (ys.map V.str)
  | [] => Dats.nil
  | y :: ys => Dats.cons (by rw [Dat]) (dats_strs ys)
def splitD (x : Str) : D → Option RV
  | .str y => if (y.length == 0) = false ∧ x.length + 2 ≤ sizeLine then some (.ow (.lst (strL (Txt.split x y)))) else none
  | _ => none
def strsOf : List D → Option (List Str)
  | [] => some []
  | .str x :: ds => (strsOf ds).map (x :: ·)
  | _ => none
theorem strs_v {K : PySem.W.Frag} {F : Hp} {r : Nat → Addr → Prop} : ∀ {ds : List D} {vs : List V} {bs : List Str}, strsOf ds = some bs → Dats K F r ds vs → vs = bs.map V.str
  | [], vs, bs, e, h => by
    cases e
    rw [Dats] at h
    exact h
  | d :: ds, vs, bs, e, h => by
    rw [Dats] at h
    obtain ⟨v, us, rfl, h1, h2⟩ := h
    cases d with
    | str b =>
      rw [strsOf] at e
      obtain ⟨bs', e', rfl⟩ := Option.map_eq_some_iff.mp e
      rw [Dat] at h1
      rw [h1, strs_v e' h2]
      rfl
    | _ => cases e
def joinS (x : Str) (ds : List D) : Option RV := match strsOf ds with
  | some ys => if (ys.map (·.length)).sum + ys.length * x.length ≤ 16777216 then some (.sh (.str (Txt.join x ys))) else none
  | none => none
def joinD (x : Str) : D → Option RV
  | .lst ds => joinS x ds
  | .tup ds => joinS x ds
  | _ => none
theorem de_split {apos : Pos} (ho : PE X a (tV X.K W za)) (he : PE X b (tV X.K W zb)) (hs : starEach [b] X.env = [(false, eval b X.env)]) (hbase : attributeBase a "split" X.env (eval a X.env) = eval a X.env) (hline : (apos.endLine == pos.line) = true) :
    PE X (.Call (.Attribute a "split" apos) [b] [] pos) (tD X.K W (gM1 splitD za zb)) :=
  PE.imp (pe_split ho he hs hbase hline) fun _ _ _ q => m1_of (fun x xs H Q ⟨t, y, d, v, ex, exs, tg, m, h⟩ => by
    unfold splitD at h
    split at h
    · cases m
      split at h
      · rename_i hz
        exact ⟨y, _, ex, exs, hz.1, hz.2, RO.newL tg h (dats_strs _)⟩
      · exact h.elim
    · exact h.elim) q
theorem de_join {apos : Pos} (ho : PE X a (tV X.K W za)) (he : PE X b (tV X.K W zb)) (hs : starEach [b] X.env = [(false, eval b X.env)]) (hbase : attributeBase a "join" X.env (eval a X.env) = eval a X.env) (hline : (apos.endLine == pos.line) = true) :
    PE X (.Call (.Attribute a "join" apos) [b] [] pos) (tD X.K W (gM1 joinD za zb)) :=
  PE.imp (pe_join ho he hs hbase hline) fun _ _ _ q => m1_of (fun x xs H Q ⟨t, y, d, v, ex, exs, tg, m, h⟩ => by
    unfold joinD joinS at h
    split at h
    · obtain ⟨p, vs, rfl, sp, _, mp⟩ := m
      split at h
      · rename_i ys e
        split at h
        · rename_i hz
          exact ⟨y, p, ys, ex, exs, .inl (by rw [← strs_v e mp]; exact SqL.of sp), hz, h.str⟩
        · exact h.elim
      · exact h.elim
    · obtain ⟨p, vs, rfl, sp, mp⟩ := m
      split at h
      · rename_i ys e
        split at h
        · rename_i hz
          exact ⟨y, p, ys, ex, exs, .inr (by rw [← strs_v e mp]; exact fz_le.sqT sp), hz, h.str⟩
        · exact h.elim
      · exact h.elim
    · exact h.elim) q
end
end Dn
end

section
set_option maxHeartbeats 4000000
-- Dn9
/-! Dn9: subscripts, slices, comprehensions, stores, methods of lists -/
namespace Dn
open PySem PySem.Spec L2
section
variable {X : Cx} {W : WX} {e a b : Expr} {g za zb : DZ} {pos : Pos}
theorem de_ix {f : D → D → Option RV} (hr : IxR X (rF X.K f)) (ha : PE X a (tV X.K W za)) (hb : PE X b (tV X.K W zb)) (hs : PlainIx b) : PE X (.Subscript a b pos) (tD X.K W (gBin f za zb)) :=
  PE.imp (pe_ix hr ha hb hs) fun _ _ _ q => bin_of q
/-! ### the cells of the store -/
def cellAt (st : DSt) : D → Option (List D)
  | .cell k => match st.S[k]? with
    | some (.lst xs) => some xs
    | _ => none
  | _ => none
def gCix (za zb : DZ) : DE := fun st => (za st).bind fun a st => (zb st).bind fun b st => match cellAt st a with
  | some xs => opt (ixD (.lst xs) b) st
  | none => .no
theorem cell_of {K : PySem.W.Frag} {t : Tags} {st : DSt} {σ : L2.St} {H : Hp} (r : R K t st σ H) {d : D} {v : V} {xs : List D} (h : Vw K t H d v) (e : cellAt st d = some xs) : ∃ k a vs, d = .cell k ∧ st.S[k]? = some (.lst xs) ∧ v = .ref a ∧ t a = .cell k ∧ H a = some (.lst vs) ∧ Dats K (fz t H) (rho t) xs vs := by
  unfold cellAt at e
  split at e
  · rename_i k
    split at e
    · rename_i ys hk
      cases e
      have h : Dat K (fz t H) (rho t) (.cell k) v := h
      rw [Dat] at h
      obtain ⟨a, rfl, ha⟩ := h
      obtain ⟨a', h1, h2, vs, h3, h4⟩ := r.r0.cel k _ hk
      have ea : a = a' := h2 a ha
      subst ea
      exact ⟨k, a, vs, rfl, hk, rfl, h1, h3, h4⟩
    · cases e
  · cases e
theorem de_cix (ha : PE X a (tV X.K W za)) (hb : PE X b (tV X.K W zb)) (hs : PlainIx b) : PE X (.Subscript a b pos) (tD X.K W (gCix za zb)) := by
  refine PE.imp (pe_ix ix_seq ha hb hs) fun σ H Q ⟨t, st, r, q⟩ => ?_
  refine tG_at r q fun t1 st1 H1 d v E1 R1 p1 q1 => ?_
  refine tG_at R1 (Res.step0 E1 q1) fun t2 st2 H2 i w E2 R2 p2 q2 => ?_
  have p1 : Vw X.K t2 H2 d v := Vw.step E2 p1
  have q9 := Res.step0 E2 q2
  cases ec : cellAt st2 d with
  | none => rw [ec] at q9; exact q9.elim
  | some xs =>
    rw [ec] at q9
    obtain ⟨k, p, vs, ed, hk, rfl, ht, hp, m⟩ := cell_of R2 p1 ec
    have q3 := res_opt R2 q9
    unfold ixD at q3
    cases i with
    | int i =>
      have p2 : w = .int i := p2
      cases ea : atI xs i with
      | none => simp only [ea] at q3; exact q3.elim
      | some x =>
        simp only [ea] at q3
        obtain ⟨u, e1, h1⟩ := m.at ea
        exact .inl ⟨p, vs, i, u, rfl, p2, SqL.of hp, e1, RO.val q3 h1⟩
    | _ => exact q3.elim
/-! ### slices -/
abbrev DP := DSt → Out (Option Int)
def gPart (z : DZ) : DP := fun st => (z st).bind fun d st => match d with
  | .int i => .ok (some i) st
  | _ => .no
def gNoPart : DP := fun st => .ok none st
def ResP (K : PySem.W.Frag) (W : WX) (σ : L2.St) (Q : Option Int → Hp → Prop) (t : Tags) (H : Hp) : Out (Option Int) → Prop
  | .ok o st' => ∀ t' H', Ext t H t' H' → R K t' st' σ H' → Q o H'
  | .ex c x st' => ∀ t' H' d, Ext t H t' H' → R K t' st' σ H' → ExAt K t' H' d x → W (.ref (He.ga K c)) (some d) σ H'
  | .no => False
def tP (K : PySem.W.Frag) (W : WX) (g : DP) : TO := fun σ H Q => ∃ t st, R K t st σ H ∧ ResP K W σ Q t H (g st)
theorem PO.imp {e : Option Expr} {t t' : TO} (h : PO X e t) (i : ∀ σ H Q, t' σ H Q → t σ H Q) : PO X e t' := ⟨fun pins s σ H Q I q => h.run pins s σ H Q I (i σ H Q q)⟩
theorem dp_none : PO X none (tP X.K W gNoPart) := PO.imp po_none fun σ H Q ⟨t, st, r, q⟩ => q t H (Ext.refl t H) r
theorem dp_some (h : PE X e (tV X.K W g)) : PO X (some e) (tP X.K W (gPart g)) := by
  refine PO.imp (po_some h) fun σ H Q ⟨t, st, r, q⟩ => ?_
  refine ⟨t, st, r, ?_⟩
  unfold gPart at q
  cases ee : g st with
  | no => rw [ee] at q; exact q
  | ex c x st' => rw [ee] at q; exact q
  | ok d st' =>
    rw [ee] at q
    intro t1 H1 v E1 R1 p1
    cases d with
    | int i => exact ⟨i, p1, q t1 H1 E1 R1⟩
    | _ => exact q.elim
theorem tP_at {β : Type} {K : PySem.W.Frag} {σ : L2.St} {t : Tags} {H : Hp} {Q : VK} {Q1 : Option Int → Hp → Prop} {P : RP β} {st : DSt} {g : DP} {f : Option Int → DSt → Out β} (r : R K t st σ H)
    (h : Res K W σ Q P t H ((g st).bind f))
    (k : ∀ t1 st1 H1 o, Ext t H t1 H1 → R K t1 st1 σ H1 → Res K W σ Q P t H (f o st1) → Q1 o H1) : tP K W g σ H Q1 := by
  refine ⟨t, st, r, ?_⟩
  cases e : g st with
  | no => rw [e] at h; exact h
  | ex c x st' => rw [e] at h; exact h
  | ok a st' =>
    rw [e] at h
    exact fun t1 H1 E1 R1 => k t1 st' H1 a E1 R1 h
def cutD (xs : List D) (lo hi : Option Int) : List D := (xs.drop (HT.sIx xs.length 0 lo)).take (HT.sIx xs.length xs.length hi - HT.sIx xs.length 0 lo)
theorem Dats.drop {K : PySem.W.Frag} {F : Hp} {r : Nat → Addr → Prop} : ∀ {ds : List D} {vs : List V} (n : Nat), Dats K F r ds vs → Dats K F r (ds.drop n) (vs.drop n)
  | _, _, 0, h => by rw [List.drop_zero, List.drop_zero]; exact h
  | [], vs, n + 1, h => by
    rw [Dats] at h
    subst h
    rw [List.drop_nil, List.drop_nil]
    exact Dats.nil
  | d :: ds, vs, n + 1, h => by
    rw [Dats] at h
    obtain ⟨v, us, rfl, h1, h2⟩ := h
    exact Dats.drop n h2
theorem Dats.take {K : PySem.W.Frag} {F : Hp} {r : Nat → Addr → Prop} : ∀ {ds : List D} {vs : List V} (n : Nat), Dats K F r ds vs → Dats K F r (ds.take n) (vs.take n)
  | _, _, 0, h => by rw [List.take_zero, List.take_zero]; exact Dats.nil
  | [], vs, n + 1, h => by
    rw [Dats] at h
    subst h
    rw [List.take_nil, List.take_nil]
    exact Dats.nil
  | d :: ds, vs, n + 1, h => by
    rw [Dats] at h
    obtain ⟨v, us, rfl, h1, h2⟩ := h
    exact Dats.cons h1 (Dats.take n h2)
theorem dats_cut {K : PySem.W.Frag} {F : Hp} {r : Nat → Addr → Prop} {ds : List D} {vs : List V} (h : Dats K F r ds vs) (lo hi : Option Int) : Dats K F r (cutD ds lo hi) (cutV vs lo hi) := by
  unfold cutD cutV
  rw [h.length]
  exact Dats.take _ (Dats.drop _ h)
def slD (d : D) (lo hi : Option Int) : Option RV := match d with
  | .lst xs => some (.ow (.lst (cutD xs lo hi)))
  | .tup xs => some (.sh (.tup (cutD xs lo hi)))
  | .str x => if x.length ≤ sizeLine then some (.sh (.str (Txt.slice x lo hi))) else none
  | _ => none
def gSlice (z : DZ) (l h : DP) : DE := fun st => (z st).bind fun d st => (l st).bind fun lo st => (h st).bind fun hi st => opt (slD d lo hi) st
theorem de_slice {lo hi : Option Expr} {gl gh : DP} {p2 : Pos} (he : PE X e (tV X.K W g)) (hl : PO X lo (tP X.K W gl)) (hu : PO X hi (tP X.K W gh)) : PE X (.Subscript e (.Slice lo hi none p2) pos) (tD X.K W (gSlice g gl gh)) := by
  refine PE.imp (pe_slice ((SlR.or sl_list sl_tupA).or C8.sl_txt) he hl hu) fun σ H Q ⟨t, st, r, q⟩ => ?_
  refine tG_at r q fun t1 st1 H1 d v E1 R1 p1 q1 => ?_
  refine tP_at R1 (Res.step0 E1 q1) fun t2 st2 H2 o1 E2 R2 q2 => ?_
  refine tP_at R2 (Res.step0 E2 q2) fun t3 st3 H3 o2 E3 R3 q3 => ?_
  have p3 : Vw X.K t3 H3 d v := Vw.step (E2.trans E3) p1
  have q4 := res_opt R3 (Res.step0 E3 q3)
  unfold slD at q4
  split at q4
  · obtain ⟨a, vs, rfl, sp, _, mp⟩ := p3
    exact .inl (.inl ⟨a, vs, rfl, SqL.of sp, q4.newL R3.tagOk (dats_cut mp _ _)⟩)
  · have p4 := p3
    obtain ⟨a, vs, rfl, sp, mp⟩ := p3
    refine .inl (.inr ⟨a, vs, rfl, fz_le.sqT sp, fun hw => ?_, fun _ => q4.newT R3.tagOk (dats_cut mp _ _)⟩)
    rename_i xs
    have ec : cutD xs o1 o2 = xs := by
      unfold cutD
      rw [mp.length, hw.1, hw.2, List.drop_zero, Nat.sub_zero, ← mp.length, List.take_length]
    rw [ec] at q4
    exact q4.val (by rw [Dat]; exact p4)
  · split at q4
    · rename_i hz
      cases p3
      exact .inr ⟨_, rfl, hz, q4.str⟩
    · exact q4.elim
  · exact q4.elim
end

/-! ### comprehensions -/
def wipeE (env : List (Option RV)) : List Nat → List (Option RV)
  | [] => env
  | v :: vs => (wipeE env vs).set v none
/-- what the slots at vs held, and still hold -/
def keepE (old env : List (Option RV)) : List Nat → List (Option RV)
  | [] => env
  | v :: vs => (keepE old env vs).set v (match old[v]? with
    | some (some (.sh d)) => some (.sh d)
    | _ => none)
theorem wipeE_length (env : List (Option RV)) : ∀ vs : List Nat, (wipeE env vs).length = env.length
  | [] => rfl
  | v :: vs => by rw [wipeE, List.length_set, wipeE_length env vs]
theorem keepE_length (old env : List (Option RV)) : ∀ vs : List Nat, (keepE old env vs).length = env.length
  | [] => rfl
  | v :: vs => by rw [keepE, List.length_set, keepE_length old env vs]
theorem wipeE_get {env : List (Option RV)} {i : Nat} {x : RV} : ∀ {vs : List Nat}, (wipeE env vs)[i]? = some (some x) → env[i]? = some (some x) ∧ i ∉ vs
  | [], h => ⟨h, by simp⟩
  | v :: vs, h => by
    rw [wipeE] at h
    by_cases e : v = i
    · subst e
      by_cases hl : v < (wipeE env vs).length
      · rw [List.getElem?_set_self hl] at h; cases h
      · rw [List.getElem?_eq_none (by simpa using hl)] at h; cases h
    · rw [List.getElem?_set_ne e] at h
      obtain ⟨h1, h2⟩ := wipeE_get h
      exact ⟨h1, by simp [Ne.symm e, h2]⟩
theorem keepE_get {old env : List (Option RV)} {i : Nat} {x : RV} : ∀ {vs : List Nat}, (keepE old env vs)[i]? = some (some x) → (env[i]? = some (some x) ∧ i ∉ vs) ∨ (old[i]? = some (some x) ∧ ∃ d, x = .sh d)
  | [], h => .inl ⟨h, by simp⟩
  | v :: vs, h => by
    rw [keepE] at h
    by_cases e : v = i
    · subst e
      by_cases hl : v < (keepE old env vs).length
      · rw [List.getElem?_set_self hl] at h
        split at h
        · rename_i d hd
          cases h
          exact .inr ⟨hd, d, rfl⟩
        · cases h
      · rw [List.getElem?_eq_none (by simpa using hl)] at h; cases h
    · rw [List.getElem?_set_ne e] at h
      rcases keepE_get h with ⟨h1, h2⟩ | h1
      · exact .inl ⟨h1, by simp [Ne.symm e, h2]⟩
      · exact .inr h1
theorem wipe_get {σ : L2.St} {i : Nat} : ∀ {vs : List Nat}, i ∉ vs → (wipe σ vs)[i]? = σ[i]?
  | [], _ => rfl
  | v :: vs, h => by
    rw [wipe, List.getElem?_set_ne (fun e => h (by simp [e]))]
    exact wipe_get fun z => h (by simp [z])
theorem wipe_eq {σ1 σ2 : L2.St} (hl : σ1.length = σ2.length) : ∀ {vs : List Nat}, (∀ j, j ∉ vs → σ1[j]? = σ2[j]?) → wipe σ1 vs = wipe σ2 vs := fun {vs} h => by
  apply List.ext_getElem?
  intro i
  by_cases hi : i ∈ vs
  · have inn : ∀ {σ : L2.St} {ws : List Nat}, i ∈ ws → (wipe σ ws)[i]? = if i < σ.length then some none else none := fun {σ ws} => by
      induction ws with
      | nil => intro z; cases z
      | cons w ws ih =>
        intro z
        rw [wipe]
        by_cases e : w = i
        · subst e
          by_cases hw : w < σ.length
          · rw [List.getElem?_set_self (by rw [wipe_length]; exact hw), if_pos hw]
          · rw [List.getElem?_eq_none (by rw [List.length_set, wipe_length]; omega), if_neg hw]
        · rw [List.getElem?_set_ne e]
          exact ih ((List.mem_cons.mp z).resolve_left (Ne.symm e))
    rw [inn hi, inn hi, hl]
  · rw [wipe_get hi, wipe_get hi]
    exact h i hi
section
variable {K : PySem.W.Frag} {t : Tags} {st : DSt} {σ : L2.St} {H : Hp}
theorem R.wiped (r : R K t st σ H) (vs : List Nat) : R K t { st with env := wipeE st.env vs } (wipe σ vs) H where
  r0 := r.r0
  len := by
    show (wipeE st.env vs).length = _
    rw [wipeE_length, wipe_length]; exact r.len
  env := fun i x h => by
    obtain ⟨h1, h2⟩ := wipeE_get (env := st.env) h
    obtain ⟨v, e, q⟩ := r.env i x h1
    exact ⟨v, by rw [wipe_get h2]; exact e, q⟩
/-- back in the def -/
theorem R.kept {t0 t1 : Tags} {H0 H1 : Hp} {st0 st1 : DSt} {σ1 : L2.St} (r0 : R K t0 st0 σ H0) (E : Ext t0 H0 t1 H1) (r1 : R K t1 st1 σ1 H1) (vs : List Nat) (hl : σ1.length = σ.length) (hs : ∀ j, j ∉ vs → σ1[j]? = σ[j]?) : R K t1 { st1 with env := keepE st0.env st1.env vs } σ H1 where
  r0 := r1.r0
  len := by
    show (keepE st0.env st1.env vs).length = _
    rw [keepE_length, r1.len, hl]
  env := fun i x h => by
    rcases keepE_get (old := st0.env) (env := st1.env) h with ⟨h1, h2⟩ | ⟨h1, d, rfl⟩
    · obtain ⟨v, e, q⟩ := r1.env i x h1
      exact ⟨v, by rw [← hs i h2]; exact e, q⟩
    · obtain ⟨v, e, q⟩ := r0.env i _ h1
      exact ⟨v, e, E.dat q⟩
/-- an object of no one's is written -/
theorem R.updNon (r : R K t st σ H) {a : Addr} {o : HO} (n : t a = .non) : R K t st σ (upd H a o) := by
  have le : Le (fz t H) (fz t (upd H a o)) := fun b u h => by
    obtain ⟨h1, h2⟩ := of_fz h
    have ne : b ≠ a := fun e => by rw [e, n] at h1; cases h1
    rw [fz_of h1, upd_ne ne]; exact h2
  refine ⟨⟨fun b hb => ?_, fun k o' hk => ?_, r.r0.lt, r.r0.one⟩, r.len, fun i x h => ?_⟩
  · by_cases e : b = a
    · rw [e, n] at hb; exact absurd rfl hb
    · rw [upd_ne e]; exact r.r0.tag b hb
  · obtain ⟨b, h1, h2, h3⟩ := r.r0.cel k o' hk
    have ne : b ≠ a := fun e => by rw [e, n] at h1; cases h1
    exact ⟨b, h1, h2, h3.mono le (fun _ _ h => h) fun o h => by rw [upd_ne ne]; exact h⟩
  · obtain ⟨v, e, q⟩ := r.env i x h
    refine ⟨v, e, ?_⟩
    cases x with
    | sh d => exact Dat.mono le (fun _ _ h => h) q
    | ow ob =>
      obtain ⟨b, e1, h1, h2⟩ := q
      have ne : b ≠ a := fun e => by rw [e, n] at h1; cases h1
      exact ⟨b, e1, h1, h2.mono le (fun _ _ h => h) fun o h => by rw [upd_ne ne]; exact h⟩
    | me ob =>
      obtain ⟨b, e1, h1, h2, hi⟩ := q
      have ne : b ≠ a := fun e => by rw [e, n] at h1; cases h1
      exact ⟨b, e1, h1, h2.mono le (fun _ _ h => h) fun o h => by rw [upd_ne ne]; exact h, hi⟩
end
def W0 : WX := fun _ _ _ _ => False
def gYes : DT := fun st => .ok true st
/-- nothing may leave a comprehension's block -/
def Out.bindN {α β : Type} : Out α → (α → DSt → Out β) → Out β
  | .ok a st, f => f a st
  | .ex _ _ _, _ => .no
  | .no, _ => .no
/-- the turns of a comprehension -/
def lcL (vs : List Nat) (f : GT) (c : DT) (e : DZ) : List D → List D → DSt → Out (List D)
  | [], acc, st => .ok acc st
  | d :: ds, acc, st => match f d { st with env := wipeE st.env vs } with
    | none => .no
    | some st1 => (c st1).bindN fun k st2 => if k = true then (e st2).bindN fun x st3 => lcL vs f c e ds (acc ++ [x]) st3 else lcL vs f c e ds acc st2
def gLc (s : DL) (vs : List Nat) (f : GT) (c : DT) (e : DZ) : DE := fun st => (s st).bind fun ds st1 => if ds.length ≤ sizeLine then
    (lcL vs f c e ds [] st1).bind fun acc st2 => .ok (.ow (.lst acc)) { st2 with env := keepE st1.env st2.env vs }
  else .no
theorem lc_of {K : PySem.W.Frag} {W : WX} {s : DL} {g : TG} {f : GT} {c : DT} {e : DZ} {vs sl : List Nat} {σ : L2.St} {H : Hp} {Q : VK} (tg : TgOk K g f sl) (hsl : ∀ j ∈ sl, j ∈ vs) (h : tD K W (gLc s vs f c e) σ H Q) :
    tLc (tI K W s) g (tT K W0 c) (tZ K W0 e) vs σ H Q := by
  obtain ⟨t, st, r, q⟩ := h
  refine ⟨t, st, r, ?_⟩
  unfold gLc at q
  cases es : s st with
  | no => rw [es] at q; exact q
  | ex c x st' => rw [es] at q; exact q
  | ok ds st1 =>
    rw [es] at q
    intro t1 H1 J E1 R1 wk D hD
    have q1 := Res.step0 E1 q
    have q1 : Res K W σ Q (IsRV K) t1 H1 (if ds.length ≤ sizeLine then (lcL vs f c e ds [] st1).bind fun acc st2 => .ok (.ow (.lst acc)) { st2 with env := keepE st1.env st2.env vs } else .no) := q1
    split at q1
    · rename_i hz
      have nD : t1 D = .non := R1.non hD
      obtain ⟨EL, RL, _⟩ := R1.laid (o := .lst []) hD
      refine ⟨fun i m H' => ∃ t' s' σ' acc av, Ext t1 H1 t' H' ∧ R K t' s' σ' H' ∧ σ'.length = σ.length ∧ (∀ j, j ∉ vs → σ'[j]? = σ[j]?) ∧ t' D = .non ∧ H' D = some (.lst av) ∧ Dats K (fz t' H') (rho t') acc av ∧ av.length ≤ i ∧ i + m = ds.length ∧
        Res K W σ Q (IsRV K) t1 H1 ((lcL vs f c e (ds.drop i) acc s').bind fun acc st2 => .ok (.ow (.lst acc)) { st2 with env := keepE st1.env st2.env vs }),
        ⟨ds.length, t1, st1, σ, [], [], EL, RL, rfl, fun _ _ => rfl, nD, upd_same, Dats.nil, Nat.le_refl _, by omega, q1⟩, ?_⟩
      rintro i m H2 ⟨t2, s2, σ2, acc, av, E2, R2, l2, o2, n2, e2, m2, la, hl, q2⟩
      cases hd : ds[i]? with
      | none =>
        have hi : ds.length ≤ i := List.getElem?_eq_none_iff.mp hd
        rw [List.drop_eq_nil_of_le hi] at q2
        refine .inl ⟨wk.end_ t2 H2 E2.w.f i hi, ?_⟩
        have q3 : Res K W σ Q (IsRV K) t1 H1 (.ok (.ow (.lst acc)) { s2 with env := keepE st1.env s2.env vs }) := q2
        exact q3 t2 H2 (.ref D) E2 (R.kept R1 E2 R2 vs l2 o2) ⟨D, rfl, fun _ => hD, n2, av, e2, m2⟩
      | some d =>
        have hi : i < ds.length := (List.getElem?_eq_some_iff.mp hd).1
        obtain ⟨go, step⟩ := wk.at_ t2 H2 E2.w.f R2.tagOk i d hd
        have ed : ds.drop i = d :: ds.drop (i + 1) := by
          rw [List.drop_eq_getElem_cons hi]
          congr 1
          exact (List.getElem?_eq_some_iff.mp hd).2
        rw [ed] at q2
        refine .inr ⟨go, fun H' => ∃ m', m' < m ∧ ∃ t' s' σ' acc av, Ext t1 H1 t' H' ∧ R K t' s' σ' H' ∧ σ'.length = σ.length ∧ (∀ j, j ∉ vs → σ'[j]? = σ[j]?) ∧ t' D = .non ∧ H' D = some (.lst av) ∧ Dats K (fz t' H') (rho t') acc av ∧ av.length ≤ i + 1 ∧ (i + 1) + m' = ds.length ∧
          Res K W σ Q (IsRV K) t1 H1 ((lcL vs f c e (ds.drop (i + 1)) acc s').bind fun acc st2 => .ok (.ow (.lst acc)) { st2 with env := keepE st1.env st2.env vs }), fun H' ⟨m', lt, z⟩ => ⟨m', lt, z⟩, fun x H3 hy => ?_⟩
        obtain ⟨t3, G3, d3⟩ := step x H3 hy
        have R3 := G3.st _ _ R2
        have E13 := E2.trans G3.ext
        -- the new list is still there
        have keepD : ∀ {ta tb Ha Hb} {av : List V}, Ext ta Ha tb Hb → ta D = .non → Ha D = some (.lst av) → tb D = .non ∧ Hb D = some (.lst av) := fun E n e => E.oth D _ n e
        obtain ⟨n3, e3⟩ := keepD G3.ext n2 e2
        have R4 := R3.wiped vs
        have ew : wipe σ2 vs = wipe σ vs := wipe_eq l2 o2
        rw [ew] at R4
        refine tg t3 _ (wipe σ vs) H3 d x _ R4 d3 ?_
        rw [lcL] at q2
        cases e4 : f d { s2 with env := wipeE s2.env vs } with
        | none => rw [e4] at q2; exact q2.elim
        | some s4 =>
          rw [e4] at q2
          dsimp only at q2
          intro σ4 l4 hs4 R5
          have l4 : σ4.length = σ.length := l4.trans (wipe_length _ _)
          have o4 : ∀ j, j ∉ vs → σ4[j]? = σ[j]? := fun j hj => (hs4 j fun z => hj (hsl j z)).trans (wipe_get hj)
          refine ⟨wipe_eq l4 o4, ?_⟩
          have nxt : ∀ {t' s' H' acc' av'}, Ext t1 H1 t' H' → R K t' s' σ4 H' → t' D = .non → H' D = some (.lst av') → Dats K (fz t' H') (rho t') acc' av' → av'.length ≤ i + 1 →
              Res K W σ Q (IsRV K) t1 H1 ((lcL vs f c e (ds.drop (i + 1)) acc' s').bind fun acc st2 => .ok (.ow (.lst acc)) { st2 with env := keepE st1.env st2.env vs }) →
              ∃ m', m' < m ∧ ∃ t' s' σ' acc av, Ext t1 H1 t' H' ∧ R K t' s' σ' H' ∧ σ'.length = σ.length ∧ (∀ j, j ∉ vs → σ'[j]? = σ[j]?) ∧ t' D = .non ∧ H' D = some (.lst av) ∧ Dats K (fz t' H') (rho t') acc av ∧ av.length ≤ i + 1 ∧ (i + 1) + m' = ds.length ∧
                Res K W σ Q (IsRV K) t1 H1 ((lcL vs f c e (ds.drop (i + 1)) acc s').bind fun acc st2 => .ok (.ow (.lst acc)) { st2 with env := keepE st1.env st2.env vs }) :=
            fun {t' s' H' acc' av'} E' R' n' e' m' la' q' => ⟨m - 1, by omega, t', s', σ4, acc', av', E', R', l4, o4, n', e', m', la', by omega, q'⟩
          refine ⟨t3, s4, R5, ?_⟩
          cases e5 : c s4 with
          | no => rw [e5] at q2; exact q2
          | ex _ _ _ => rw [e5] at q2; exact q2.elim
          | ok k s5 =>
            rw [e5] at q2
            intro t5 H5 E5 R6
            obtain ⟨n5, e5'⟩ := keepD E5 n3 e3
            have E15 := E13.trans E5
            cases k with
            | false => exact nxt E15 R6 n5 e5' ((G3.ext.trans E5).dats m2) (by omega) q2
            | true =>
              have q2 : Res K W σ Q (IsRV K) t1 H1 (((e s5).bindN fun x st3 => lcL vs f c e (ds.drop (i + 1)) (acc ++ [x]) st3).bind fun acc st2 => .ok (.ow (.lst acc)) { st2 with env := keepE st1.env st2.env vs }) := q2
              refine ⟨t5, s5, R6, ?_⟩
              cases e6 : e s5 with
              | no => rw [e6] at q2; exact q2
              | ex _ _ _ => rw [e6] at q2; exact q2.elim
              | ok x6 s6 =>
                rw [e6] at q2
                intro t6 H6 y6 E6 R7 p6
                obtain ⟨n6, e6'⟩ := keepD E6 n5 e5'
                refine ⟨av, e6', by omega, ?_⟩
                have q2 : Res K W σ Q (IsRV K) t1 H1 ((lcL vs f c e (ds.drop (i + 1)) (acc ++ [x6]) s6).bind fun acc st2 => .ok (.ow (.lst acc)) { st2 with env := keepE st1.env st2.env vs }) := q2
                have R8 := R7.updNon (o := .lst (av ++ [y6])) n6
                have le6 : Le (fz t6 H6) (fz t6 (upd H6 D (.lst (av ++ [y6])))) := fun b u h => by
                  obtain ⟨h1, h2⟩ := of_fz h
                  have ne : b ≠ D := fun e => by rw [e, n6] at h1; cases h1
                  rw [fz_of h1, upd_ne ne]; exact h2
                have E16 := E15.trans E6
                refine nxt ⟨fun b hb => ?_, E16.cel, fun b u hb e => ?_, fun b j u hb e => ?_⟩ R8 n6 upd_same ((((G3.ext.trans E5).trans E6).dats m2).append (Dats.cons p6 Dats.nil) |>.mono le6 fun _ _ h => h) (by simp; omega) q2
                · obtain ⟨h1, h2⟩ := E16.frz b hb
                  have ne : b ≠ D := fun e => by rw [e, nD] at hb; cases hb
                  exact ⟨h1, by rw [upd_ne ne]; exact h2⟩
                · obtain ⟨h1, h2⟩ := E16.oth b u hb e
                  have ne : b ≠ D := fun z => by rw [z, hD] at e; cases e
                  exact ⟨h1, by rw [upd_ne ne]; exact h2⟩
                · obtain ⟨h1, h2⟩ := E16.slt b j u hb e
                  have ne : b ≠ D := fun z => by rw [z, hD] at e; cases e
                  exact ⟨by rw [upd_ne ne]; exact h1, h2⟩
    · exact q1.elim
end Dn
end

section
set_option maxHeartbeats 4000000
-- Dn10
/-! Dn10: comprehensions as rules, assignments, methods of lists, stores into cells -/
namespace Dn
open PySem PySem.Spec L2
theorem PTs.imp {X : Cx} {ifs : List Expr} {t t' : TT} (h : PTs X ifs t) (i : ∀ σ H Q, t' σ H Q → t σ H Q) : PTs X ifs t' := ⟨fun pins s σ H Q I q => h.run pins s σ H Q I (i σ H Q q)⟩
section
variable {X : Cx} {W : WX} {e a b : Expr} {g : DE} {za zb : DZ} {pos : Pos}
theorem dts_nil : PTs X [] (tT X.K W gYes) := PTs.imp pts_nil fun σ H Q ⟨t, st, r, q⟩ => q t H (Ext.refl t H) r
theorem dts_one {c : Expr} {tc : DT} (h : PT X c (tT X.K W tc)) : PTs X [c] (tT X.K W tc) := pts_one h
theorem de_lc {elt tg iter : Expr} {ifs : List Expr} {scope : Scope} {own : List (Str × Nat)} {s : DL} {g : TG} {f : GT} {c : DT} {ze : DZ} {sl : List Nat} (hc : X.calm = true) (hN : X.N.Nodup) (hi : PI X tg iter (tI X.K W s)) (ok : BlkOk X.N X.env.scope scope own)
    (tk : TgOk X.K g f sl) (hsl : ∀ j ∈ sl, j ∈ own.map (·.2))
    (hg : ∀ (s : Shared) (H : Hp) (C : Addr) (cl : List (Str × Addr)) (fp : List Addr), PG (X.blk s H scope (compEnvC scope cl C X.env) fp) tg g) (ht : ∀ (s : Shared) (H : Hp) (C : Addr) (cl : List (Str × Addr)) (fp : List Addr), PTs (X.blk s H scope (compEnvC scope cl C X.env) fp) ifs (tT X.K W0 c))
    (he : ∀ (s : Shared) (H : Hp) (C : Addr) (cl : List (Str × Addr)) (fp : List Addr), PE (X.blk s H scope (compEnvC scope cl C X.env) fp) elt (tZ X.K W0 ze)) (hs : ∀ x, foldedSetIterable iter X.env x = pure x) :
    PE X (.ListComp elt [⟨tg, iter, ifs, 0⟩] scope pos) (tD X.K W (gLc s (own.map (·.2)) f c ze)) :=
  PE.imp (pe_lc hc hN hi ok hg ht he hs) fun _ _ _ q => lc_of tk hsl q
theorem ds_setLc {elt tg iter : Expr} {ifs : List Expr} {scope : Scope} {own : List (Str × Nat)} {s : DL} {g : TG} {f : GT} {c : DT} {ze : DZ} {sl : List Nat} {i : Nat} {y : Str} {py spos : Pos} (hc : X.calm = true) (hN : X.N.Nodup) (hy : X.N[i]? = some y) (hyl : X.env.scope.names.lookup y = some .local)
    (hsw : swapsWith (.ListComp elt [⟨tg, iter, ifs, 0⟩] scope pos) (some (.Name y py)) spos.line X.env = pure true) (hi : PI X tg iter (tI X.K W s)) (ok : BlkOk X.N X.env.scope scope own)
    (tk : TgOk X.K g f sl) (hsl : ∀ j ∈ sl, j ∈ own.map (·.2))
    (hg : ∀ (s : Shared) (H : Hp) (C : Addr) (cl : List (Str × Addr)) (fp : List Addr), PG (X.blk s H scope (compEnvC scope cl C X.env) fp) tg g) (ht : ∀ (s : Shared) (H : Hp) (C : Addr) (cl : List (Str × Addr)) (fp : List Addr), PTs (X.blk s H scope (compEnvC scope cl C X.env) fp) ifs (tT X.K W0 c))
    (he : ∀ (s : Shared) (H : Hp) (C : Addr) (cl : List (Str × Addr)) (fp : List Addr), PE (X.blk s H scope (compEnvC scope cl C X.env) fp) elt (tZ X.K W0 ze)) (hs : ∀ x, foldedSetIterable iter X.env x = pure x) :
    PS X (.Assign [.Name y py] (.ListComp elt [⟨tg, iter, ifs, 0⟩] scope pos) spos) (tS X.K W (gSet i (gLc s (own.map (·.2)) f c ze))) :=
  PS.imp (ps_setLc hc hN hy hyl hsw hi ok hg ht he hs) fun D σ H q => lc_of (W := W) tk hsl (set_of q)
/-! ### assignments to several names -/
def gTgt (g : DZ) (f : GT) : DS := fun st => (g st).bindS fun d st => match f d st with
  | some st' => .nx st'
  | none => .no
theorem tgt_of {K : PySem.W.Frag} {g : DZ} {tg : TG} {f : GT} {sl : List Nat} (tk : TgOk K tg f sl) {D : Ends} {σ : L2.St} {H : Hp} (h : tS K W (gTgt g f) D σ H) : tAsg (tZ K W g) tg D σ H := by
  obtain ⟨t, st, r, q⟩ := h
  refine tG_atS r q fun t1 st1 H1 d v E1 R1 p1 q1 => ?_
  refine tk t1 st1 σ H1 d v _ R1 p1 ?_
  cases e : f d st1 with
  | none => rw [e] at q1; exact q1.elim
  | some st2 =>
    rw [e] at q1
    exact fun σ' _ _ R' => q1 t1 σ' H1 E1.w R'
theorem ds_asg {tg : Expr} {gg : TG} {f : GT} {sl : List Nat} (he : PE X e (tZ X.K W za)) (hg : PG X tg gg) (tk : TgOk X.K gg f sl) (hs : swapsWithSole [tg] e pos.line X.env = pure false) (hw : swappedStores [tg] e X.env = pure none) (h1 : (assignEach [tg] X.env).map (·.2) = [assign tg X.env]) :
    PS X (.Assign [tg] e pos) (tS X.K W (gTgt za f)) := PS.imp (ps_asg he hg hs hw h1) fun _ _ _ q => tgt_of tk q
/-- a, b = x, y -/
def gPar (i j : Nat) (gs : DAs) : DS := fun st => (gs st).bindS fun ds st => match ds with
  | [d, e] => .nx (put j (.sh e) (put i (.sh d) st))
  | _ => .no
theorem tA_atS {K : PySem.W.Frag} {D : Ends} {σ : L2.St} {t : Tags} {H : Hp} {st : DSt} {Q1 : List V → Hp → Prop} {P1 : PL} {g : DAs} {f : List Dn.D → DSt → OutS} (r : R K t st σ H)
    (h : ResS K W D t H ((g st).bindS f))
    (k : ∀ t1 st1 H1 ds vs, Ext t H t1 H1 → R K t1 st1 σ H1 → P1 t1 H1 ds vs → ResS K W D t H (f ds st1) → Q1 vs H1) : tA K W g P1 σ H Q1 := by
  refine ⟨t, st, r, ?_⟩
  cases e : g st with
  | no => rw [e] at h; exact h
  | ex c x st' => rw [e] at h; exact fun t' H' d E' R' p => h t' σ H' d E'.w R' p
  | ok a st' =>
    rw [e] at h
    exact fun t1 H1 v E1 R1 p1 => k t1 st' H1 a v E1 R1 p1 h
theorem par_of {K : PySem.W.Frag} {i j : Nat} {gs : DAs} {D : Ends} {σ : L2.St} {H : Hp} (h : tS K W (gPar i j gs) D σ H) : tPar i j (tA K W gs (PLz K)) D σ H := by
  obtain ⟨t, st, r, q⟩ := h
  refine tA_atS r q fun t1 st1 H1 ds vs E1 R1 p1 q1 => ?_
  split at q1
  · have p1 : Dats K (fz t1 H1) (rho t1) _ vs := p1
    simp only [Dats] at p1
    obtain ⟨v, us, rfl, h1, w, us2, rfl, h2, rfl⟩ := p1
    exact ⟨v, w, rfl, q1 t1 _ H1 E1.w ((R1.storeSh h1).storeSh h2)⟩
  · exact q1.elim
theorem ds_par {i j : Nat} {x y : Str} {gs : DAs} {px py pt : Pos} {kt k2 pt2} (hc : X.calm = true) (hN : X.N.Nodup) (hi : X.N[i]? = some x) (hj : X.N[j]? = some y) (hij : i ≠ j)
    (hx : X.env.scope.names.lookup x = some .local) (hy : X.env.scope.names.lookup y = some .local) (ha : PA X [a, b] (tA X.K W gs (PLz X.K)))
    (hw : swappedStores [.Tuple [.Name x px, .Name y py] kt pt] (.Tuple [a, b] k2 pt2) X.env = pure (some [x, y]))
    (hs : swapsWithSole [.Tuple [.Name x px, .Name y py] kt pt] (.Tuple [a, b] k2 pt2) pos.line X.env = pure false) :
    PS X (.Assign [.Tuple [.Name x px, .Name y py] kt pt] (.Tuple [a, b] k2 pt2) pos) (tS X.K W (gPar i j gs)) := PS.imp (ps_par hc hN hi hj hij hx hy ha hw hs) fun _ _ _ q => par_of q
def gPar3 (i j l : Nat) (gs : DAs) : DS := fun st => (gs st).bindS fun ds st => match ds with
  | [d, e, k] => .nx (put l (.sh k) (put j (.sh e) (put i (.sh d) st)))
  | _ => .no
theorem par3_of {K : PySem.W.Frag} {i j l : Nat} {gs : DAs} {D : Ends} {σ : L2.St} {H : Hp} (h : tS K W (gPar3 i j l gs) D σ H) : tPar3 i j l (tA K W gs (PLz K)) D σ H := by
  obtain ⟨t, st, r, q⟩ := h
  refine tA_atS r q fun t1 st1 H1 ds vs E1 R1 p1 q1 => ?_
  split at q1
  · have p1 : Dats K (fz t1 H1) (rho t1) _ vs := p1
    simp only [Dats] at p1
    obtain ⟨v, us, rfl, h1, w, us2, rfl, h2, z, us3, rfl, h3, rfl⟩ := p1
    exact ⟨v, w, z, rfl, q1 t1 _ H1 E1.w (((R1.storeSh h1).storeSh h2).storeSh h3)⟩
  · exact q1.elim
theorem ds_par3 {i j l : Nat} {x y z : Str} {c : Expr} {gs : DAs} {px py pz pt : Pos} {kt k2 pt2} (hc : X.calm = true) (hN : X.N.Nodup) (hi : X.N[i]? = some x) (hj : X.N[j]? = some y) (hl : X.N[l]? = some z) (hij : i ≠ j) (hil : i ≠ l) (hjl : j ≠ l)
    (hx : X.env.scope.names.lookup x = some .local) (hy : X.env.scope.names.lookup y = some .local) (hz : X.env.scope.names.lookup z = some .local) (ha : PA X [a, b, c] (tA X.K W gs (PLz X.K)))
    (hw : swappedStores [.Tuple [.Name x px, .Name y py, .Name z pz] kt pt] (.Tuple [a, b, c] k2 pt2) X.env = pure (some [x, y, z]))
    (hs : swapsWithSole [.Tuple [.Name x px, .Name y py, .Name z pz] kt pt] (.Tuple [a, b, c] k2 pt2) pos.line X.env = pure false) :
    PS X (.Assign [.Tuple [.Name x px, .Name y py, .Name z pz] kt pt] (.Tuple [a, b, c] k2 pt2) pos) (tS X.K W (gPar3 i j l gs)) := PS.imp (ps_par3 hc hN hi hj hl hij hil hjl hx hy hz ha hw hs) fun _ _ _ q => par3_of q
theorem R.look {K : PySem.W.Frag} {t : Tags} {st : DSt} {σ : L2.St} {H : Hp} {i : Nat} {x : RV} (r : R K t st σ H) (nm : ∀ o, x ≠ .me o) (e : st.env[i]? = some (some x)) : ∃ v, σ[i]? = some (some v) ∧ Vw K t H x.fz v := by
  obtain ⟨v, ev, sl⟩ := r.env i x e
  refine ⟨v, ev, ?_⟩
  cases x with
  | sh d => exact Vw.of sl
  | ow ob =>
    obtain ⟨p, rfl, h1, h2⟩ := sl
    exact Vw.obj (fun k => by rw [h1]; exact nofun) h2
  | me ob => exact absurd rfl (nm ob)
theorem gN_me {i : Nat} {st : DSt} {o : OD} (e : st.env[i]? = some (some (.me o))) : gN i st = .no := by
  unfold gN; rw [e]
theorem gN_none {i : Nat} {st : DSt} (e : st.env[i]? = some none) : gN i st = .no := by
  unfold gN; rw [e]
theorem gN_out {i : Nat} {st : DSt} (e : st.env[i]? = none) : gN i st = .no := by
  unfold gN; rw [e]
theorem gN_eq {i : Nat} {st : DSt} {x : RV} (nm : ∀ o, x ≠ .me o) (e : st.env[i]? = some (some x)) : gN i st = .ok x.fz st := by
  unfold gN; rw [e]
  cases x with
  | sh d => rfl
  | ow o => rfl
  | me o => exact absurd rfl (nm o)
/-! ### name op= e -/
def gAug (i : Nat) (f : D → D → Option RV) (z : DZ) : DS := fun st => (gN i st).bindS fun d st => (z st).bindS fun e st => (opt (f d e) st).bindS fun r st => .nx (put i r st)
theorem ds_aug {f : D → D → Option RV} {op : Operator} {i : Nat} {x : Str} {p : Pos} (hN : X.N.Nodup) (hi : X.N[i]? = some x) (hx : Loc X.env.scope x) (he : PE X e (tV X.K W za)) (ho : OpR X (inplaceOp op) (rF X.K f)) (hf : X.fn x = true ∨ X.env.scope.names.lookup x = some .local) :
    PS X (.AugAssign (.Name x p) op e pos) (tS X.K W (gAug i f za)) := by
  refine PS.imp (ps_aug hN hi hx he ho hf) fun D σ H ⟨t, st, r, q⟩ => ?_
  unfold gAug at q
  cases e : st.env[i]? with
  | none => rw [gN_out e] at q; exact q.elim
  | some o =>
    cases o with
    | none => rw [gN_none e] at q; exact q.elim
    | some rv =>
      have nm : ∀ o, rv ≠ .me o := fun o z => by subst z; rw [gN_me e] at q; exact q.elim
      rw [gN_eq nm e] at q
      obtain ⟨v, ev, vw⟩ := r.look nm e
      refine ⟨v, ev, ?_⟩
      refine tG_atS r q fun t1 st1 H1 d y E1 R1 p1 q1 => ?_
      have q2 := ResS.step E1.w q1
      refine ⟨t1, _, d, R1.tagOk, Vw.step E1 vw, p1, ?_⟩
      cases ef : f rv.fz d with
      | none => rw [ef] at q2; exact q2.elim
      | some rr =>
        rw [ef] at q2
        intro t2 H2 z G2 p2
        obtain ⟨t3, E3, R3⟩ := R.stored (i := i) G2.ext (G2.st _ _ R1) p2
        exact q2 t3 _ H2 E3 R3
/-! ### methods of lists of one's own, as statements -/
theorem R.slotAt {K : PySem.W.Frag} {t : Tags} {st : DSt} {σ : L2.St} {H : Hp} {i : Nat} {xs : List D} (r : R K t st σ H) (e : st.env[i]? = some (some (.ow (.lst xs)))) : ∃ p vs, σ[i]? = some (some (.ref p)) ∧ t p = .slot i ∧ H p = some (.lst vs) ∧ Dats K (fz t H) (rho t) xs vs := by
  obtain ⟨v, ev, p, rfl, h1, vs, h2, h3⟩ := r.env i _ e
  exact ⟨p, vs, ev, h1, h2, h3⟩
theorem R.updSlot {K : PySem.W.Frag} {t : Tags} {st : DSt} {σ : L2.St} {H : Hp} {i : Nat} {p : Addr} {vs : List V} {xs : List D} (r : R K t st σ H) (hp : σ[i]? = some (some (.ref p))) (ht : t p = .slot i) (m : Dats K (fz t H) (rho t) xs vs) :
    ExtW t H t (upd H p (.lst vs)) ∧ R K t { st with env := st.env.set i (some (.ow (.lst xs))) } σ (upd H p (.lst vs)) := by
  have ne : ∀ b, t b ≠ .slot i → b ≠ p := fun b h e => h (e ▸ ht)
  have le : Le (fz t H) (fz t (upd H p (.lst vs))) := fun b u h => by
    obtain ⟨h1, h2⟩ := of_fz h
    rw [fz_of h1, upd_ne (ne b (by rw [h1]; exact nofun))]; exact h2
  refine ⟨⟨fun b hb => ⟨hb, upd_ne (ne b (by rw [hb]; exact nofun))⟩, fun _ _ h => h, fun b o hb e => ⟨hb, by rw [upd_ne (ne b (by rw [hb]; exact nofun))]; exact e⟩⟩, ⟨fun b hb => ?_, fun k o' hk => ?_, r.r0.lt, r.r0.one⟩, by simpa using r.len, fun j x h => ?_⟩
  · by_cases e : b = p
    · rw [e, upd_same]; exact nofun
    · rw [upd_ne e]; exact r.r0.tag b hb
  · obtain ⟨b, h1, h2, h3⟩ := r.r0.cel k o' hk
    have nb : b ≠ p := ne b (by rw [h1]; exact nofun)
    exact ⟨b, h1, h2, h3.mono le (fun _ _ h => h) fun o h => by rw [upd_ne nb]; exact h⟩
  · have h : (st.env.set i (some (.ow (.lst xs))))[j]? = some (some x) := h
    by_cases hj : i = j
    · subst hj
      by_cases hl : i < st.env.length
      · rw [List.getElem?_set_self hl] at h
        cases h
        exact ⟨.ref p, hp, p, rfl, ht, vs, upd_same, m.mono le fun _ _ h => h⟩
      · rw [List.getElem?_eq_none (by simpa using hl)] at h
        cases h
    · rw [List.getElem?_set_ne hj] at h
      obtain ⟨v, e, q⟩ := r.env j x h
      refine ⟨v, e, ?_⟩
      cases x with
      | sh d => exact Dat.mono le (fun _ _ h => h) q
      | ow ob =>
        obtain ⟨b, e1, h1, h2⟩ := q
        have nb : b ≠ p := ne b (by rw [h1]; intro z; injection z with z; exact hj z.symm)
        exact ⟨b, e1, h1, h2.mono le (fun _ _ h => h) fun o h => by rw [upd_ne nb]; exact h⟩
      | me ob =>
        obtain ⟨b, e1, h1, h2, hi⟩ := q
        have nb : b ≠ p := ne b (by rw [h1]; exact nofun)
        exact ⟨b, e1, h1, h2.mono le (fun _ _ h => h) fun o h => by rw [upd_ne nb]; exact h, hi⟩
def ownL (st : DSt) (i : Nat) : Option (List D) := match st.env[i]? with
  | some (some (.ow (.lst xs))) => some xs
  | _ => none
theorem ownL_of {st : DSt} {i : Nat} {xs : List D} (h : ownL st i = some xs) : st.env[i]? = some (some (.ow (.lst xs))) := by
  unfold ownL at h
  split at h
  · cases h; assumption
  · cases h
def gApp (i : Nat) (z : DZ) : DS := fun st => match ownL st i with
  | none => .no
  | some _ => (z st).bindS fun d st1 => match ownL st1 i with
    | none => .no
    | some xs => if xs.length < sizeLine then .nx { st1 with env := st1.env.set i (some (.ow (.lst (xs ++ [d])))) } else .no
theorem ds_append {i : Nat} {x : Str} {p apos cpos : Pos} (hN : X.N[i]? = some x) (hv : Vis X.env.scope x) (hd : (x == ("__debug__" : Str)) = false) (hcd : (x == ("__classdict__" : Str)) = false) (he : PE X e (tZ X.K W za))
    (hs : swapsWith (.Call (.Attribute (.Name x p) "append" apos) [e] [] cpos) none pos.line X.env = pure false)
    (hbase : attributeBase (.Name x p) "append" X.env (eval (.Name x p) X.env) = eval (.Name x p) X.env)
    (hfew : ((backTo cpos (starEach [e] X.env)).all (fun x => !x.1) && (backToKw cpos (keywordEach [] X.env)).all (fun x => x.1.isSome)
      && decide (([e] : List Expr).length + ([] : List Keyword).length + (if ([] : List Keyword).isEmpty then 0 else 1) < 30)) = true)
    (hline : (apos.endLine == cpos.line) = true) (hst : starEach [e] X.env = (false, eval e X.env) :: starEach [] X.env) (hplain : (backTo cpos (starEach [] X.env)).any (·.1) = false) :
    PS X (.Expr (.Call (.Attribute (.Name x p) "append" apos) [e] [] cpos) pos) (tS X.K W (gApp i za)) := by
  refine PS.imp (ps_expr (pe_bm F.plainAttrs_list F.slot_list_append F.type_list_append mt_append (pe_var hN hv hd hcd) (pa_cons he pa_nil hst) hbase hfew hline hst hplain) hs) fun D σ H ⟨t, st, r, q⟩ => ?_
  unfold gApp at q
  cases e1 : ownL st i with
  | none => rw [e1] at q; exact q.elim
  | some ys =>
    rw [e1] at q
    obtain ⟨p1, vs1, hp1, ht1, hH1, m1⟩ := r.slotAt (ownL_of e1)
    refine ⟨.ref p1, hp1, .inl ⟨rfl, vs1, SqL.of hH1⟩, ?_⟩
    refine tG_atS r q fun t1 st1 H1 d y E1 R1 p1 q1 => ?_
    have q2 := ResS.step E1.w q1
    cases e2 : ownL st1 i with
    | none => rw [e2] at q2; exact q2.elim
    | some xs =>
      rw [e2] at q2
      obtain ⟨p2, vs2, hp2, ht2, hH2, m2⟩ := R1.slotAt (ownL_of e2)
      rw [hp1] at hp2
      cases hp2
      dsimp only at q2
      split at q2
      · rename_i hz
        obtain ⟨EW, RW⟩ := R1.updSlot hp1 ht2 (m2.append (Dats.cons p1 Dats.nil))
        exact ⟨_, vs2, y, rfl, rfl, hH2, by rw [← m2.length]; exact hz, q2 t1 σ _ EW RW⟩
      · exact q2.elim
def gExt (i : Nat) (z : DZ) : DS := fun st => match ownL st i with
  | none => .no
  | some _ => (z st).bindS fun d st1 => match ownL st1 i, d with
    | some xs, .lst ys => if xs.length + ys.length ≤ sizeLine then .nx { st1 with env := st1.env.set i (some (.ow (.lst (xs ++ ys)))) } else .no
    | _, _ => .no
theorem ds_extend {i : Nat} {x : Str} {p apos cpos : Pos} (hN : X.N[i]? = some x) (hv : Vis X.env.scope x) (hd : (x == ("__debug__" : Str)) = false) (hcd : (x == ("__classdict__" : Str)) = false) (he : PE X e (tV X.K W za))
    (hs : swapsWith (.Call (.Attribute (.Name x p) "extend" apos) [e] [] cpos) none pos.line X.env = pure false)
    (hbase : attributeBase (.Name x p) "extend" X.env (eval (.Name x p) X.env) = eval (.Name x p) X.env)
    (hfew : ((backTo cpos (starEach [e] X.env)).all (fun x => !x.1) && (backToKw cpos (keywordEach [] X.env)).all (fun x => x.1.isSome)
      && decide (([e] : List Expr).length + ([] : List Keyword).length + (if ([] : List Keyword).isEmpty then 0 else 1) < 30)) = true)
    (hline : (apos.endLine == cpos.line) = true) (hst : starEach [e] X.env = (false, eval e X.env) :: starEach [] X.env) (hplain : (backTo cpos (starEach [] X.env)).any (·.1) = false) :
    PS X (.Expr (.Call (.Attribute (.Name x p) "extend" apos) [e] [] cpos) pos) (tS X.K W (gExt i za)) := by
  refine PS.imp (ps_expr (pe_bm F.plainAttrs_list F.slot_list_extend F.type_list_extend mt_extend (pe_var hN hv hd hcd) (pa_cons he pa_nil hst) hbase hfew hline hst hplain) hs) fun D σ H ⟨t, st, r, q⟩ => ?_
  unfold gExt at q
  cases e1 : ownL st i with
  | none => rw [e1] at q; exact q.elim
  | some ys =>
    rw [e1] at q
    obtain ⟨p1, vs1, hp1, ht1, hH1, m1⟩ := r.slotAt (ownL_of e1)
    refine ⟨.ref p1, hp1, .inl ⟨rfl, vs1, SqL.of hH1⟩, ?_⟩
    refine tG_atS r q fun t1 st1 H1 d y E1 R1 p1 q1 => ?_
    have q2 := ResS.step E1.w q1
    cases e2 : ownL st1 i with
    | none => rw [e2] at q2; exact q2.elim
    | some xs =>
      rw [e2] at q2
      obtain ⟨p2, vs2, hp2, ht2, hH2, m2⟩ := R1.slotAt (ownL_of e2)
      rw [hp1] at hp2
      cases hp2
      cases d with
      | lst zs =>
        obtain ⟨b, zv, rfl, hb, _, mz⟩ := p1
        dsimp only at q2
        split at q2
        · rename_i hz
          obtain ⟨EW, RW⟩ := R1.updSlot hp1 ht2 (m2.append mz)
          exact ⟨_, b, vs2, zv, rfl, rfl, hH2, hb, by rw [← m2.length, ← mz.length]; exact hz, q2 t1 σ _ EW RW⟩
        · exact q2.elim
      | _ => exact q2.elim
/-! ### name[i] = e: a cell of the store, or a list of one's own -/
theorem R.updCell {K : PySem.W.Frag} {t : Tags} {st : DSt} {σ : L2.St} {H : Hp} {k : Nat} {p : Addr} {vs : List V} {xs : List D} (r : R K t st σ H) (ht : t p = .cell (some k)) (un : ∀ b, t b = .cell (some k) → b = p) (m : Dats K (fz t H) (rho t) xs vs) :
    ExtW t H t (upd H p (.lst vs)) ∧ R K t { st with S := st.S.set k (.lst xs) } σ (upd H p (.lst vs)) := by
  have ne : ∀ b, t b ≠ .cell (some k) → b ≠ p := fun b h e => h (e ▸ ht)
  have le : Le (fz t H) (fz t (upd H p (.lst vs))) := fun b u h => by
    obtain ⟨h1, h2⟩ := of_fz h
    rw [fz_of h1, upd_ne (ne b (by rw [h1]; exact nofun))]; exact h2
  refine ⟨⟨fun b hb => ⟨hb, upd_ne (ne b (by rw [hb]; exact nofun))⟩, fun _ _ h => h, fun b o hb e => ⟨hb, by rw [upd_ne (ne b (by rw [hb]; exact nofun))]; exact e⟩⟩, ⟨fun b hb => ?_, fun j o' hk => ?_, fun b j h => by simpa using r.r0.lt b j h, r.r0.one⟩, r.len, fun j x h => ?_⟩
  · by_cases e : b = p
    · rw [e, upd_same]; exact nofun
    · rw [upd_ne e]; exact r.r0.tag b hb
  · have hk : (st.S.set k (.lst xs))[j]? = some o' := hk
    by_cases hj : k = j
    · subst hj
      by_cases hl : k < st.S.length
      · rw [List.getElem?_set_self hl] at hk
        cases hk
        exact ⟨p, ht, un, vs, upd_same, m.mono le fun _ _ h => h⟩
      · rw [List.getElem?_eq_none (by simpa using hl)] at hk
        cases hk
    · rw [List.getElem?_set_ne hj] at hk
      obtain ⟨b, h1, h2, h3⟩ := r.r0.cel j o' hk
      have nb : b ≠ p := ne b (by rw [h1]; intro z; injection z with z; injection z with z; exact hj z.symm)
      exact ⟨b, h1, h2, h3.mono le (fun _ _ h => h) fun o h => by rw [upd_ne nb]; exact h⟩
  · obtain ⟨v, e, q⟩ := r.env j x h
    refine ⟨v, e, ?_⟩
    cases x with
    | sh d => exact Dat.mono le (fun _ _ h => h) q
    | ow ob =>
      obtain ⟨b, e1, h1, h2⟩ := q
      have nb : b ≠ p := ne b (by rw [h1]; exact nofun)
      exact ⟨b, e1, h1, h2.mono le (fun _ _ h => h) fun o h => by rw [upd_ne nb]; exact h⟩
    | me ob =>
      obtain ⟨b, e1, h1, h2, hi⟩ := q
      have nb : b ≠ p := ne b (by rw [h1]; exact nofun)
      exact ⟨b, e1, h1, h2.mono le (fun _ _ h => h) fun o h => by rw [upd_ne nb]; exact h, hi⟩
theorem Dats.set {K : PySem.W.Frag} {F : Hp} {r : Nat → Addr → Prop} {d : D} {v : V} (h : Dat K F r d v) : ∀ {ds : List D} {vs : List V} (n : Nat), Dats K F r ds vs → Dats K F r (ds.set n d) (vs.set n v)
  | [], vs, _, m => by
    rw [Dats] at m
    subst m
    exact Dats.nil
  | d :: ds, vs, 0, m => by
    rw [Dats] at m
    obtain ⟨u, us, rfl, h1, h2⟩ := m
    exact Dats.cons h h2
  | d :: ds, vs, n + 1, m => by
    rw [Dats] at m
    obtain ⟨u, us, rfl, h1, h2⟩ := m
    exact Dats.cons h1 (Dats.set h n h2)
def gSetAt (i : Nat) (z zi : DZ) : DS := fun st => (z st).bindS fun d st => (gN i st).bindS fun a st => (zi st).bindS fun ix st => match ix with
  | .int n => (match cellAt st a with
    | some xs => (match ixN xs.length n, a with
      | some j, .cell k => .nx { st with S := st.S.set k (.lst (xs.set j d)) }
      | _, _ => .no)
    | none => (match ownL st i with
      | some xs => (match ixN xs.length n with
        | some j => .nx { st with env := st.env.set i (some (.ow (.lst (xs.set j d)))) }
        | none => .no)
      | none => .no))
  | _ => .no
theorem ds_setAt {i : Nat} {x : Str} {p spos : Pos} {zi : DZ} (hN : X.N[i]? = some x) (hv : Vis X.env.scope x) (hd : (x == ("__debug__" : Str)) = false) (hcd : (x == ("__classdict__" : Str)) = false) (he : PE X e (tZ X.K W za)) (hi : PE X b (tV X.K W zi))
    (ha : ∀ v, assign (.Subscript (.Name x p) b spos) X.env v = (do
      let ov ← holding [v] (eval (.Name x p) X.env)
      let iv ← holding [v, ov] (eval b X.env)
      standAt spos
      holding [v, ov, iv] (setItem ov iv v)
      release [v, ov, iv] []))
    (hs : swapsWithSole [.Subscript (.Name x p) b spos] e pos.line X.env = pure false) (hw : swappedStores [.Subscript (.Name x p) b spos] e X.env = pure none) (h1 : (assignEach [.Subscript (.Name x p) b spos] X.env).map (·.2) = [assign (.Subscript (.Name x p) b spos) X.env]) :
    PS X (.Assign [.Subscript (.Name x p) b spos] e pos) (tS X.K W (gSetAt i za zi)) := by
  refine PS.imp (ps_asg he (pg_sub (pe_var hN hv hd hcd) hi set_list ha) hs hw h1) fun D σ H ⟨t, st, r, q⟩ => ?_
  refine tG_atS r q fun t1 st1 H1 d y E1 R1 p1 q1 => ?_
  have q2 := ResS.step E1.w q1
  cases e0 : st1.env[i]? with
  | none => rw [gN_out e0] at q2; exact q2.elim
  | some o =>
    cases o with
    | none => rw [gN_none e0] at q2; exact q2.elim
    | some rv =>
      have nm : ∀ o, rv ≠ .me o := fun o z => by subst z; rw [gN_me e0] at q2; exact q2.elim
      rw [gN_eq nm e0] at q2
      obtain ⟨v, ev, vw⟩ := R1.look nm e0
      refine ⟨v, ev, ?_⟩
      refine tG_atS R1 q2 fun t2 st2 H2 ix w E2 R2 p2 q3 => ?_
      have q4 := ResS.step E2.w q3
      have vw2 := Vw.step E2 vw
      have p1' : Dat X.K (fz t2 H2) (rho t2) d y := E2.dat p1
      cases ix with
      | int n =>
        have p2 : w = .int n := p2
        dsimp only at q4
        cases ec : cellAt st2 rv.fz with
        | some xs =>
          rw [ec] at q4
          obtain ⟨k, a, vs, ed, hk, rfl, ht, hp, m⟩ := cell_of R2 vw2 ec
          obtain ⟨a', z1, z2, _⟩ := R2.r0.cel k _ hk
          have ea := z2 a ht
          subst ea
          dsimp only at q4
          cases ej : ixN xs.length n with
          | none => rw [ej] at q4; exact q4.elim
          | some j =>
            rw [ej, ed] at q4
            obtain ⟨EW, RW⟩ := R2.updCell ht z2 (Dats.set p1' j m)
            exact ⟨a, vs, n, j, rfl, p2, hp, by rw [← m.length]; exact ej, q4 t2 σ _ EW RW⟩
        | none =>
          rw [ec] at q4
          dsimp only at q4
          cases eo : ownL st2 i with
          | none => rw [eo] at q4; exact q4.elim
          | some xs =>
            rw [eo] at q4
            obtain ⟨p2', vs2, hp2, ht2, hH2, m2⟩ := R2.slotAt (ownL_of eo)
            rw [ev] at hp2
            cases hp2
            dsimp only at q4
            cases ej : ixN xs.length n with
            | none => rw [ej] at q4; exact q4.elim
            | some j =>
              rw [ej] at q4
              obtain ⟨EW, RW⟩ := R2.updSlot ev ht2 (Dats.set p1' j m2)
              exact ⟨p2', vs2, n, j, rfl, p2, hH2, by rw [← m2.length]; exact ej, q4 t2 σ _ EW RW⟩
      | _ => exact q4.elim
end
end Dn
end

section
set_option maxHeartbeats 4000000
-- Dn11
/-! Dn11: what a def promises, its call -/
namespace Dn
open PySem PySem.Spec L2

inductive FOut where
  | ok (r : RV) (S : List OD)
  | ex (c : Str) (x : D) (S : List OD)
  | no
abbrev Fm := List D → List OD → FOut
/-- what is wanted of a call -/
def ResF (K : PySem.W.Frag) (Q : VK) (E : XK) (t : Tags) (H : Hp) : FOut → Prop
  | .ok r S' => ∀ t' H' v, ExtW t H t' H' → R0 K t' S' H' → IsRV K t H t' H' r v → Q v H'
  | .ex c x S' => ∀ t' H' d, ExtW t H t' H' → R0 K t' S' H' → ExAt K t' H' d x → E (.ref (He.ga K c)) (some d) H'
  | .no => False
def spD (K : PySem.W.Frag) (n : Nat) (m : Fm) : Sp := fun vs H Q E => ∃ t S ds, R0 K t S H ∧ (∀ a i, t a ≠ .slot i) ∧ Dats K (fz t H) (rho t) ds vs ∧ ds.length = n ∧ ResF K Q E t H (m ds S)
theorem spD.len {K : PySem.W.Frag} {n : Nat} {m : Fm} {vs : List V} {H : Hp} {Q : VK} {E : XK} (h : spD K n m vs H Q E) : vs.length = n := by
  obtain ⟨t, S, ds, _, _, d, l, _⟩ := h
  rw [← d.length, l]
/-- a body as a promise: N names, their slots -/
def outF : OutS → FOut
  | .nx st => .ok (.sh .non) st.S
  | .rt r st => .ok r st.S
  | .ex c x st => .ex c x st.S
  | _ => .no
def fm (n : Nat) (g : DS) : Fm := fun ds S => outF (g ⟨ds.map (fun d => some (.sh d)) ++ List.replicate (n - ds.length) none, S⟩)
theorem body_of {K : PySem.W.Frag} {E : XK} {Q : VK} {N : List Str} {n : Nat} {g : DS} {vs : List V} {H : Hp} (h : spD K n (fm N.length g) vs H Q E) : tS K (fun cls d _ H => E cls d H) g { nx := fun _ H' => Q .non H', rt := Q } (start N vs) H := by
  obtain ⟨t, S, ds, r0, ns, dd, l, q⟩ := h
  refine ⟨t, ⟨ds.map (fun d => some (.sh d)) ++ List.replicate (N.length - ds.length) none, S⟩, ⟨r0, ?_, fun i x e => ?_⟩, ?_⟩
  · show (ds.map (fun d => some (RV.sh d)) ++ List.replicate (N.length - ds.length) none).length = (start N vs).length
    unfold L2.start
    simp [dd.length]
  · have e : (ds.map (fun d => some (RV.sh d)) ++ List.replicate (N.length - ds.length) none)[i]? = some (some x) := e
    by_cases hi : i < ds.length
    · rw [List.getElem?_append_left (by simpa using hi), List.getElem?_map] at e
      obtain ⟨d, hd, e2⟩ := Option.map_eq_some_iff.mp e
      cases e2
      obtain ⟨v, hv, dv⟩ := dd.get hd
      refine ⟨v, ?_, dv⟩
      unfold L2.start
      rw [List.getElem?_append_left (by rw [List.length_map, ← dd.length]; exact hi), List.getElem?_map, hv]
      rfl
    · rw [List.getElem?_append_right (by simpa using hi), List.getElem?_replicate] at e
      split at e <;> cases e
  · unfold fm at q
    cases e : g ⟨ds.map (fun d => some (.sh d)) ++ List.replicate (N.length - ds.length) none, S⟩ with
    | nx st =>
      rw [e] at q
      exact fun t' σ' H' E' R' => q t' H' .non E' R'.r0 (by show Dat _ _ _ _ _; rw [Dat])
    | rt rv st =>
      rw [e] at q
      exact fun t' σ' H' v E' R' p => q t' H' v E' R'.r0 p
    | ex c x st =>
      rw [e] at q
      exact fun t' σ' H' d E' R' p => q t' H' d E' R'.r0 p
    | bk _ => rw [e] at q; exact q.elim
    | ct _ => rw [e] at q; exact q.elim
    | no => rw [e] at q; exact q.elim

/-! ### the caller's slots are no one's for the callee -/
def unslot (t : Tags) : Tags := fun a => match t a with
  | .slot _ => .non
  | .cell none => .non
  | x => x
theorem unslot_frz {t : Tags} {a : Addr} : unslot t a = .frz ↔ t a = .frz := by
  unfold unslot; rcases t a with _ | _ | (_ | k) | _ <;> simp
theorem unslot_cell {t : Tags} {a : Addr} {k : Nat} : unslot t a = .cell (some k) ↔ t a = .cell (some k) := by
  unfold unslot; rcases t a with _ | _ | (_ | k) | _ <;> simp
theorem unslot_slot {t : Tags} {a : Addr} {i : Nat} : unslot t a ≠ .slot i := by
  unfold unslot; rcases t a with _ | _ | (_ | k) | _ <;> simp
theorem unslot_me {t : Tags} {a : Addr} : unslot t a ≠ .cell none := by
  unfold unslot; rcases t a with _ | _ | (_ | k) | _ <;> simp
theorem unslot_non {t : Tags} {a : Addr} (h : t a = .non) : unslot t a = .non := by
  unfold unslot; rw [h]
theorem fz_unslot {t : Tags} {H : Hp} : fz (unslot t) H = fz t H := by
  funext a
  unfold fz
  by_cases h : t a = .frz
  · rw [if_pos h, if_pos (unslot_frz.mpr h)]
  · rw [if_neg h, if_neg fun z => h (unslot_frz.mp z)]
theorem rho_unslot {t : Tags} : rho (unslot t) = rho t := by
  funext k a
  exact propext unslot_cell
theorem R0.unslot {K : PySem.W.Frag} {t : Tags} {S : List OD} {H : Hp} (r : R0 K t S H) : R0 K (unslot t) S H where
  tag := fun a h => r.tag a fun e => h (unslot_non e)
  cel := fun k o h => by
    obtain ⟨a, h1, h2, h3⟩ := r.cel k o h
    exact ⟨a, unslot_cell.mpr h1, fun b hb => h2 b (unslot_cell.mp hb), by rw [fz_unslot, rho_unslot]; exact h3⟩
  lt := fun a k h => r.lt a k (unslot_cell.mp h)
  one := fun a b h => absurd h unslot_me
/-- what the caller holds by itself -/
def Own (x : Tag) : Prop := (∃ i, x = .slot i) ∨ x = .cell none
/-- the caller's tags behind a call -/
def joinT (t t' : Tags) : Tags := fun a => match t a with
  | .slot i => .slot i
  | .cell none => .cell none
  | _ => unslot t' a
section
variable {K : PySem.W.Frag} {t t' : Tags} {H H' : Hp} {st : DSt} {σ : L2.St} {S' : List OD}
theorem joinT_ne {a : Addr} (h : ¬ Own (t a)) : joinT t t' a = unslot t' a := by
  unfold joinT
  rcases e : t a with _ | _ | (_ | k) | i
  · rfl
  · rfl
  · exact absurd (.inr e) h
  · rfl
  · exact absurd (.inl ⟨i, e⟩) h
theorem joinT_own {a : Addr} (h : Own (t a)) : joinT t t' a = t a := by
  unfold joinT
  rcases h with ⟨i, h⟩ | h <;> rw [h]
theorem joinT_slot {a : Addr} {i : Nat} (h : t a = .slot i) : joinT t t' a = .slot i := by
  rw [joinT_own (.inl ⟨i, h⟩), h]
theorem own_non (r : R0 K t st.S H) (E : ExtW (unslot t) H t' H') {a : Addr} (h : Own (t a)) : t' a = .non ∧ H' a = H a := by
  cases q : H a with
  | none =>
    refine absurd q (r.tag a fun z => ?_)
    rcases h with ⟨i, h⟩ | h <;> rw [z] at h <;> cases h
  | some o =>
    have e : unslot t a = .non := by
      unfold unslot
      rcases h with ⟨i, h⟩ | h <;> rw [h]
    exact E.oth a o e q
theorem slot_non (r : R0 K t st.S H) (E : ExtW (unslot t) H t' H') {a : Addr} {i : Nat} (h : t a = .slot i) : t' a = .non ∧ H' a = H a := own_non r E (.inl ⟨i, h⟩)
theorem not_own {a : Addr} {x : Tag} (e : t a = x) (h : ¬ Own x) : ¬ Own (t a) := by rw [e]; exact h
theorem nown_frz : ¬ Own .frz := fun h => by rcases h with ⟨i, h⟩ | h <;> cases h
theorem nown_non : ¬ Own .non := fun h => by rcases h with ⟨i, h⟩ | h <;> cases h
theorem nown_cell {k : Nat} : ¬ Own (.cell (some k)) := fun h => by rcases h with ⟨i, h⟩ | h <;> cases h
theorem fz_joinT (r : R0 K t st.S H) (E : ExtW (unslot t) H t' H') : fz (joinT t t') H' = fz t' H' ∧ rho (joinT t t') = rho t' := by
  have key : ∀ a (x : Tag), ¬ Own x → x ≠ .non → (joinT t t' a = x ↔ t' a = x) := fun a x hx hn => by
    by_cases h : Own (t a)
    · rw [joinT_own h, (own_non r E h).1]
      exact ⟨fun z => absurd (z ▸ h) hx, fun z => absurd z.symm hn⟩
    · rw [joinT_ne h]
      rcases x with _ | _ | (_ | k) | i
      · exact absurd rfl hn
      · exact unslot_frz
      · exact absurd (.inr rfl) hx
      · exact unslot_cell
      · exact absurd (.inl ⟨i, rfl⟩) hx
  constructor
  · funext a
    unfold fz
    by_cases h : t' a = .frz
    · rw [if_pos h, if_pos ((key a .frz nown_frz nofun).mpr h)]
    · rw [if_neg h, if_neg fun z => h ((key a .frz nown_frz nofun).mp z)]
  · funext k a
    exact propext (key a (.cell (some k)) nown_cell nofun)
/-- behind a call -/
theorem R.call (r : R K t st σ H) (E : ExtW (unslot t) H t' H') (r' : R0 K t' S' H') : Ext t H (joinT t t') H' ∧ R K (joinT t t') { st with S := S' } σ H' := by
  obtain ⟨ef, er⟩ := fz_joinT r.r0 E
  have X : Ext t H (joinT t t') H' := {
    frz := fun a h => by
      obtain ⟨h1, h2⟩ := E.frz a (unslot_frz.mpr h)
      exact ⟨by rw [joinT_ne (not_own h nown_frz)]; exact unslot_frz.mpr h1, h2⟩
    cel := fun a k h => by
      cases k with
      | none => rw [joinT_own (.inr h)]; exact h
      | some k =>
        rw [joinT_ne (not_own h nown_cell)]
        exact unslot_cell.mpr (E.cel a _ (unslot_cell.mpr h))
    oth := fun a o h e => by
      obtain ⟨h1, h2⟩ := E.oth a o (unslot_non h) e
      exact ⟨by rw [joinT_ne (not_own h nown_non)]; exact unslot_non h1, h2⟩
    slt := fun a i o h e => by
      obtain ⟨h1, h2⟩ := slot_non r.r0 E h
      exact ⟨h2.trans e, fun k => by rw [joinT_slot h]; exact nofun⟩ }
  refine ⟨X, ⟨fun a h => ?_, fun k o h => ?_, fun a k h => r'.lt a k (by have e : rho (joinT t t') k a := h; rw [er] at e; exact e), fun a b h h' => ?_⟩, r.len, fun i x h => ?_⟩
  · by_cases hs : Own (t a)
    · rw [(own_non r.r0 E hs).2]
      exact r.r0.tag a fun z => nown_non (z ▸ hs)
    · rw [joinT_ne hs] at h
      exact r'.tag a fun e => h (unslot_non e)
  · obtain ⟨a, h1, h2, h3⟩ := r'.cel k o h
    refine ⟨a, ?_, fun b hb => ?_, by rw [ef, er]; exact h3⟩
    · have e : rho t' k a := h1
      rw [← er] at e
      exact e
    · have e : rho (joinT t t') k b := hb
      rw [er] at e
      exact h2 b e
  · have key : ∀ a, joinT t t' a = .cell none → t a = .cell none := fun a z => by
      by_cases hs : Own (t a)
      · rw [joinT_own hs] at z; exact z
      · rw [joinT_ne hs] at z; exact absurd z unslot_me
    exact r.r0.one a b (key a h) (key b h')
  · obtain ⟨v, e, q⟩ := r.env i x h
    refine ⟨v, e, ?_⟩
    cases x with
    | sh d => exact X.dat q
    | ow o =>
      obtain ⟨a, e1, h1, h2⟩ := q
      exact ⟨a, e1, joinT_slot h1, h2.mono X.le X.rh fun o h => by rw [(slot_non r.r0 E h1).2]; exact h⟩
    | me o =>
      obtain ⟨a, e1, h1, h2, hi⟩ := q
      exact ⟨a, e1, by rw [joinT_own (.inr h1)]; exact h1, h2.mono X.le X.rh fun o h => by rw [(own_non r.r0 E (.inr h1)).2]; exact h, hi⟩
theorem IsRV.call (r : R0 K t st.S H) (E : ExtW (unslot t) H t' H') {x : RV} {v : V} (p : IsRV K (unslot t) H t' H' x v) : IsRV K t H (joinT t t') H' x v := by
  obtain ⟨ef, er⟩ := fz_joinT r E
  cases x with
  | sh d =>
    show Dat _ _ _ _ _
    rw [ef, er]; exact p
  | me o => exact p.elim
  | ow o =>
    obtain ⟨a, e, h1, h2, h3⟩ := p
    have ns : ¬ Own (t a) := fun z => by
      have z2 := h1 (by unfold Dn.unslot; rcases z with ⟨i, z⟩ | z <;> rw [z])
      exact r.tag a (fun q => nown_non (q ▸ z)) z2
    exact ⟨a, e, fun n => h1 (unslot_non n), by rw [joinT_ne ns]; exact unslot_non h2, by rw [ef, er]; exact h3⟩
end

/-! ### a def -/
/-- a def's promise, where no repr is under way -/
def FnG (P : Program) (w : World) (K : PySem.W.Frag) (mg : Str → Option Value) (base : Heap) (k : Nat) (f : Addr) (fd : FuncData) (ps : List Str) (m : Fm) : Prop :=
  ∀ (A : Around) (outer : List Env) (s : Shared) (H : Hp) (args : Args) (us : List Value) (vs : List V) (Q : VK) (E : XK), Room k A → A.guards = some [] → Env0 P w K mg base A outer s H → BindsTo s fd args (ps.zip us) → Vals vs us → spD K ps.length m vs H Q E →
    codeAny (model P w) A (.call (.ref f) args) (CR (CX P w) outer P w H s Q E) s
theorem FnG.mono {P : Program} {w : World} {K : PySem.W.Frag} {mg : Str → Option Value} {base : Heap} {j k : Nat} {f : Addr} {fd : FuncData} {ps : List Str} {m : Fm} (F : FnG P w K mg base j f fd ps m) (h : j ≤ k) : FnG P w K mg base k f fd ps m :=
  fun A outer s H args us vs Q E hr hg => F A outer s H args us vs Q E (hr.mono h) hg
/-- what the body's rules may lean on -/
structure Body (X : Cx) (k : Nat) (W : WX) : Prop where
  room : Room k X.A
  gds : X.A.guards = some []
  calm : X.calm = true
  own : PassesOwn (model X.prog X.w) X.A X.env X.xe
  tk : Takes X W
  fn : ∀ x, X.fn x = true
  st : X.stack = X.env :: X.outer
  fr : X.env.frame = some X.env.locals
  ex : X.ex = []
abbrev cxG (P : Program) (w : World) (K : PySem.W.Frag) (mg : Str → Option Value) (base : Heap) (N : List Str) (qual : Str) (scope : Scope) (f : Addr) (cdv : Value) (A : Around) (outer : List Env) (s : Shared) (H : Hp) (E : XK) : Cx :=
  cxOf (CX P w) P w K mg base N qual scope f cdv A outer s H E
theorem fnG_of {P : Program} {w : World} {K : PySem.W.Frag} {mg : Str → Option Value} {base : Heap} {k : Nat} {f : Addr} {x qual : Str} {params : Arguments} {body : List Stmt} {scope : Scope} {dvs : List V} {kws : List (Str × V)} {fd : FuncData}
    {N ps : List Str} {g : DS} (F : FunD K x qual params body scope dvs kws f fd) (S : FnScope N ps scope)
    (hbody : ∀ (cdv : Value) (A : Around) (outer : List Env) (s : Shared) (H : Hp) (E : XK) (W : WX), W = (fun cls d _ H => E cls d H) → Body (cxG P w K mg base N qual scope f cdv A outer s H E) k W →
      PSs (cxG P w K mg base N qual scope f cdv A outer s H E) body (tS K W g)) :
    FnG P w K mg base (k + 1) f fd ps (fm N.length g) := by
  obtain ⟨oc, od, dV, kV, doc, pm, an, cdv, ct, osl, rfl, lk, hcd, _, _⟩ := F.ex
  intro A outer s H args us vs Q E room gd env0 hbind vals want
  have hlen : vs.length = ps.length := want.len
  have stay : ∀ b o, base.get? b = some o → s.heap.get? b = some o := fun b o e => (env0.bs b o e).1
  have inS : K.In s.heap := env0.mod.kin.keeps stay
  have noLim : s.heap.NoLimit := env0.mod.nolimit.keeps stay
  refine codeAny_call_function room.depth (inS _ _ lk) rfl S.co S.gen rfl (PySem.W.codeRec_of inS hcd) (hbind _ _ _ _ ?_)
  refine wpAny_newFunctionEnv_cells S.kind (fun y hy => ?_) fun env he s1 x => ?_
  · obtain ⟨n, v⟩ := y
    exact (S.par n (List.of_mem_zip hy).1).imp id fun q => ⟨q, PySem.W.cellsFrom_some _ _ _ (.inl q)⟩
  subst he
  refine ⟨noLim.keeps x.toInCall.keep, codeAny_func ?_⟩
  have inv : Inv (cxG P w K mg base N qual scope f cdv A outer s H E) [] (start N vs) H s1 := inv_start S room.hd env0 hlen vals x
  have bd : Body (cxG P w K mg base N qual scope f cdv A outer s H E) k (fun cls d _ H => E cls d H) := ⟨room.deeper _, gd, rfl, passes_of rfl, takes_of rfl rfl rfl rfl, fun _ => rfl, rfl, rfl, rfl⟩
  have run := (hbody cdv A outer s H E _ rfl bd).run [] s1 (start N vs) H _ inv (body_of (N := N) want)
  refine wpAny_mono run (fun fl s' hs => ?_) fun e s' hs => hs
  match fl, hs with
  | .ret u, ⟨v, σ', H', J, rv, q⟩ => exact ⟨v, H', J.os, J.bare, J.base, J.hok, rv, q⟩
  | .next, ⟨σ', H', J, q⟩ => exact ⟨V.non, H', J.os, J.bare, J.base, J.hok, (rfl : Value.none = Value.none), q⟩
  | .brk, ⟨_, _, _, q⟩ => exact False.elim q
  | .cont, ⟨_, _, _, q⟩ => exact False.elim q

/-! ### the call of a def by its name -/
def outE : FOut → DSt → Out RV
  | .ok r S, st => .ok r { st with S := S }
  | .ex c x S, st => .ex c x { st with S := S }
  | .no, _ => .no
def gFn (m : Fm) (gs : DAs) : DE := fun st => (gs st).bind fun ds st => outE (m ds st.S) st
section
variable {X : Cx} {W : WX} {k : Nat} {f : Addr} {fd : FuncData} {ps : List Str} {m : Fm} {x : Str} {p pos : Pos} {e : Expr} {es : List Expr} {gs : DAs}
/-- the callee runs -/
theorem run_G (F : FnG X.prog X.w X.K X.mg X.base k f fd ps m) (room : Room k X.A) (gd : X.A.guards = some []) (hb : Binds X.K fd ps []) (hx : ∀ (E : XK) (t : Tags), True) {pins : List (Addr × Obj)} {σ : L2.St} {H : Hp} {s : Shared} {Q : VK} {us : List Value} {vs : List V} {E : XK}
    (hp : ∀ e s', CX X.prog X.w X.stack H s E e s' → X.xe e s') (I : Inv X pins σ H s) (r : Vals vs us) (h : spD X.K ps.length m vs H Q E) : wpAny (model X.prog X.w) X.A (call (.ref f) us) (EP X pins σ Q) X.xe s := by
  have hl : us.length = ps.length := by rw [← r.length]; exact h.len
  have hb' := hb s us I.kIn (by rw [List.append_nil]; exact hl)
  rw [List.append_nil] at hb'
  refine wpAny_call (codeAny_mono (F X.A X.stack s H ⟨us, []⟩ us vs Q E room gd I.env0 hb' r h) fun res s' hq => ?_)
  match res, hq with
  | .error e, hq => exact hp e s' hq
  | .ok (.ret u), hq => exact I.after hq
  | .ok .next, hq => exact False.elim hq
  | .ok .brk, hq => exact False.elim hq
  | .ok .cont, hq => exact False.elim hq
/-- what the caller wants, from what the call gives -/
theorem call_want {σ : L2.St} {H : Hp} {Q : VK} {t : Tags} {st : DSt} {ds : List D} {vs : List V} {n : Nat} {K : PySem.W.Frag} (r : R K t st σ H) (d : Dats K (fz t H) (rho t) ds vs) (hl : ds.length = n) (q : Res K W σ Q (IsRV K) t H (outE (m ds st.S) st)) :
    spD K n m vs H Q (fun cls d H' => W cls d σ H') := by
  refine ⟨unslot t, st.S, ds, r.r0.unslot, fun _ _ => unslot_slot, by rw [fz_unslot, rho_unslot]; exact d, hl, ?_⟩
  cases e : m ds st.S with
  | ok rv S' =>
    rw [e] at q
    intro t' H' v E' r' p
    obtain ⟨X', RX⟩ := r.call E' r'
    exact q _ H' v X' RX (p.call r.r0 E')
  | ex c x S' =>
    rw [e] at q
    intro t' H' d' E' r' ⟨u, h1, h2, h3⟩
    obtain ⟨X', RX⟩ := r.call E' r'
    obtain ⟨ef, er⟩ := fz_joinT r.r0 E'
    refine q _ H' d' X' RX ⟨u, h1, ?_, by rw [ef, er]; exact h3⟩
    have hs : ¬ Own (t d') := fun z => by rw [(own_non r.r0 E' z).1] at h2; cases h2
    rw [joinT_ne hs]
    exact unslot_frz.mpr h2
  | no => rw [e] at q; exact q.elim
def gLen (n : Nat) (gs : DAs) : DAs := fun st => (gs st).bind fun ds st => if ds.length = n then .ok ds st else .no
theorem de_call (F : FnG X.prog X.w X.K X.mg X.base k f fd ps m) (room : Room k X.A) (gd : X.A.guards = some []) (tk : Takes X W) (hg : Gl X x) (hm : X.mg x = some (.ref f)) (hk : PySem.W.keepIn X.K (.ref f) = true) (hb : Binds X.K fd ps [])
    (ha : PA X (e :: es) (tA X.K W gs (PLz X.K))) (hdb : (x == ("__debug__" : Str)) = false) (he : starEach (e :: es) X.env = (false, eval e X.env) :: starEach es X.env) (hpl : (backTo pos (starEach es X.env)).any (·.1) = false) :
    PE X (.Call (.Name x p) (e :: es) [] pos) (tD X.K W (gFn m (gLen ps.length gs))) := by
  refine ⟨fun pins s σ H Q I ⟨t, st, r, q⟩ => ?_⟩
  have q : Res X.K W σ Q (IsRV X.K) t H (((gs st).bind fun ds st => if ds.length = ps.length then .ok ds st else .no).bind fun ds st => outE (m ds st.S) st) := q
  have want : tA X.K W gs (PLz X.K) σ H fun vs H1 => spD X.K ps.length m vs H1 Q (fun cls d H' => W cls d σ H') := by
    refine ⟨t, st, r, ?_⟩
    cases eg : gs st with
    | no => rw [eg] at q; exact q
    | ex c x st' => rw [eg] at q; exact q
    | ok ds st1 =>
      rw [eg] at q
      intro t1 H1 vs E1 R1 p1
      have q1 : Res X.K W σ Q (IsRV X.K) t H ((if ds.length = ps.length then Out.ok ds st1 else Out.no).bind fun ds st => outE (m ds st.S) st) := q
      by_cases hl : ds.length = ps.length
      · rw [if_pos hl] at q1
        exact call_want R1 p1 hl (Res.step0 E1 q1)
      · rw [if_neg hl] at q1; exact q1.elim
  refine wpAny_Call_Name_kw (ld_glob I hg hm ?_ hdb)
  refine PySem.W.callWith_K (h₀ := X.base) I.ok.mod.kin hk (thn (ha.run pos pins s σ H _ I want) fun us s1 ⟨vs, H1, I1, rv, q1⟩ => ⟨I1.kIn, ?_⟩) he hpl
  exact run_G F room gd hb (fun _ _ => trivial) (fun e s' c => tk e s' (XE.of_call I1 (fun _ _ _ h => h) c)) I1 rv q1
end
end Dn
end

section
set_option maxHeartbeats 4000000
-- Dn12
/-! Dn12: the end: a law's def, at the heap behind the top -/
namespace Dn
open PySem PySem.Spec L2
open PyProof.Rows (IntsAre AllBare)

/-- the heap's view at the law's call: nothing tracked, or the script alone -/
structure Scr (P : Program) (w : World) (K : PySem.W.Frag) (H : Hp) (h : Heap) (a : Addr) (ns : List Int) : Prop where
  only : Only H
  sq : SqL K H a (ns.map V.int)
  ok : HOk P w H h
  at_ : ∀ b, H b ≠ none → b = a
  new : H a ≠ none → K.lookup a = none
theorem scr_ex {P : Program} {w : World} {K : PySem.W.Frag} {h : Heap} {a : Addr} {vs : List Value} {ns : List Int} (KX : K.In h) (ha : h.get? a = some { cls := .type "list", data := .seq vs.toArray }) (hi : IntsAre vs ns) (hl : ns.length ≤ sizeLine) : ∃ H, Scr P w K H h a ns := by
  have rv := vals_ints hi
  have lv := hi.length
  cases hk : K.lookup a with
  | some o =>
    have e : h.get? a = some o := KX a o hk
    obtain rfl : o = { cls := .type "list", data := .seq vs.toArray } := by rw [ha] at e; exact (Option.some.inj e).symm
    exact ⟨fun _ => none, fun _ => .inl rfl, .inr ⟨_, vs.toArray, _, hk, rfl, rfl, rfl, by simpa [lv] using hl, by simpa using rv⟩, fun b u z => absurd z nofun, fun b z => absurd rfl z, fun z => absurd rfl z⟩
  | none =>
    let H : Hp := fun b => if b = a then some (.frz { cls := .type "list", data := .seq vs.toArray } (.lst (ns.map V.int))) else none
    have self : H a = some (.frz { cls := .type "list", data := .seq vs.toArray } (.lst (ns.map V.int))) := if_pos rfl
    have other : ∀ b, b ≠ a → H b = none := fun b hb => if_neg hb
    refine ⟨H, fun b => ?_, .inl (.inr ⟨_, self⟩), fun b u z => ?_, fun b z => ?_, fun _ => hk⟩
    · by_cases hb : b = a
      · subst hb; exact .inr ⟨_, _, self⟩
      · exact .inl (other b hb)
    · by_cases hb : b = a
      · subst hb
        rw [self] at z
        cases z
        exact ⟨ha, by simpa using hl, vs, _, rv, ha⟩
      · rw [other b hb] at z; cases z
    · exact Classical.byContradiction fun hb => z (other b hb)
theorem scr_env {P : Program} {w : World} {K : PySem.W.Frag} {mg mb : Str → Option Value} {H : Hp} {s₁ : Shared} {a : Addr} {vs : List Value} {ns : List Int} (q : Scr P w K H s₁.heap a ns) (KX : K.In s₁.heap) (hns : s₁.heap.Ns mainGlobals mg) (hb : s₁.heap.Ns builtinsNs mb) (hbb : ∀ x : Str, x ≠ "__name__" → mb x = bootBuiltins x)
    (lim : s₁.heap.NoLimit) (hg : s₁.gens = #[]) (ha : s₁.heap.get? a = some { cls := .type "list", data := .seq vs.toArray }) :
    K.In (hidT s₁.heap H) ∧ (hidT s₁.heap H).Ns mainGlobals mg ∧ Env0 P w K mg (hidT s₁.heap H) callerA [] s₁ H := by
  have noDict : ∀ {b : Addr} {o : Obj} {es : Array DictEntry} {ep : Nat}, s₁.heap.get? b = some o → o.data = .dict es ep → H b = none := fun {b o es ep} e d => by
    refine Classical.byContradiction fun z => ?_
    obtain rfl := q.at_ b z
    obtain rfl : o = { cls := .type "list", data := .seq vs.toArray } := by rw [ha] at e; exact (Option.some.inj e).symm
    cases d
  have ns' : ∀ {b : Addr} {m : Str → Option Value}, s₁.heap.Ns b m → (hidT s₁.heap H).Ns b m := fun {b m} z => by
    obtain ⟨o, es, ep, e, d, r⟩ := z
    exact ⟨o, es, ep, hidT_get e (noDict e d), d, r⟩
  have kin : K.In (hidT s₁.heap H) := fun b o e => by
    refine hidT_get (KX b o e) (Classical.byContradiction fun z => ?_)
    obtain rfl := q.at_ b z
    rw [q.new z] at e; cases e
  obtain ⟨mc, l1, l2⟩ := lim
  have md : Mod K mg (hidT s₁.heap H) := { kin := kin, glob := ns' hns, blt := ⟨mb, ns' hb, hbb⟩, nolimit := ⟨mc, ns' l1, l2⟩ }
  exact ⟨kin, ns' hns, { frames := rfl, mod := md, bs := fun _ _ e => of_hidT e, bsz := Nat.le_of_eq (hidT_size _ _), funs := trivial, frf := fun _ z => absurd z List.not_mem_nil, hok := q.ok, bare := .of_eq hg }⟩
/-- what is left of the heap behind the law -/
theorem scr_old {P : Program} {w : World} {K : PySem.W.Frag} {H H' : Hp} {h h' : Heap} {a : Addr} {ns : List Int} (q : Scr P w K H h a ns) (un : Un (frs []) [] H H' h h') (ok' : HOk P w H' h') : OldK h h' := OldK.of_keep fun b o e => by
  have no : ∀ {l : List Addr}, l = [] → b ∉ l := fun z => by rw [z]; exact List.not_mem_nil
  rcases q.only b with z | ⟨ob, xs, z⟩
  · exact un.keep b o e z (no rfl) (no rfl)
  · obtain ⟨e1, _⟩ := q.ok b _ z
    obtain ⟨e2, _⟩ := ok' b _ (un.frzs b ob _ z)
    rw [e1] at e
    cases e
    exact e2
theorem lawG {P : Program} {w : World} {K : PySem.W.Frag} {mg mb : Str → Option Value} {k : Nat} {fa a : Addr} {fd : FuncData} {x : Str} {m : Fm} {s₁ : Shared} {vs : List Value} {ns : List Int} {S' : List OD}
    (KX : K.In s₁.heap) (hns : s₁.heap.Ns mainGlobals mg) (hb : s₁.heap.Ns builtinsNs mb) (hbb : ∀ x : Str, x ≠ "__name__" → mb x = bootBuiltins x) (lim : s₁.heap.NoLimit) (hg : s₁.gens = #[])
    (ha : s₁.heap.get? a = some { cls := .type "list", data := .seq vs.toArray }) (hi : IntsAre vs ns) (hl : ns.length ≤ sizeLine) (hr : Room k callerA)
    (F : ∀ base : Heap, K.In base → base.Ns mainGlobals mg → FnG P w K mg base k fa fd [x] m) (hbind : ∀ (s : Shared) (u : Value), BindsTo s fd ⟨[u], []⟩ [(x, u)]) (hm : m [.scr ns] [] = .ok (.sh (.bl true)) S') :
    codeAny (model P w) callerA (.call (.ref fa) ⟨[.ref a], []⟩) (fun r s' => r = .ok (.ret (.bool true)) ∧ OldK s₁.heap s'.heap ∧ s'.os = s₁.os ∧ AllBare s'.gens) s₁ := by
  obtain ⟨H, q⟩ := scr_ex (P := P) (w := w) KX ha hi hl
  obtain ⟨kin, ns', e0⟩ := scr_env q KX hns hb hbb lim hg ha
  let t : Tags := fun b => if H b = none then .non else .frz
  have tf : fz t H = H := by
    funext b
    unfold fz
    by_cases z : H b = none
    · rw [if_neg (by show t b ≠ .frz; simp [t, z]), z]
    · rw [if_pos (by show t b = .frz; simp [t, z])]
  have tn : ∀ b k, t b ≠ .cell k := fun b k => by by_cases z : H b = none <;> simp [t, z]
  have ts : ∀ b i, t b ≠ .slot i := fun b i => by by_cases z : H b = none <;> simp [t, z]
  have want : spD K 1 m [.ref a] H (fun v _ => v = .bl true) (fun _ _ _ => False) := by
    refine ⟨t, [], [.scr ns], ⟨fun b hb => ?_, fun k o h => by simp at h, fun b k h => absurd h (tn b k), fun b b' h => absurd h (tn b _)⟩, ts, Dats.cons ?_ Dats.nil, rfl, ?_⟩
    · intro z
      exact hb (by simp [t, z])
    · rw [Dat, tf]
      exact ⟨a, rfl, q.sq⟩
    · rw [hm]
      intro t' H' v _ _ p
      have p : Dat K (fz t' H') (rho t') (.bl true) v := p
      rw [Dat] at p
      exact p
  refine codeAny_mono (F _ kin ns' callerA [] s₁ H ⟨[.ref a], []⟩ [.ref a] [.ref a] _ _ hr rfl e0 (hbind s₁ (.ref a)) (.cons rfl .nil) want) fun r s' h => ?_
  match r, h with
  | .error e, ⟨_, _, _, _, _, _, _, _, _, _, _, _, z⟩ => exact z.elim
  | .ok .next, h => exact False.elim h
  | .ok .brk, h => exact False.elim h
  | .ok .cont, h => exact False.elim h
  | .ok (.ret u), ⟨v, H', os, bare, un, ok', rv, e⟩ =>
    have e : v = .bl true := e
    subst e
    obtain rfl : u = Value.bool true := rv
    exact ⟨rfl, scr_old q un ok', os, bare⟩
theorem walkG {l : PySem.W.OpenLaw} {n k : Nat} {q : Program} {loose : List Str} {XP : (Str → Option Value) → Heap → Prop} {YP : World → Heap → Prop} {d : DefRec} {x : Str}
    (hn : l.most = some n) (hn2 : n ≤ sizeLine) (hdf : d.params.defaults = []) (hr : Room k callerA)
    (F : ∀ (w : World) (mg : Str → Option Value) (fa : Addr) (h : Heap), YP w h → h.Ns mainGlobals mg → mg d.name = some (.ref fa) →
      ∃ (K : PySem.W.Frag) (fd : FuncData) (m : Fm), K.In h ∧ (∀ (s : Shared) (u : Value), BindsTo s fd ⟨[u], []⟩ [(x, u)]) ∧ (∀ ns : List Int, ns.length ≤ n → ∃ S', m [.scr ns] [] = .ok (.sh (.bl true)) S') ∧
        ∀ base : Heap, K.In base → base.Ns mainGlobals mg → FnG l.prog w K mg base k fa fd [x] m) :
    PySem.W.WalkO q loose XP YP l.row.toRowW d [] (fun f vs => PySem.call f vs) := by
  refine Att.attach_call hn hdf fun w s₀ s₁ mg mb fa o pm cd doc a vs ns G Y _ _ _ hmg obj its1 len gens => ?_
  obtain ⟨K, fd, m, KX, bind, pure_, fn⟩ := F w mg fa _ Y G.T.g hmg
  obtain ⟨S', e⟩ := pure_ ns len
  exact lawG KX G.T.g G.T.b G.T.builtins G.T.nolimit gens obj its1 (Nat.le_trans len hn2) hr fn bind e
end Dn
end

section
set_option maxHeartbeats 4000000
-- Dn13
/-! Dn13: repr, isinstance with built-in types -/
namespace Dn
open PySem PySem.Spec L2
def isT (T t : String) : Bool := t == T || (t == "bool" && T == "int")
def tys : List String := ["str", "int", "bool", "tuple", "list", "dict"]
def tyD : D → Option String
  | .non => some "NoneType"
  | .bl _ => some "bool"
  | .int _ => some "int"
  | .str _ => some "str"
  | .tup _ => some "tuple"
  | .lst _ => some "list"
  | .dct _ => some "dict"
  | _ => none
theorem kit_bt {K : PySem.W.Frag} {T t : String} {d : D} (hT : T ∈ tys) (ht : tyD d = some t) : PySem.W.kitOne K (.type t) (.type T) = some (isT T t) := by
  simp only [tys, List.mem_cons, List.not_mem_nil, or_false] at hT
  unfold tyD at ht
  split at ht <;> cases ht <;> rcases hT with rfl | rfl | rfl | rfl | rfl | rfl <;> kernel_rfl
section
variable {X : Cx} {W : WX} {K : PySem.W.Frag} {t : Tags} {H : Hp}
theorem ty_vw {d : D} {v : V} {s : String} (h : Vw K t H d v) (e : tyD d = some s) : TyX K H v (.type s) := by
  cases d with
  | non => cases h; cases e; exact .base .non
  | bl b => cases h; cases e; exact .base (.bl b)
  | int b => cases h; cases e; exact .base (.int b)
  | str b => cases h; cases e; exact .base (.str b)
  | tup xs =>
    obtain ⟨a, vs, rfl, sq, _⟩ := h
    cases e
    rcases sq with (sq | ⟨o, sq⟩) | ⟨o, its, n, lk, c, _⟩
    · exact .base (.tup (fz_le _ _ sq))
    · exact .fTuple (fz_le _ _ sq)
    · exact .kTuple lk c
  | lst xs =>
    obtain ⟨a, vs, rfl, sp, _⟩ := h
    cases e
    exact .base (.lst sp)
  | dct kvs =>
    obtain ⟨a, ks, rfl, sp, _⟩ := h
    cases e
    rcases sp with sp | ⟨o, sp⟩
    · exact .base (.dK sp)
    · exact .fDict sp
  | _ => cases e
def isiD (T : String) (d : D) : Option RV := (tyD d).map fun t => .sh (.bl (isT T t))
def gIsi (T : String) (z : DZ) : DE := fun st => (z st).bind fun d st => opt (isiD T d) st
theorem de_isi {e e2 : Expr} {z : DZ} {T : String} {x : Str} {p pos p2 : Pos} (hT : T ∈ tys) (ha : PE X e (tV X.K W z)) (hx : PE X e2 (tC (.ty T))) (hg : Gl X "isinstance") (hm : X.mg "isinstance" = none)
    (hs : starEach [e, e2] X.env = (false, eval e X.env) :: starEach [e2] X.env) (hs2 : starEach [e2] X.env = (false, eval e2 X.env) :: starEach [] X.env) (hpl : (backTo pos (starEach [e2] X.env)).any (·.1) = false) :
    PE X (.Call (.Name "isinstance" p) [e, e2] [] pos) (tD X.K W (gIsi T z)) := by
  refine PE.imp (pe_callB call_isi hg hm (by decide +kernel) (pa_cons ha (pa_cons hx pa_nil hs2) hs) (by decide) (by decide) hs hpl) fun σ H Q ⟨t, st, r, q⟩ => ?_
  refine tG_at r q fun t1 st1 H1 d v E1 R1 p1 q1 => ?_
  have q2 := res_opt R1 (Res.step0 E1 q1)
  unfold isiD at q2
  cases e : tyD d with
  | none => rw [e] at q2; exact q2.elim
  | some s =>
    rw [e] at q2
    exact ⟨v, .ty T, _, _, _, rfl, .ty T, ty_vw p1 e, kit_bt hT e, RO.bl q2⟩

/-! ### repr -/
def shownD (d : D) : Option Str := match toP d with
  | some p => if p.showable = true ∧ p.depth < 60 ∧ p.shown.length ≤ sizeLine then some p.shown else none
  | none => none
def reprD : List D → Option RV
  | [d] => (shownD d).map fun x => .sh (.str x)
  | _ => none
end
mutual
theorem toP_nodict : ∀ {d : D} {p : PyData}, toP d = some p → p.hasDict = false
  | .non, p, e => by cases e; rfl
  | .bl _, p, e => by cases e; rfl
  | .int _, p, e => by cases e; rfl
  | .str _, p, e => by cases e; rfl
  | .tup xs, p, e => by
    rw [toP] at e
    obtain ⟨ps, e1, rfl⟩ := Option.map_eq_some_iff.mp e
    rw [PyData.hasDict]; exact toPs_nodict e1
  | .lst xs, p, e => by
    rw [toP] at e
    obtain ⟨ps, e1, rfl⟩ := Option.map_eq_some_iff.mp e
    rw [PyData.hasDict]; exact toPs_nodict e1
  | .dct _, _, e => by rw [toP] at e <;> first | cases e | exact nofun
  | .ins _ _, _, e => by rw [toP] at e <;> first | cases e | exact nofun
  | .slt _ _, _, e => by rw [toP] at e <;> first | cases e | exact nofun
  | .nul, _, e => by rw [toP] at e <;> first | cases e | exact nofun
  | .exc _ _, _, e => by rw [toP] at e <;> first | cases e | exact nofun
  | .cell _, _, e => by rw [toP] at e <;> first | cases e | exact nofun
  | .scr _, _, e => by rw [toP] at e <;> first | cases e | exact nofun
theorem toPs_nodict : ∀ {ds : List D} {ps : List PyData}, toPs ds = some ps → PyData.hasDictAll ps = false
  | [], ps, e => by cases e; rfl
  | d :: ds, ps, e => by
    rw [toPs] at e
    cases e1 : toP d with
    | none => rw [e1] at e; cases e
    | some p =>
      cases e2 : toPs ds with
      | none => rw [e1, e2] at e; cases e
      | some qs =>
        rw [e1, e2] at e
        cases e
        rw [PyData.hasDictAll, toP_nodict e1, toPs_nodict e2]
        rfl
end
section
variable {X : Cx}
theorem cr_repr (gd : X.A.guards = some []) (hu : X.A.units + 64 < cLine) : CallR X (.builtin "repr") (rC X.K reprD) := by
  intro pins s σ H vs us Q I r ⟨t, ds, tg, m, h⟩
  unfold reprD shownD at h
  split at h
  · rename_i d
    obtain ⟨v, rfl, dv⟩ := vws1 m
    obtain ⟨u, rfl, rx⟩ := vals1 r
    split at h
    · rename_i p e
      split at h
      · rename_i hc
        have h := RO.str h
        have dp := dp_vw dv e
        obtain ⟨as, rd⟩ := Dp.reads I p v u dp rx
        have fin : ∀ (h' : Heap) (tk tk' : Nat), (∀ b o, s.heap.get? b = some o → h'.get? b = some o) → EP X pins σ Q (.str p.shown tk) { s with heap := h', toks := tk' } := fun h' tk tk' k => ⟨.str p.shown, H, I.kept k, ⟨_, rfl⟩, h⟩
        cases rd with
        | none => exact PySem.P.repr_of_none (fin s.heap _ _ fun _ _ e => e)
        | bool b => exact PySem.P.repr_of_bool (fin s.heap _ _ fun _ _ e => e)
        | int i tk => exact PySem.P.repr_of_int (by simpa [PyData.showable] using hc.1) (fin s.heap _ _ fun _ _ e => e)
        | str x tk => exact PySem.P.repr_of_str (fin s.heap _ _ fun _ _ e => e) (by simpa [PyData.shown] using hc.2.2)
        | list h1 h2 h3 h4 => exact repr_of_reads' (.list h1 h2 h3 h4) hc.1 (PyData.noDict_hsm (toP_nodict e)) gd (by have := hc.2.1; omega) (fun _ _ e => e) (fun h' tk tk' k => fin h' tk tk' k) hc.2.2
        | tuple h1 h2 h3 h4 => exact repr_of_reads' (.tuple h1 h2 h3 h4) hc.1 (PyData.noDict_hsm (toP_nodict e)) gd (by have := hc.2.1; omega) (fun _ _ e => e) (fun h' tk tk' k => fin h' tk tk' k) hc.2.2
        | dict h1 h2 h3 h4 h5 => exact absurd (toP_nodict e) (by simp [PyData.hasDict])
      · exact h.elim
    · exact h.elim
  · exact h.elim
end
end Dn
end

section
set_option maxHeartbeats 4000000
-- Dn14
/-! Dn14: an __init__ of the text that says super().__init__(value), then self.value = value -/
namespace Dn
open PySem PySem.Spec PySem.W
/-- what the written part says of a class C that has the __init__ of D -/
structure XCls (K : PySem.W.Frag) (C D fI : Addr) : Prop where
  T : L2.OexC K C
  sup : ks_superIn K C D "__init__" = some (some (.builtin "ValueError.__init__"))
  clsD : (clsIn K D).isSome = true
  sub : mroIn K C (.ref D) = some true
  isVE : subIn K (.ref C) (.type "ValueError") = some true
  noV : findIn K (.ref C) "value" = some none
  ini : findIn K (.ref C) "__init__" = some (some (.ref fI))
/-- .. and of that __init__ -/
structure XIni (P : Program) (K : PySem.W.Frag) (D fI : Addr) (body : List Stmt) : Prop where
  fn : ∃ oc od osl name qual params scope dV kV doc pm an cda ct cc, K.lookup fI = some ⟨oc, od, .func (ksFn name qual params body scope dV kV doc pm an (.ref cda) ct cc), osl⟩ ∧ codeIn K (.ref cda) qual = true ∧
    (∀ e v : Value, ∀ s, PySem.BindsTo s (ksFn name qual params body scope dV kV doc pm an (.ref cda) ct cc) ⟨[e, v], []⟩ [("self", e), ("value", v)]) ∧ (∀ x ∈ scope.names, x.2 ≠ .cell) ∧ scope.isCoroutine = false ∧ scope.isGenerator = false ∧ scope.kind = .function ∧
    scope.names.lookup ("self" : Str) = some .local ∧ scope.names.lookup ("value" : Str) = some .local ∧ scope.names.lookup ("super" : Str) = some .globalImplicit ∧ scope.names.lookup ("__class__" : Str) = some .free ∧
    (∃ ar, (params.posonlyargs ++ params.args).head? = some ar ∧ ar.arg = ("self" : Str)) ∧ (∃ ccl cdd vs ccs file tf, K.lookup cda = some ⟨ccl, cdd, .fields vs, ccs⟩ ∧ vs[2]? = some (.str file tf) ∧ ((P.main.file : Str) == file) = true) ∧
    ∃ cl cld csl, K.lookup cc = some ⟨cl, cld, .cell (some (.ref D)), csl⟩
  tyF : typeIn K (.ref fI) = some (.type "function")
  opq : nsIn K cStatics "thirdparty.any" = some none
  noS : nsIn K mainGlobals "super" = some none
  top : (P.main.scope.names.lookup ("super" : Str)).isSome = false
  bod : ∃ p0 p1 p2 p3 p4 p5 p6 p7 p8 p9, body = [.Expr (.Call (.Attribute (.Call (.Name "super" p0) [] [] p1) "__init__" p2) [.Name "value" p3] [] p4) p5, .Assign [.Attribute (.Name "self" p6) "value" p7] (.Name "value" p8) p9] ∧ ∃ pl : Sem Bool, ∀ env : Env,
    eval (.Call (.Attribute (.Call (.Name "super" p0) [] [] p1) "__init__" p2) [.Name "value" p3] [] p4) env = (do
      let ov ← attributeBase (.Call (.Name "super" p0) [] [] p1) "__init__" env (eval (.Call (.Name "super" p0) [] [] p1) env)
      standAt p2.atName
      let (f, first) ← holding [ov] (getMethod ov "__init__" pl)
      callWith p4 f first (backTo p4 (starEach [.Name "value" p3] env)) [])
section
variable {prog : Program} {w : World} {A : Around} {E : Value → Shared → Prop} {h : Heap} {g : Array GenState} {d : Drawn} {t : Nat} {os : OsState}
variable {nm q : Str} {C N : Addr} {bs bm : List Value} {hdct : Bool} {sn : List Str} {sub : List Value} {ab : Bool} {col : Option Bool} {dd : Option Addr} {k0 k1 k2 k3 k5 : Option Value}
/-- ValueError.__init__, bound, called: the args are laid anew -/
theorem call_mw {u e t0 : Addr} {rest : List Value} {Q : Value → Shared → Prop}
    (hC : h.get? C = some (excClassObj nm q C N bs bm hdct sn sub ab col dd k0 k1 k2 k3 k5 "ValueError.__new__")) (he : h.get? e = some (HandSPX.excO C t0)) (hu : h.get? u = some (kxs_mw "ValueError.__init__" e)) (hz : rest.length ≤ sizeLine)
    (hq : ∀ h' t1, (∀ b o, b ≠ e → h.get? b = some o → h'.get? b = some o) → h'.get? e = some (HandSPX.excO C t1) → Q .none ⟨h', g, d, t, os⟩) : wpAny (model prog w) A (call (.ref u) rest) Q E ⟨h, g, d, t, os⟩ := by
  refine wpAny_call (codeAny_of_tree (show wpAny _ A.in1 (callAny (.ref u) ⟨rest, []⟩) _ _ _ from ?_))
  simp only [callAny]
  refine wpAny_bind (wpAny_load hu ?_)
  have hm : (Value.type "method-wrapper" == Value.type "method" || Value.type "method-wrapper" == Value.type "builtin_function_or_method" || Value.type "method-wrapper" == Value.type "method-wrapper") = true := by decide
  simp only [kxs_mw, hm, if_true]
  refine KFB.if_so (by decide) (wpAny_bind (check_bound_init F.excBase_ValueError.toExcCallFacts hC he rfl (wpAny_bind (wpAny_pure (wpAny_pure ⟨plainId_quiet F.excBase_ValueError.init.plain _, codeAny_builtin F.excBase_ValueError.initEntry ?_⟩)))))
  exact exc_init_tree (cls := .ref C) (t0 := t0) (dv := none) (c2 := .none) (c3 := .none) (b4 := .bool false) he hz fun h' k e' t' => hq h' _ k e'
end
section
variable {prog : Program} {w : World} {A : Around} {K : PySem.W.Frag} {mg mb : Str → Option Value}
/-- the __init__ runs: the exception has its dict -/
theorem init_run {C D fI e t0 : Addr} {v : Value} {body : List Stmt} {hp : Heap} {g : Array GenState} {d : Drawn} {t : Nat} {os : OsState} {R : Result → Shared → Prop} (I : XIni prog K D fI body) (c : XCls K C D fI) (X : K.In hp) (room : A.depth < recursionLimit) (lim : hp.NoLimit)
    (gl : hp.Ns mainGlobals mg) (bl : hp.Ns builtinsNs mb) (hbb : ∀ x : Str, x ≠ "__name__" → mb x = bootBuiltins x) (he : hp.get? e = some (HandSPX.excO C t0)) (ne : K.lookup e = none)
    (hR : ∀ h' t1 dx tk', (∀ b o, b ≠ e → hp.get? b = some o → h'.get? b = some o) → hp.objs.size ≤ dx → dx ≠ e → h'.get? e = some { cls := .ref C, dict := some dx, data := .fields #[.ref t1, .none, .none, .none, .bool false, .none] } →
      h'.Ns1 dx (fun y => if y = ("value" : Str) then some v else none) → R (.ok (.ret .none)) ⟨h', g, d, tk', os⟩) :
    codeAny (model prog w) A (.call (.ref fI) ⟨[.ref e, v], []⟩) R ⟨hp, g, d, t, os⟩ := by
  obtain ⟨oc, od, osl, name, qual, params, scope, dV, kV, doc, pm, an, cda, ct, cc, lk, hcd, hbind, hcell, hco, hgen, hk, kSelf, kVal, kSup, kCls, ⟨ar, har, ears⟩, ⟨ccl, cdd, vs, ccs, file, tf, lcd, hvs, hfile⟩, ⟨cl, cld, csl, lcc⟩⟩ := I.fn
  obtain ⟨p0, p1, p2, p3, p4, p5, p6, p7, p8, p9, eb, pl, hev⟩ := I.bod
  obtain ⟨nm, q, N, bs, bm, sn, sub, ab, col, dd, k0, k1, k2, k3, k5, hC, hbm⟩ := c.T.cls
  have hcl : clsIn K C = some { name := nm, bases := bs, mro := .ref C :: bm, ns := N, qualname := q, hasDict := true, slotNames := sn, subclasses := sub, abstract := ab, collection := col, hasDel := false } := by unfold clsIn; rw [hC] <;> rfl
  obtain ⟨cdD, hcD⟩ := Option.isSome_iff_exists.mp c.clsD
  subst eb
  refine ks_codeAny_call_defAt room (X _ _ lk) rfl lim (codeRec_of X hcd) rfl (hbind (.ref e) v _) hcell (fun x hx => ?_) (fun h1 hns k1' => ?_) hco hgen hk
  · rcases List.mem_cons.mp hx with e1 | hx
    · rw [e1]; exact kSelf
    · rcases List.mem_cons.mp hx with e1 | hx
      · rw [e1]; exact kVal
      · cases hx
  have X1 : K.In h1 := X.keeps k1'
  have he1 := k1' _ _ he
  have vSelf : ([("self", Value.ref e), ("value", v)] : List (Str × Value)).reverse.lookup ("self" : Str) = some (.ref e) := rfl
  have vVal : ([("self", Value.ref e), ("value", v)] : List (Str × Value)).reverse.lookup ("value" : Str) = some v := rfl
  obtain ⟨oD, hD1, hD2⟩ : ∃ oD, h1.get? D = some oD ∧ oD.data = .cls cdD := by
    unfold clsIn at hcD
    split at hcD
    · rename_i c' d' cd' sl ho
      cases hcD
      exact ⟨_, X1 _ _ ho, rfl⟩
    · cases hcD
  refine ks_wpAt_execs_cons (ks_wpAt_Expr_any (hi := by unfold interactive; simp [callEnv, newEnv, hk]) (ks_wpAt_MethodCall (pl := pl) (he := hev _) (ks_wpAt_super_base (attr := "__init__") kSup kCls rfl rfl (X1 _ _ lk) rfl har rfl (X1 _ _ lcd) rfl hvs hfile I.top ?_)))
  refine ks_loadName_global hk kSup (Calls.loadGlobal_builtin (gl.keeps k1') (mg_none_of X gl I.noS) (bl.keeps k1') ((hbb _ (by decide)).trans (by decide +kernel)) ⟨rfl, ?_⟩)
  refine wpAny_loadName_free hk kCls rfl ⟨_, X1 _ _ lcc, rfl⟩ ?_
  rw [ears]
  refine wpAny_loadName_local hk kSelf hns vSelf ?_
  refine ks_wpAny_isType_cls hD1 hD2 ⟨rfl, ?_⟩
  refine ks_wpAny_call_super hD1 hD2 he1 rfl (fun c' z => by cases z) (looks_mroIn X1 c.sub) (fun h2 eso k2 => ?_)
  have X2 : K.In h2 := X1.keeps k2
  have he2 := k2 _ _ he1
  have ns2 : h2.Ns hp.objs.size fun x => ([("self", Value.ref e), ("value", v)] : List (Str × Value)).reverse.lookup x := hns.keeps k2
  have ie2 : InstAt h2 e (HandSPX.excO C t0) C none := ⟨he2, rfl, rfl, trivial⟩
  have hsup : alongIn K "__init__" (((Value.ref C :: bm).dropWhile (· != .ref D)).drop 1) = some (some (.builtin "ValueError.__init__")) := by
    have z := c.sup
    unfold ks_superIn at z
    rw [hcl] at z
    exact z
  refine kxs_getMethod kxs_ValueError eso (looks_opaque X2 I.opq) (l₀ := .ref C :: bm) ?_ rfl X2 hsup (ie2.type.andThen (looks_subIn X2 c.isVE)) (ks_ne X2 ie2 hcl) (by decide) ?_
  · exact fun A' Q' E' s' k' q' => wpAny_bind ((looks_clsIn X2 hcl) A' _ E' s' k' (wpAny_pure q'))
  have mw : (h2.push (kxs_mw "ValueError.__init__" e)).get? h2.objs.size = some (kxs_mw "ValueError.__init__" e) := Heap.get?_push_at rfl rfl
  have k3 : ∀ b o, h2.get? b = some o → (h2.push (kxs_mw "ValueError.__init__" e)).get? b = some o := fun b o z => Heap.get?_push_of_some _ z
  refine kxs_callWith (i := "ValueError.__init__") (x := e) rfl (Calls.evalArgs_plain (Calls.spliced_cons (wpAny_Name (wpAny_loadName_local hk kVal (ns2.keeps k3) vVal (Calls.spliced_nil ⟨mw, ?_⟩)) (by decide))))
  refine call_mw (X2.keeps k3 _ _ hC) (k3 _ _ he2) mw (show 1 ≤ sizeLine by decide) fun h4 t1 k4 he4 => ?_
  have neL : hp.objs.size ≠ e := Nat.ne_of_gt (Heap.lt_size he)
  have old : ∀ b o, b ≠ e → hp.get? b = some o → h4.get? b = some o := fun b o hb z => k4 b o hb (k3 _ _ (k2 _ _ (k1' _ _ z)))
  have ns4 : h4.Ns hp.objs.size fun x => ([("self", Value.ref e), ("value", v)] : List (Str × Value)).reverse.lookup x := by
    obtain ⟨o, es, ep, ho, r⟩ := ns2.keeps k3
    exact ⟨o, es, ep, k4 _ _ neL ho, r⟩
  have X4 : K.In h4 := fun b o z => by
    have zb : b ≠ e := fun z1 => by rw [z1, ne] at z; cases z
    exact old b o zb (X _ _ z)
  refine ks_wpAt_execs_cons (ks_wpAt_Assign_Attr (wpAt_of_wpAny (wpAny_Name (wpAny_loadName_local hk kVal ns4 vVal (wpAny_Name (wpAny_loadName_local hk kSelf ns4 vSelf ?_) (by decide))) (by decide))))
  refine set_plain X4 (ox := HandSPX.excO C t1) (od := none) ⟨he4, rfl, rfl, trivial⟩ c.T.sa ?_
  refine HandSPX.exc_osa X4 he4 hcl (show HandSPX.refsVE (.ref C :: bm) = true from hbm) rfl c.noV fun h5 tk' dx k5 dn dne hx hn => ?_
  refine wpAt_of_wpAny (wpAny_execs_nil ?_)
  exact hR h5 t1 dx tk' (fun b o hb z => k5 b o hb (old b o hb z)) (by
    obtain ⟨_, _, _, ho, _⟩ := ns4
    exact Nat.le_trans (Nat.le_of_lt (Heap.lt_size ho)) dn) dne hx hn
end
end Dn
end

section
set_option maxHeartbeats 4000000
-- Dn15
/-! Dn15: an exception of the text's own classes is made and raised -/
namespace Dn
open PySem PySem.Spec L2
def tMkX (C : Addr) (ta : TA) : L2.St → Hp → XK → Prop := fun σ H Q => ta σ H fun vs H1 => ∃ v, vs = [v] ∧ ∀ d, H1 d = none → Q (.ref C) (some d) (upd H1 d (.xd [("value", v)]))
/-- C(v) where nothing may be left behind but the exception -/
theorem make_bad {X : Cx} {pins : List (Addr × Obj)} {σ : L2.St} {H : Hp} {s : Shared} {C D fI : Addr} {body : List Stmt} {k : Nat} {v : V} {u : Value} {Q : Value → Shared → Prop} (ini : XIni X.prog X.K D fI body) (c : XCls X.K C D fI) (room : Room (k + 1) X.A) (I : Inv X pins σ H s) (rv : RelV v u)
    (hQ : ∀ (a d : Addr) (h' G : Heap) (t1 : Addr) (tk : Nat), H d = none → Inv X pins σ (upd H d (.xd [("value", v)])) ⟨G, s.gens, s.drawn, tk, s.os⟩ → (∀ b o, G.get? b = some o → h'.get? b = some o) → (∀ b o, h'.get? b = some o → b ≠ a → G.get? b = some o) → G.get? a = none → s.heap.objs.size ≤ a → a ≠ d →
      h'.get? a = some { cls := .ref C, dict := some d, data := .fields #[.ref t1, .none, .none, .none, .bool false, .none] } → Q (.ref a) ⟨h', s.gens, s.drawn, tk, s.os⟩) :
    wpAny (model X.prog X.w) X.A (call (.ref C) [u]) Q X.xe s := by
  obtain ⟨nm, q, N, bs, bm, sn, sub, ab, col, dd, k0, k1, k2, k3, k5, hC, hbm⟩ := c.T.cls
  obtain ⟨mb, hb1, hb2⟩ := I.mod.blt
  obtain ⟨hp, g, dr, tk, os⟩ := s
  have hn : X.K.lookup (hp.objs.size + 1) = none := by
    cases z : X.K.lookup (hp.objs.size + 1) with
    | none => rfl
    | some o => exact absurd (Heap.lt_size (I.kIn _ _ z)) (Nat.not_lt_of_le (Nat.le_succ _))
  have kk : ∀ b o, hp.get? b = some o → ((hp.push (PySem.W.kdv_tup [u])).push (PySem.HandSPX.excO C hp.objs.size)).get? b = some o := fun b o e => Heap.get?_push_of_some _ (Heap.get?_push_of_some _ e)
  have self : ((hp.push (PySem.W.kdv_tup [u])).push (PySem.HandSPX.excO C hp.objs.size)).get? (hp.objs.size + 1) = some (PySem.HandSPX.excO C hp.objs.size) := by heap_get
  have bk : ∀ b o, X.base.get? b = some o → ((hp.push (PySem.W.kdv_tup [u])).push (PySem.HandSPX.excO C hp.objs.size)).get? b = some o := fun b o e => kk _ _ (I.bk b o e)
  refine wpAny_call (PySem.HandSPX.call_own F.excBase_ValueError (fun Y => PySem.HandSPX.refsVE_contains Y bm hbm) (I.kIn _ _ hC) (PySem.W.looks_findIn I.kIn c.ini) (fun self => PySem.W.bind_fn I.kIn self ini.tyF) (show 1 ≤ sizeLine by decide) ?_)
  refine init_run (mg := X.mg) (mb := mb) ini c (I.kIn.keeps kk) (room.make C [u] []).depth (I.mod.nolimit.keeps bk) (I.mod.glob.keeps bk) (hb1.keeps bk) hb2 self hn fun h' t1 dx tk' k4 dn dne hx hns => ?_
  refine ⟨rfl, ?_⟩
  obtain ⟨G, g1, g2⟩ := restrict h' fun b => decide (b ≠ hp.objs.size + 1)
  have gk : ∀ b, b ≠ hp.objs.size + 1 → G.get? b = h'.get? b := fun b hb => g1 b (decide_eq_true hb)
  have ga : G.get? (hp.objs.size + 1) = none := g2 _ (by simp)
  have sub' : ∀ b o, G.get? b = some o → h'.get? b = some o := fun b o z => by
    by_cases hb : b = hp.objs.size + 1
    · rw [hb, ga] at z; cases z
    · rw [← gk b hb]; exact z
  have sz : hp.objs.size ≤ dx := by
    have z : hp.objs.size + 1 < ((hp.push (PySem.W.kdv_tup [u])).push (PySem.HandSPX.excO C hp.objs.size)).objs.size := Heap.lt_size self
    omega
  have old : ∀ b o, hp.get? b = some o → G.get? b = some o := fun b o z => by
    have hb : b ≠ hp.objs.size + 1 := Nat.ne_of_lt (Nat.lt_succ_of_lt (Heap.lt_size z))
    rw [gk b hb]
    exact k4 b o hb (kk _ _ z)
  have J : Inv X pins σ (upd H dx (.xd [("value", v)])) ⟨G, g, dr, tk', os⟩ := I.laid (t' := tk') old sz ⟨_, hns.at fun o z => (gk dx dne).trans z, fun f => by
    have key := relO_put (f := ("value" : Str)) (fs := []) (mA := fun _ => none) rv (fun g => True.intro) f
    exact key⟩
  exact hQ _ dx h' G t1 tk' (I.hok.fresh sz) J sub' (fun b o z hb => (gk b hb).trans z) ga (Nat.le_succ _) (Ne.symm dne) hx
theorem pmk_bad {X : Cx} {x : Str} {C D fI : Addr} {body : List Stmt} {k : Nat} {e : Expr} {ta : TA} {p pos : Pos} (ini : XIni X.prog X.K D fI body) (c : XCls X.K C D fI) (room : Room (k + 1) X.A) (hg : Gl X x) (hm : X.mg x = some (.ref C)) (ha : PA X [e] ta)
    (hdb : (x == ("__debug__" : Str)) = false) (he : starEach [e] X.env = (false, eval e X.env) :: starEach [] X.env) (hpl : (backTo pos (starEach [] X.env)).any (·.1) = false) : PMk X (.Call (.Name x p) [e] [] pos) (tMkX C ta) := by
  intro pins s σ H Q I h
  refine wpAny_Call_Name_kw (ld_glob I hg hm ?_ hdb)
  refine PySem.W.callWith_K (h₀ := X.base) I.ok.mod.kin c.T.kC (thn (ha.run pos pins s σ H _ I h) fun us s1 ⟨vs, H1, I1, r1, v, ev, q1⟩ => ⟨I1.kIn, ?_⟩) he hpl
  subst ev
  obtain ⟨u, rfl, rv⟩ := vals1 r1
  refine make_bad ini c room I1 rv fun a d h' G t1 tk hd J sub' _ ga sz ne hx => ?_
  refine ⟨a, _, _, ⟨G, s1.gens, s1.drawn, tk, s1.os⟩, _, .ref C, some d, rfl, J, sub', ga, hx, ⟨rfl, rfl⟩, rfl, rfl, ?_, rfl, I1.bare, raises_own c.T.exC c.T.tyC, q1 d hd⟩
  rw [upd_ne ne]
  exact I1.hok.fresh sz
def gRaise (c : Str) (z : DZ) : DS := fun st => (z st).bindS fun d st => .ex c d st
theorem ds_raise {X : Cx} {W : WX} {x cn : Str} {D fI : Addr} {body : List Stmt} {k : Nat} {e : Expr} {z : DZ} {p pos pos2 : Pos} (ini : XIni X.prog X.K D fI body) (c : XCls X.K (He.ga X.K cn) D fI) (room : Room (k + 1) X.A) (calm : X.calm = true) (tk : Takes X W) (hg : Gl X x) (hm : X.mg x = some (.ref (He.ga X.K cn)))
    (he : PE X e (tZ X.K W z)) (hdb : (x == ("__debug__" : Str)) = false) (hst : starEach [e] X.env = (false, eval e X.env) :: starEach [] X.env) (hpl : (backTo pos (starEach [] X.env)).any (·.1) = false) :
    PS X (.Raise (some (.Call (.Name x p) [e] [] pos)) none pos2) (tS X.K W (gRaise cn z)) := by
  refine PS.imp (ps_raise calm tk (pmk_bad ini c room hg hm (pa_cons he pa_nil hst) hdb hst hpl)) fun D' σ H ⟨t, st, r, q⟩ => ?_
  refine tG_atS r q fun t1 st1 H1 d v E1 R1 p1 q1 => ?_
  refine ⟨v, rfl, fun a ha => ?_⟩
  obtain ⟨E2, R2, e2⟩ := R1.alloc (o := .xd [("value", v)]) ha
  exact q1 _ σ _ a (E1.trans E2).w R2 ⟨v, (of_fz e2).2, setT_same, E2.dat p1⟩
end Dn
end

section
set_option maxHeartbeats 4000000
-- Dn16
/-! Dn16: try .. except C as n: return (const, n.value) -/
namespace Dn
open PySem PySem.Spec L2
/-- which of the raised classes a clause takes -/
abbrev Mt := Str → Option Bool
def gTryRet (mt : Mt) (cn : Str) (i : Nat) (d1 : D) (b : DS) : DS := fun st => match b st with
  | .ex c x st' => (match mt c with
    | some true => if c = cn ∧ i < st'.env.length then .rt (.sh (.tup [d1, x])) st' else .no
    | some false => .ex c x st'
    | none => .no)
  | o => o
section
variable {X : Cx} {W : WX} {x n cn : Str} {i : Nat} {body : List Stmt} {np pos pos' p1 p2 p3 p4 : Pos} {gb : DS} {mt : Mt} {e1 : Expr} {v1 : V} {d1 : D} {k1 : Nat}
theorem ds_try_ret (hs : X.stack = X.env :: X.outer) (hf : X.env.frame = some X.env.locals) (hN : X.N.Nodup) (hi : X.N[i]? = some n) (hln : X.env.kindOf n = some .local) (hc : Names X x (.ref (He.ga X.K cn))) (tk : Takes X W)
    (hmt : ∀ c b, mt c = some b → PySem.W.exmOne X.K (.ref (He.ga X.K c)) (.ref (He.ga X.K cn)) = some b)
    (hb : ∀ (W : WX) (pn : List (Addr × Obj)) (xe : Value → Shared → Prop), Takes (X.tr pn xe) W → PassesOwn (model X.prog X.w) X.A X.env xe → PSs (X.tr pn xe) body (tS X.K W gb))
    (T : XfC X.K (He.ga X.K cn)) (hno : PySem.W.findIn X.K (.ref (He.ga X.K cn)) "value" = some none) (hd1 : ∀ F r, Dat X.K F r d1 v1)
    (he1 : ∀ (a : Addr) (oe : Obj) (pn : List (Addr × Obj)), PE (X.suite a ((a, oe) :: pn)) e1 (tC v1)) (hv : Vis X.env.scope n) (hd : (n == ("__debug__" : Str)) = false) (hcd : (n == ("__classdict__" : Str)) = false)
    (hst : ∀ env, starEach [e1, .Attribute (.Name n p1) "value" p2] env = (false, eval e1 env) :: starEach [.Attribute (.Name n p1) "value" p2] env) (hst2 : ∀ env, starEach [.Attribute (.Name n p1) "value" p2] env = (false, eval (.Attribute (.Name n p1) "value" p2) env) :: starEach [] env)
    (hab : ∀ env, attributeBase (.Name n p1) "value" env (eval (.Name n p1) env) = eval (.Name n p1) env) :
    PS X (.Try body [.ExceptHandler (some (.Name x np)) (some n) [.Return (some (.Tuple [e1, .Attribute (.Name n p1) "value" p2] k1 p3)) p4] pos'] [] [] pos) (tS X.K W (gTryRet mt cn i d1 gb)) := by
  refine PS.imp (ps_try_as (tb := fun W => tS X.K W gb) (ts := fun a cls d => tRet (tTup (tCons (tC v1) (tCons (tXf a cls d (He.ga X.K cn) "value" (tVar i)) tNil)))) hs hf hN hi hln hc tk hb fun a oe cls d pn hz hvs => ?_) fun D' σ H ⟨t, st, r, q⟩ => ?_
  · have hv' : Vis (X.suite a ((a, oe) :: pn)).env.scope n := hv
    exact pss_one (ps_ret (pe_tup (pa_cons (he1 a oe pn) (pa_cons (pe_xf T hno hz hvs (pe_var (X := X.suite a ((a, oe) :: pn)) hi hv' hd hcd) (hab _)) pa_nil (hst2 _)) (hst _))))
  · refine ⟨t, st, r, ?_⟩
    unfold gTryRet at q
    cases eb : gb st with
    | nx _ => rw [eb] at q; exact q
    | rt _ _ => rw [eb] at q; exact q
    | bk _ => rw [eb] at q; exact q
    | ct _ => rw [eb] at q; exact q
    | no => rw [eb] at q; exact q
    | ex c y st' =>
      rw [eb] at q
      dsimp only at q
      intro t1 σ1 H1 d E1 R1 ⟨u, hd1', hdt, du⟩
      cases em : mt c with
      | none => rw [em] at q; exact q.elim
      | some b =>
        rw [em] at q
        refine ⟨b, hmt c b em, fun hbt a ha => ?_, fun hbf => ?_⟩
        · subst hbt
          dsimp only at q
          split at q
          · rename_i hcn
            have hsl : (σ1.set i (some (V.ref a)))[i]? = some (some (.ref a)) := List.getElem?_set_self (by rw [← R1.len]; exact hcn.2)
            refine ⟨.ref a, hsl, rfl, by rw [hcn.1], d, [("value", u)], u, rfl, hd1', by rfl, ?_⟩
            refine ⟨show 2 ≤ sizeLine by decide, fun p hp => ?_⟩
            obtain ⟨E2, R2, e2⟩ := R1.alloc (o := .tup [v1, u]) hp
            refine q _ σ1 _ (.ref p) (E1.trans E2.w) R2 ?_
            show Dat _ _ _ _ _
            rw [Dat]
            exact ⟨p, _, rfl, .inl (.inl e2), Dats.cons (hd1 _ _) (Dats.cons (E2.dat du) Dats.nil)⟩
          · exact q.elim
        · subst hbf
          exact q t1 σ1 H1 d E1 R1 ⟨u, hd1', hdt, du⟩
end
end Dn
end

section
set_option maxHeartbeats 4000000
-- Dn17
/-! Dn17: try .. except C as n: m = n, the exception kept as a value -/
namespace Dn
open PySem PySem.Spec L2
theorem exH_ok {P : Program} {w : World} {H : Hp} {h : Heap} {a d : Addr} {cls : Value} {oe : Obj} {vs : Array Value} (e : h.get? a = some oe) (c : oe.cls = cls) (dd : oe.dict = some d) (f : oe.data = .fields vs) : ObjOk P w H h a (ExH cls d a) :=
  ⟨⟨oe, vs, e, c, dd, f⟩, ⟨oe, e⟩, fun _ _ ⟨o, v, q, r⟩ k => ⟨o, v, k o q, r⟩⟩
section
variable {X : Cx} {pins : List (Addr × Obj)} {σ : L2.St} {H : Hp} {s : Shared}
/-- an object of the heap that is no one's comes under the abstract heap -/
theorem Inv.track {a : Addr} {o : HO} (I : Inv X pins σ H s) (na : H a = none) (n0 : X.s_0.heap.get? a = none) (nl : a ≠ X.env.locals) (nc : ∀ x c, X.env.cells.lookup x = some c → c ≠ a) (np : ∀ p ∈ X.pn ++ pins, p.1 ≠ a) (new : ObjOk X.prog X.w (upd H a o) s.heap a o) : Inv X pins σ (upd H a o) s := by
  have ne : ∀ {b u}, H b = some u → b ≠ a := fun e => ne_of_none e na
  refine ⟨I.ok, I.os, I.bare, ⟨I.base.keep, I.base.slot, fun b o' e n hx => ?_, I.base.there, fun b xs e => ?_, fun b o' u e => ?_, fun b ps e => ?_⟩, I.loc, I.cell, ?_, fun x c e => ?_, fun p hp => ?_, fun b u e => ?_, I.len⟩
  · rw [upd_ne (fun z => by rw [z, n0] at e; cases e)]; exact I.base.free b o' e n hx
  · have q := I.base.tups b xs e
    rw [upd_ne (ne q)]; exact q
  · have q := I.base.frzs b o' u e
    rw [upd_ne (ne q)]; exact q
  · obtain ⟨m, q⟩ := I.base.tbls b ps e
    exact ⟨m, by rw [upd_ne (ne q)]; exact q⟩
  · rw [upd_ne (Ne.symm nl)]; exact I.free
  · rw [upd_ne (nc x c e)]; exact I.freeC x c e
  · obtain ⟨q1, q2, q3⟩ := I.pin p hp
    exact ⟨q1, by rw [upd_ne (np p hp)]; exact q2, q3⟩
  · by_cases hb : b = a
    · subst hb
      rw [upd_same] at e
      cases e
      exact new
    · rw [upd_ne hb] at e
      exact (I.hok b u e).stay (fun c v _ q => q) (fun c q => by rw [upd_ne (ne q)]; exact q) fun c xs q => by rw [upd_ne (ne q)]; exact q
end
/-- the wish of a clause that keeps the exception by the name j -/
def wHold (K : PySem.W.Frag) (c : Value) (i j : Nat) (Wout : WX) (D : Ends) : WX := fun cls d σ H => ∃ b, PySem.W.exmOne K cls c = some b ∧
  (b = true → ∃ dd, d = some dd ∧ ∀ a, H a = none → D.nx (((σ.set i (some (.ref a))).set j (some (.ref a))).set i none) (upd H a (ExH cls dd a))) ∧ (b = false → Wout cls d σ H)
section
variable {X : Cx} {x n y : Str} {c : Value} {i j : Nat} {body : List Stmt} {np pos pos' py p1 p2 : Pos} {tb : WX → TS} {Wout : WX}
theorem ps_try_hold (hs : X.stack = X.env :: X.outer) (hf : X.env.frame = some X.env.locals) (hex : X.ex = []) (hN : X.N.Nodup) (hi : X.N[i]? = some n) (hj : X.N[j]? = some y) (hln : X.env.kindOf n = some .local) (hly : X.env.scope.names.lookup y = some .local) (hc : Names X x c) (tk : Takes X Wout)
    (hb : ∀ (W : WX) (pn : List (Addr × Obj)) (xe : Value → Shared → Prop), Takes (X.tr pn xe) W → PassesOwn (model X.prog X.w) X.A X.env xe → PSs (X.tr pn xe) body (tb W))
    (hd : (n == ("__debug__" : Str)) = false) (hcd : (n == ("__classdict__" : Str)) = false) (hsw : ∀ env, swapsWith (.Name n p1) (some (.Name y py)) p2.line env = pure false) :
    PS X (.Try body [.ExceptHandler (some (.Name x np)) (some n) [.Assign [.Name y py] (.Name n p1) p2] pos'] [] [] pos) (fun D σ H => tb (wHold X.K c i j Wout D) D σ H) := by
  refine ⟨fun pins s σ H D I start => ?_⟩
  have ok := I.ok
  have frames : X.A.frames = some (X.env :: X.outer) := by rw [ok.frames, hs]
  have local_ : Loc X.env.scope n := .inl hln
  let clause : ExceptHandler := .ExceptHandler (some (.Name x np)) (some n) [.Assign [.Name y py] (.Name n p1) p2] pos'
  let catch_ : Value → Shared → Prop := fun e s₁ => wpAny (model X.prog X.w) X.A (noteFrame e X.env) (fun _ s₂ => wpAny (model X.prog X.w) X.A (setFlight e none) (fun _ s₃ => wpAny (model X.prog X.w) X.A (handleBy e X.env [clause]) (SP X pins D) X.xe s₃) X.xe s₂) X.xe s₁
  have bodyRun := (hb (wHold X.K c i j Wout D) (X.pn ++ pins) catch_ (fun u s' xx => ?_) PassesOwn.looking).run [] s σ H D (I.toTry _) start
  · refine wpAny_Try_except (wpAny_mono bodyRun (fun f s1 hsp => ?_) fun e s1 he => he)
    match f, hsp with
    | .next, ⟨σ', H', J', q⟩ => exact wpAny_execs_nil ⟨σ', H', J'.ofTry ok, q⟩
    | .brk, ⟨σ', H', J', q⟩ => exact ⟨σ', H', J'.ofTry ok, q⟩
    | .cont, ⟨σ', H', J', q⟩ => exact ⟨σ', H', J'.ofTry ok, q⟩
    | .ret u, ⟨v, σ', H', J', r, q⟩ => exact ⟨v, σ', H', J'.ofTry ok, r, q⟩
  · obtain ⟨a, B, sI, pins', σ', H', cls, d, rfl, J0, nb, up, sky, na, os, ag, b, match_, hyes, hno⟩ := xx
    have J : Inv X pins σ' H' sI := J0.ofTry ok
    have sky2 : Sky B (X.env :: X.outer) a (Zc cls d) X.env.locals s'.heap := by rw [← hs]; exact sky
    show wpAny (model X.prog X.w) X.A (noteFrame (.ref a) X.env) _ _ _
    refine Sky.land Zc.steady frames hf sky2 fun h3 fl3 up3 => ?_
    have J3 : Inv X pins σ' H' { s' with heap := h3 } := J.landed nb fl3.1 (up.trans up3) os ag
    obtain ⟨oe3, vs3, he3, hz3, hd3⟩ := fl3.there
    have notFrame : a ∉ frs (X.env :: X.outer) := fun hm => by
      obtain ⟨_, o', e', hnf⟩ := fl3.2.2.1.mem hm
      rw [he3] at e'
      cases e'
      exact hnf _ hd3
    have nL : a ≠ X.env.locals := fun z => notFrame (List.mem_filterMap.mpr ⟨X.env, List.mem_cons_self, by rw [hf, z]⟩)
    have nF : a ∉ X.fs := fun hm => by
      obtain ⟨e, he, q⟩ := List.mem_filterMap.mp hm
      exact notFrame (List.mem_filterMap.mpr ⟨e, List.mem_cons_of_mem _ he, q⟩)
    have S3 := J3.suite he3 hd3 na nL nF
    refine wpAny_handleBy_cons (codeAny_handlers_test ?_) (by intro q; cases q)
    have typ : PySem.W.Looks (model X.prog X.w) h3 (typeOf (.ref a)) cls := fun A Q E s k q => wpAny_typeOf_ref (k _ _ he3) (by rw [hz3.1]; exact q)
    have isC := PySem.W.exm_one (M := model X.prog X.w) J3.kIn typ match_
    have named : ∀ {Q : Value → Shared → Prop} {E : Value → Shared → Prop}, Q c { s' with heap := h3 } → wpAny (model X.prog X.w) (X.A.mark (some (.ref a))) (eval (.Name x np) X.env) Q E { s' with heap := h3 } := fun {Q E} q => by
      obtain ⟨hg, hdbg, hm | ⟨hm, hv, hnn⟩⟩ := hc
      · exact ld_glob (X := X.suite a ((a, oe3) :: (X.pn ++ pins))) S3 hg hm q hdbg
      · exact ld_blt (X := X.suite a ((a, oe3) :: (X.pn ++ pins))) S3 hg hm hv q hnn hdbg
    refine named (isC.here ?_)
    -- a is new here
    have notI : sI.heap.get? a = none := by
      cases z : sI.heap.get? a with
      | none => rfl
      | some o =>
        have z2 := nb a o z (by rw [hs]; exact notFrame)
        rw [fl3.2.1] at z2
        cases z2
    have n0 : X.s_0.heap.get? a = none := by
      cases z : X.s_0.heap.get? a with
      | none => rfl
      | some o =>
        obtain ⟨o', z2⟩ := J.base.there a o z (by rw [hex]; exact List.not_mem_nil)
        rw [notI] at z2
        cases z2
    have np' : ∀ p ∈ X.pn ++ pins, p.1 ≠ a := fun p hp z => by
      have q := (J.pin p hp).1
      rw [z, notI] at q
      cases q
    cases b with
    | true =>
      obtain ⟨dd, ed, hyes⟩ := hyes rfl
      refine codeAny_handlers_suite_as (HandSPX.lands_againZ fl3 fun h4 fl4 up4 => ?_)
      have J4 : Inv X pins σ' H' { s' with heap := h4 } := J.landed nb fl4.1 ((up.trans up3).trans up4) os ag
      obtain ⟨oe4, vs4, he4, hz4, hd4⟩ := fl4.there
      have S4 := J4.suite he4 hd4 na nL nF
      refine store_ok (X := X.suite a ((a, oe4) :: (X.pn ++ pins))) (v := .ref a) S4 hN hi local_ rfl (fun s5 S5 => ?_) (.inr hln)
      have vis : Vis (X.suite a ((a, oe4) :: (X.pn ++ pins))).env.scope n := .inl hln
      by_cases hlt : i < σ'.length
      · have asg : PSs (X.suite a ((a, oe4) :: (X.pn ++ pins))) [.Assign [.Name y py] (.Name n p1) p2] (tAsg (tVar i) (gName j)) := pss_one (ps_set (X := X.suite a ((a, oe4) :: (X.pn ++ pins))) hN hj (.inl hly) (pe_var (X := X.suite a ((a, oe4) :: (X.pn ++ pins))) hi vis hd hcd) (hsw _) (.inr hly))
        have run := asg.run [] s5 (σ'.set i (some (V.ref a))) H' { nx := fun σ6 H6 => σ6 = (σ'.set i (some (V.ref a))).set j (some (V.ref a)) ∧ H6 = H', rt := fun _ _ => False, bk := fun _ _ => False, ct := fun _ _ => False } S5 ⟨.ref a, List.getElem?_set_self hlt, rfl, rfl⟩
        refine wpAny_mono run (fun f s6 hsp => ?_) (fun _ _ z => False.elim z)
        match f, hsp with
        | .brk, ⟨_, _, _, z⟩ => exact z.elim
        | .cont, ⟨_, _, _, z⟩ => exact z.elim
        | .ret _, ⟨_, _, _, _, _, z⟩ => exact z.elim
        | .next, ⟨σ6, H6, S6, e6, eH6⟩ =>
          subst e6 eH6
          have J6 : Inv (X.tr ((a, oe4) :: (X.pn ++ pins)) X.xe) [] ((σ'.set i (some (V.ref a))).set j (some (V.ref a))) H6 s6 := ⟨ok.toTry _ _, S6.os, S6.bare, S6.base, S6.loc, S6.cell, S6.free, S6.freeC, S6.pin, S6.hok, S6.len⟩
          refine gone_ok (X := X.tr ((a, oe4) :: (X.pn ++ pins)) X.xe) J6 hN hi hln fun s7 J7 => ?_
          obtain ⟨g7, n7, _⟩ := J7.pin (a, oe4) (List.mem_append_left _ List.mem_cons_self)
          have I7 : Inv X pins (((σ'.set i (some (V.ref a))).set j (some (V.ref a))).set i none) H6 s7 := ⟨ok, J7.os, J7.bare, J7.base, J7.loc, J7.cell, J7.free, J7.freeC, fun p hp => J7.pin p (List.mem_append_left _ (List.mem_cons_of_mem _ hp)), J7.hok, J7.len⟩
          have ncell : ∀ x c, X.env.cells.lookup x = some c → c ≠ a := fun x c e z => by
            obtain ⟨v, o, ho, hdt⟩ := I7.cell x c e
            rw [z] at ho
            have g7 : s7.heap.get? a = some oe4 := g7
            rw [g7] at ho
            cases ho
            rw [hd4] at hdt
            cases hdt
          have I8 := Inv.track (o := ExH cls dd a) I7 n7 n0 nL ncell np' (exH_ok g7 hz4.1 (hz4.2.trans ed) hd4)
          exact ⟨_, _, I8, hyes a na⟩
      · exact absurd (by have := J.len; have := (List.getElem?_eq_some_iff.mp hi).1; omega) hlt
    | false =>
      show wpAny _ X.A (handleBy (.ref a) X.env []) _ _ _
      refine wpAny_handleBy_nil ?_
      obtain ⟨k1, k2, k3, oe, vs, T, oT, ts', he, hz, hd', h1, hr⟩ := id fl3
      unfold PySem.passOn
      refine wpAny_bind (wpAny_field he hd' h1 ?_)
      rw [if_neg (show ¬ ((Value.ref T == Value.none) = true) by simp)]
      have onward : wpAny (model X.prog X.w) X.A (setFlight (.ref a) X.env.frame) (fun _ s4 => wpAny (model X.prog X.w) X.A (throw (.ref a) : Sem Flow) (SP X pins D) X.xe s4) X.xe { s' with heap := h3 } := by
        rw [hf]
        exact HandSPX.setFlight_upZ fl3 fun h4 hh4 up4 => wpAny_throw (tk _ _ ⟨a, B, sI, pins, σ', H', cls, d, rfl, J, nb, (up.trans up3).trans up4, .inr (.inr (by rw [hs]; exact hh4)), na, os, ag, hno rfl⟩)
      first
        | exact wpAny_bind (wpAny_pure (wpAny_bind onward))
        | exact wpAny_bind onward
end
end Dn
end

section
set_option maxHeartbeats 4000000
-- Dn18
/-! Dn18: exceptions kept, made, read as values -/
namespace Dn
open PySem PySem.Spec L2
theorem R.clear {K : PySem.W.Frag} {t : Tags} {H : Hp} {st : DSt} {σ : L2.St} (r : R K t st σ H) (i : Nat) : R K t { st with env := st.env.set i none } (σ.set i none) H where
  r0 := r.r0
  len := by simpa using r.len
  env := fun j y ej => by
    have ej : (st.env.set i none)[j]? = some (some y) := ej
    by_cases hj : i = j
    · subst hj
      by_cases hl : i < st.env.length
      · rw [List.getElem?_set_self hl] at ej; cases ej
      · rw [List.getElem?_eq_none (by simpa using hl)] at ej; cases ej
    · rw [List.getElem?_set_ne hj] at ej ⊢
      exact r.env j y ej
def gTryHold (mt : Mt) (cn : Str) (i j : Nat) (b : DS) : DS := fun st => match b st with
  | .ex c x st' => (match mt c with
    | some true => if c = cn then .nx { put j (.sh (.exc cn x)) st' with env := (put j (.sh (.exc cn x)) st').env.set i none } else .no
    | some false => .ex c x st'
    | none => .no)
  | o => o
section
variable {X : Cx} {W : WX} {x n y cn : Str} {i j : Nat} {body : List Stmt} {np pos pos' py p1 p2 : Pos} {gb : DS} {mt : Mt}
theorem ds_try_hold (hs : X.stack = X.env :: X.outer) (hf : X.env.frame = some X.env.locals) (hex : X.ex = []) (hN : X.N.Nodup) (hi : X.N[i]? = some n) (hj : X.N[j]? = some y) (hij : i ≠ j) (hln : X.env.kindOf n = some .local) (hly : X.env.scope.names.lookup y = some .local) (hc : Names X x (.ref (He.ga X.K cn))) (tk : Takes X W)
    (hmt : ∀ c b, mt c = some b → PySem.W.exmOne X.K (.ref (He.ga X.K c)) (.ref (He.ga X.K cn)) = some b)
    (hb : ∀ (W : WX) (pn : List (Addr × Obj)) (xe : Value → Shared → Prop), Takes (X.tr pn xe) W → PassesOwn (model X.prog X.w) X.A X.env xe → PSs (X.tr pn xe) body (tS X.K W gb))
    (hd : (n == ("__debug__" : Str)) = false) (hcd : (n == ("__classdict__" : Str)) = false) (hsw : ∀ env, swapsWith (.Name n p1) (some (.Name y py)) p2.line env = pure false) :
    PS X (.Try body [.ExceptHandler (some (.Name x np)) (some n) [.Assign [.Name y py] (.Name n p1) p2] pos'] [] [] pos) (tS X.K W (gTryHold mt cn i j gb)) := by
  refine PS.imp (ps_try_hold (tb := fun W => tS X.K W gb) hs hf hex hN hi hj hln hly hc tk hb hd hcd hsw) fun D' σ H ⟨t, st, r, q⟩ => ⟨t, st, r, ?_⟩
  unfold gTryHold at q
  cases eb : gb st with
  | nx _ => rw [eb] at q; exact q
  | rt _ _ => rw [eb] at q; exact q
  | bk _ => rw [eb] at q; exact q
  | ct _ => rw [eb] at q; exact q
  | no => rw [eb] at q; exact q
  | ex c z st' =>
    rw [eb] at q
    dsimp only at q
    intro t1 σ1 H1 d E1 R1 ⟨u, hd1', hdt, du⟩
    cases em : mt c with
    | none => rw [em] at q; exact q.elim
    | some b =>
      rw [em] at q
      refine ⟨b, hmt c b em, fun hbt => ⟨d, rfl, fun a ha => ?_⟩, fun hbf => ?_⟩
      · subst hbt
        dsimp only at q
        split at q
        · rename_i hcn
          obtain ⟨E2, R2, e2⟩ := R1.alloc (o := ExH (.ref (He.ga X.K c)) d a) ha
          have dd : Dat X.K (fz (setT t1 a .frz) (upd H1 a (ExH (.ref (He.ga X.K c)) d a))) (rho (setT t1 a .frz)) (.exc cn z) (.ref a) := by
            rw [Dat]
            obtain ⟨f1, f2⟩ := E2.frz d hdt
            exact ⟨a, d, u, rfl, by rw [← hcn]; exact e2, by rw [fz_of f1, f2]; exact hd1', E2.dat du⟩
          have R3 := (R2.storeSh (i := j) dd).clear i
          have es : ((σ1.set i (some (V.ref a))).set j (some (V.ref a))).set i none = (σ1.set j (some (V.ref a))).set i none := by
            apply List.ext_getElem?
            intro k
            simp only [List.getElem?_set, List.length_set]
            by_cases h1 : i = k <;> by_cases h2 : j = k <;> simp [h1, h2]
          rw [es]
          exact q _ _ _ (E1.trans E2.w) R3
        · exact q.elim
      · subst hbf
        exact q t1 σ1 H1 d E1 R1 ⟨u, hd1', hdt, du⟩
end
/-! ### e.value of an exception -/
def gValue (cs : List Str) (z : DZ) : DE := fun st => (z st).bind fun d st => match d with
  | .exc c x => if c ∈ cs then .ok (.sh x) st else .no
  | _ => .no
section
variable {X : Cx} {W : WX} {e : Expr} {z : DZ} {pos : Pos} {cs : List Str}
theorem de_value (hT : ∀ c ∈ cs, XfC X.K (He.ga X.K c) ∧ PySem.W.findIn X.K (.ref (He.ga X.K c)) "value" = some none) (he : PE X e (tV X.K W z)) (hb : attributeBase e "value" X.env (eval e X.env) = eval e X.env) : PE X (.Attribute e "value" pos) (tD X.K W (gValue cs z)) := by
  refine ⟨fun pins s σ H Q I ⟨t, st, r, q⟩ => ?_⟩
  have want : tV X.K W z σ H fun v H1 => ∃ a d u c, c ∈ cs ∧ v = .ref a ∧ H1 a = some (ExH (.ref (He.ga X.K c)) d a) ∧ H1 d = some (.xd [("value", u)]) ∧ Q u H1 := by
    refine tG_at r q fun t1 st1 H1 d v E1 R1 p1 q1 => ?_
    cases d with
    | exc c x =>
      have q2 := Res.step0 E1 q1
      dsimp only at q2
      split at q2
      · rename_i hc
        have p1 : Dat X.K (fz t1 H1) (rho t1) (.exc c x) v := p1
        rw [Dat] at p1
        obtain ⟨a, dd, u, rfl, e1, e2, e3⟩ := p1
        exact ⟨a, dd, u, c, hc, rfl, (of_fz e1).2, (of_fz e2).2, q2 t1 H1 u (Ext.refl _ _) R1 e3⟩
      · exact q2.elim
    | _ => exact q1.elim
  refine attr_of hb (thn (he.run pins s σ H _ I want) fun u0 s1 ⟨v, H1, I1, rx, a, d, u, c, hc, ev, ea, ed, q1⟩ => ?_)
  subst ev
  obtain rfl : u0 = Value.ref a := rx
  obtain ⟨T, hno⟩ := hT c hc
  have hx : ObjOk X.prog X.w H1 s1.heap a (ExH (.ref (He.ga X.K c)) d a) := I1.hok a _ ea
  obtain ⟨⟨oe, vs, g1, g2, g3, g4⟩, _⟩ := hx
  have hy : ObjOk X.prog X.w H1 s1.heap d (.xd [("value", u)]) := I1.hok d _ ed
  obtain ⟨mA, hns, hr⟩ := hy
  obtain ⟨od, ho, hl⟩ := lookIn_ns hns
  have hv := hr ("value" : Str)
  obtain ⟨uu, hu, ru⟩ := RelO.some_of (v := u) (o := mA "value") (by exact hv)
  have J : PySem.W.InstAt s1.heap a oe (He.ga X.K c) (some od) := ⟨g1, g2, by unfold PySem.W.notCls; rw [g4] <;> rfl, by rw [g3]; exact ho⟩
  exact HandSPX.exc_get I1.kIn J T.ga T.gg T.exC (PySem.W.findObj_own T.hdC hno rfl (by rw [hl, hu])) (handed_of ru) ⟨u, H1, I1.tok _, ru, q1⟩
end
/-! ### C(e) as a value -/
def gNewX (cn : Str) (z : DZ) : DE := fun st => (z st).bind fun d st => .ok (.sh (.exc cn d)) st
section
variable {X : Cx} {W : WX} {x cn : Str} {D fI : Addr} {body : List Stmt} {k : Nat} {e : Expr} {z : DZ} {p pos : Pos}
theorem de_newX (ini : XIni X.prog X.K D fI body) (c : XCls X.K (He.ga X.K cn) D fI) (room : Room (k + 1) X.A) (hg : Gl X x) (hm : X.mg x = some (.ref (He.ga X.K cn)))
    (he : PE X e (tZ X.K W z)) (hdb : (x == ("__debug__" : Str)) = false) (hst : starEach [e] X.env = (false, eval e X.env) :: starEach [] X.env) (hpl : (backTo pos (starEach [] X.env)).any (·.1) = false) :
    PE X (.Call (.Name x p) [e] [] pos) (tD X.K W (gNewX cn z)) := by
  refine ⟨fun pins s σ H Q I ⟨t, st, r, q⟩ => ?_⟩
  have want : tCons (tZ X.K W z) tNil σ H fun vs H1 => ∃ v, vs = [v] ∧ ∀ a d, H1 a = none → H1 d = none → a ≠ d → Q (.ref a) (upd (upd H1 d (.xd [("value", v)])) a (ExH (.ref (He.ga X.K cn)) d a)) := by
    refine tG_at r q fun t1 st1 H1 d v E1 R1 p1 q1 => ⟨v, rfl, fun a dx ha hd ne => ?_⟩
    have q2 := Res.step0 E1 q1
    obtain ⟨E2, R2, e2⟩ := R1.alloc (o := .xd [("value", v)]) hd
    obtain ⟨E3, R3, e3⟩ := R2.alloc (a := a) (o := ExH (.ref (He.ga X.K cn)) dx a) (by rw [upd_ne ne]; exact ha)
    refine q2 _ _ (.ref a) (E2.trans E3) R3 ?_
    show Dat _ _ _ _ _
    rw [Dat]
    exact ⟨a, dx, v, rfl, e3, E3.le _ _ e2, (E2.trans E3).dat p1⟩
  refine wpAny_Call_Name_kw (ld_glob I hg hm ?_ hdb)
  refine PySem.W.callWith_K (h₀ := X.base) I.ok.mod.kin c.T.kC (thn ((pa_cons he pa_nil hst).run pos pins s σ H _ I want) fun us s1 ⟨vs, H1, I1, r1, v, ev, q1⟩ => ⟨I1.kIn, ?_⟩) hst hpl
  subst ev
  obtain ⟨u, rfl, rv⟩ := vals1 r1
  refine make_bad ini c room I1 rv fun a d h' G t1 tk hd J sub' old ga sz ne hx => ?_
  have na : upd H1 d (.xd [("value", v)]) a = none := by rw [upd_ne ne]; exact I1.hok.fresh sz
  have I2 : Inv X pins σ (upd (upd H1 d (.xd [("value", v)])) a (ExH (.ref (He.ga X.K cn)) d a)) ⟨h', s1.gens, s1.drawn, tk, s1.os⟩ := J.laidN (t' := tk) sub' ga na (exH_ok hx rfl rfl rfl)
  exact ⟨.ref a, _, I2, rfl, q1 a d (I1.hok.fresh sz) hd ne⟩
end
end Dn
end

section
set_option maxHeartbeats 4000000
-- Dn19
/-! Dn19: chains of comparisons, cells made of lists, defs by name, short words -/
namespace Dn
open PySem PySem.Spec L2
/-! ### a op b op c -/
def tTest2 (ta : TE) (r1 : R2) (tb : TE) (r2 : R2) (tc : TE) : TT := fun σ H Q => ta σ H fun x H1 => tb σ H1 fun y H2 => r1 x y H2 fun z H3 => ∃ k, z = .bl k ∧ (if k = true then tc σ H3 fun u H4 => r2 y u H4 fun z2 H5 => ∃ k2, z2 = .bl k2 ∧ Q k2 H5 else Q false H3)
theorem pt_cmp2 {X : Cx} {a b c : Expr} {o1 o2 : CmpOp} {ta tb tc : TE} {r1 r2 : R2} {pos : Pos} (h1 : OpR X (compareOp o1) r1) (h2 : OpR X (compareOp o2) r2) (ha : PE X a ta) (hb : PE X b tb) (hc : PE X c tc) (hm : lastMarks [o1, o2] [b, c] = false) : PT X (.Compare a [o1, o2] [b, c] pos) (tTest2 ta r1 tb r2 tc) := by
  refine ⟨fun pins s σ H Q I h => PyProof.Rows.isTrue_chain ?_ hm⟩
  refine thn (ha.run pins s σ H _ I h) fun v s1 ⟨x, H1, I1, rx, q1⟩ => PyProof.Rows.test_link ?_
  refine thn (hb.run pins s1 σ H1 _ I1 q1) fun u s2 ⟨y, H2, I2, ry, q2⟩ => ?_
  refine thn (h1 pins s2 σ H2 x y v u _ I2 rx ry q2) fun c1 s3 ⟨z, H3, I3, rz, k, ez, q3⟩ => ?_
  subst ez
  cases rz
  refine wpAny_truthy_bool ?_
  cases k with
  | false => exact ⟨H3, I3, q3⟩
  | true =>
    refine PyProof.Rows.test_last (thn (hc.run pins s3 σ H3 _ I3 q3) fun w s4 ⟨u', H4, I4, ru, q4⟩ => ?_)
    refine thn (h2 pins s4 σ H4 y u' u w _ I4 ry ru q4) fun c2 s5 ⟨z2, H5, I5, rz2, k2, ez2, q5⟩ => ?_
    subst ez2
    cases rz2
    exact wpAny_truthy_bool ⟨H5, I5, q5⟩
def gCmp2 (f1 f2 : D → D → Option RV) (za zb zc : DZ) : DT := fun st => (za st).bind fun a st => (zb st).bind fun b st => match f1 a b with
  | some (.sh (.bl true)) => (zc st).bind fun c st => (match f2 b c with
    | some (.sh (.bl k)) => .ok k st
    | _ => .no)
  | some (.sh (.bl false)) => .ok false st
  | _ => .no
section
variable {X : Cx} {W : WX} {a b c e : Expr} {za zb zc : DZ} {f1 f2 : D → D → Option RV} {o1 o2 : CmpOp} {pos : Pos}
theorem dt_cmp2 (h1 : OpR X (compareOp o1) (rF X.K f1)) (h2 : OpR X (compareOp o2) (rF X.K f2)) (ha : PE X a (tV X.K W za)) (hb : PE X b (tV X.K W zb)) (hc : PE X c (tV X.K W zc)) (hm : lastMarks [o1, o2] [b, c] = false) : PT X (.Compare a [o1, o2] [b, c] pos) (tT X.K W (gCmp2 f1 f2 za zb zc)) := by
  refine PT.imp (pt_cmp2 h1 h2 ha hb hc hm) fun σ H Q ⟨t, st, r, q⟩ => ?_
  refine tG_atT r q fun t1 st1 H1 x v E1 R1 p1 q1 => ?_
  refine tG_atT R1 (q1.step E1) fun t2 st2 H2 y u E2 R2 p2 q2 => ?_
  have p1 : Vw X.K t2 H2 x v := Vw.step E2 p1
  have q2 := q2.step E2
  refine ⟨t2, x, y, R2.tagOk, p1, p2, ?_⟩
  split at q2
  · rename_i e1
    rw [e1]
    intro t3 H3 z G3 pz
    have R3 := G3.st _ _ R2
    have pz : Dat X.K (fz t3 H3) (rho t3) (.bl true) z := pz
    rw [Dat] at pz
    refine ⟨true, pz, ?_⟩
    rw [if_pos rfl]
    refine tG_atT R3 (q2.step G3.ext) fun t4 st4 H4 w u4 E4 R4 p4 q4 => ?_
    have q4 := q4.step E4
    refine ⟨t4, y, w, R4.tagOk, Vw.step (G3.ext.trans E4) p2, p4, ?_⟩
    split at q4
    · rename_i e2
      rw [e2]
      intro t5 H5 z5 G5 p5
      have p5 : Dat X.K (fz t5 H5) (rho t5) (.bl _) z5 := p5
      rw [Dat] at p5
      exact ⟨_, p5, q4 t5 H5 G5.ext (G5.st _ _ R4)⟩
    · exact q4.elim
  · rename_i e1
    rw [e1]
    intro t3 H3 z G3 pz
    have pz : Dat X.K (fz t3 H3) (rho t3) (.bl false) z := pz
    rw [Dat] at pz
    refine ⟨false, pz, ?_⟩
    rw [if_neg Bool.false_ne_true]
    exact q2 t3 H3 G3.ext (G3.st _ _ R2)
  · exact q2.elim
end
/-! ### a list of one's own becomes a cell of the store -/
theorem R.mkCell {K : PySem.W.Frag} {t : Tags} {st : DSt} {σ : L2.St} {H : Hp} {p : Addr} {o : OD} (r : R K t st σ H) (n : t p ≠ .frz) (c : ∀ k, t p ≠ .cell k) (ob : ObjAt K (fz t H) (rho t) H p o) (env' : List (Option RV)) (hl : env'.length = st.env.length)
    (he : ∀ (j : Nat) (x : RV), env'[j]? = some (some x) → (∃ v, σ[j]? = some (some v) ∧ SlotIs K (setT t p (.cell (some st.S.length))) H j x v)) : R K (setT t p (.cell (some st.S.length))) { st with env := env', S := st.S ++ [o] } σ H where
  r0 := {
    tag := fun b h => by
      by_cases e : b = p
      · rw [e]; exact ob.there
      · rw [setT_ne e] at h; exact r.r0.tag b h
    cel := fun k o' h => by
      have rt : ∀ k b, rho t k b → rho (setT t p (.cell (some st.S.length))) k b := fun k b hb => by
        have ne : b ≠ p := fun e => c k (e ▸ hb)
        show setT t p _ b = _
        rw [setT_ne ne]; exact hb
      have h : (st.S ++ [o])[k]? = some o' := h
      by_cases hk : k < st.S.length
      · rw [List.getElem?_append_left hk] at h
        obtain ⟨b, h1, h2, h3⟩ := r.r0.cel k o' h
        have ne : b ≠ p := fun e => c k (e ▸ h1)
        refine ⟨b, by rw [setT_ne ne]; exact h1, fun b' hb' => ?_, h3.mono (le_untag (x := .cell (some st.S.length)) n nofun) rt fun _ h => h⟩
        by_cases e : b' = p
        · rw [e, setT_same] at hb'
          injection hb' with hb'
          injection hb' with hb'
          omega
        · rw [setT_ne e] at hb'; exact h2 b' hb'
      · rw [List.getElem?_append_right (by omega)] at h
        have hk0 : k = st.S.length := by
          cases e : k - st.S.length with
          | zero => omega
          | succ m => rw [e] at h; simp at h
        subst hk0
        rw [Nat.sub_self] at h
        cases h
        refine ⟨p, setT_same, fun b hb => ?_, ob.mono (le_untag (x := .cell (some st.S.length)) n nofun) rt fun _ h => h⟩
        by_cases e : b = p
        · exact e
        · rw [setT_ne e] at hb
          exact absurd (r.r0.lt b _ hb) (Nat.lt_irrefl _)
    lt := fun b k h => by
      show k < (st.S ++ [o]).length
      rw [List.length_append, List.length_singleton]
      by_cases e : b = p
      · rw [e, setT_same] at h
        injection h with h
        injection h with h
        omega
      · rw [setT_ne e] at h
        have := r.r0.lt b k h
        omega
    one := fun b b' h h' => by
      by_cases e : b = p
      · rw [e, setT_same] at h; injection h with h; cases h
      · by_cases e' : b' = p
        · rw [e', setT_same] at h'; injection h' with h'; cases h'
        · rw [setT_ne e] at h; rw [setT_ne e'] at h'; exact r.r0.one b b' h h' }
  len := by rw [hl]; exact r.len
  env := he
/-- what stays of the slots when p becomes a cell -/
theorem SlotIs.mkCell {K : PySem.W.Frag} {t : Tags} {H : Hp} {j : Nat} {x : RV} {v : V} {p : Addr} {k0 : Nat} (n : t p ≠ .frz) (c : ∀ k, t p ≠ .cell k) (ns : t p ≠ .slot j) (h : SlotIs K t H j x v) : SlotIs K (setT t p (.cell (some k0))) H j x v := by
  have rt : ∀ k b, rho t k b → rho (setT t p (.cell (some k0))) k b := fun k b hb => by
    have ne : b ≠ p := fun e => c k (e ▸ hb)
    show setT t p _ b = _
    rw [setT_ne ne]; exact hb
  cases x with
  | sh d => exact Dat.mono (le_untag (x := .cell (some k0)) n nofun) rt h
  | ow ob =>
    obtain ⟨b, eb, s1, s2⟩ := h
    have ne : b ≠ p := fun e => ns (e ▸ s1)
    exact ⟨b, eb, by rw [setT_ne ne]; exact s1, s2.mono (le_untag (x := .cell (some k0)) n nofun) rt fun _ h => h⟩
  | me ob =>
    obtain ⟨b, eb, s1, s2, hi⟩ := h
    have ne : b ≠ p := fun e => c _ (e ▸ s1)
    exact ⟨b, eb, by rw [setT_ne ne]; exact s1, s2.mono (le_untag (x := .cell (some k0)) n nofun) rt fun _ h => h, hi⟩
def cellR (r : RV) (st : DSt) : Out D := match r with
  | .ow o => .ok (.cell st.S.length) { st with S := st.S ++ [o] }
  | .sh (.cell k) => .ok (.cell k) st
  | _ => .no
def gCell (g : DE) : DZ := fun st => (g st).bind cellR
section
variable {X : Cx} {W : WX} {k : Nat} {f : Addr} {fd : FuncData} {ps : List Str} {m : Fm} {x : Str} {p pos : Pos} {e : Expr} {es : List Expr} {gs : DAs}
theorem call_wantC {σ : L2.St} {H : Hp} {Q : VK} {t : Tags} {st : DSt} {ds : List D} {vs : List V} {n : Nat} {K : PySem.W.Frag} (r : R K t st σ H) (d : Dats K (fz t H) (rho t) ds vs) (hl : ds.length = n) (q : Res K W σ Q (PZ K) t H ((outE (m ds st.S) st).bind cellR)) :
    spD K n m vs H Q (fun cls d H' => W cls d σ H') := by
  refine ⟨unslot t, st.S, ds, r.r0.unslot, fun _ _ => unslot_slot, by rw [fz_unslot, rho_unslot]; exact d, hl, ?_⟩
  cases e : m ds st.S with
  | ok rv S' =>
    rw [e] at q
    intro t' H' v E' r' p
    obtain ⟨X', RX⟩ := r.call E' r'
    have p2 := p.call r.r0 E'
    have q : Res K W σ Q (PZ K) t H (cellR rv { st with S := S' }) := q
    unfold cellR at q
    split at q
    · rename_i o
      obtain ⟨a, rfl, h1, h2, h3⟩ := p
      obtain ⟨_, ea, _, j2, j3⟩ := p2
      cases ea
      have hn : H a = none := h1 (by
        cases z : unslot t a with
        | non => rfl
        | frz => have := (E'.frz a z).1; rw [h2] at this; cases this
        | cell k => have := E'.cel a k z; rw [h2] at this; cases this
        | slot i => exact absurd z unslot_slot)
      have nf : joinT t t' a ≠ .frz := by rw [j2]; exact nofun
      have nc : ∀ k, joinT t t' a ≠ .cell k := fun k => by rw [j2]; exact nofun
      have R2 := RX.mkCell nf nc j3 st.env rfl fun j x hx => by
        obtain ⟨w, ew, sw⟩ := RX.env j x hx
        exact ⟨w, ew, sw.mkCell nf nc (by rw [j2]; exact nofun)⟩
      refine q _ H' (.ref a) ⟨fun b hb => ?_, fun b k hb => ?_, fun b u hb e => ?_, fun b i u hb e => ?_⟩ R2 ?_
      · obtain ⟨z1, z2⟩ := X'.frz b hb
        have ne : b ≠ a := fun e => nf (e ▸ z1)
        exact ⟨by rw [setT_ne ne]; exact z1, z2⟩
      · have z := X'.cel b k hb
        have ne : b ≠ a := fun e => nc k (e ▸ z)
        rw [setT_ne ne]; exact z
      · have ne : b ≠ a := fun z => by rw [z, hn] at e; cases e
        obtain ⟨z1, z2⟩ := X'.oth b u hb e
        exact ⟨by rw [setT_ne ne]; exact z1, z2⟩
      · have ne : b ≠ a := fun z => by rw [z, hn] at e; cases e
        obtain ⟨z1, z2⟩ := X'.slt b i u hb e
        exact ⟨z1, fun k => by rw [setT_ne ne]; exact z2 k⟩
      · show Dat _ _ _ _ _
        rw [Dat]
        exact ⟨a, rfl, setT_same⟩
    · exact q _ H' v X' RX p2
    · exact q.elim
  | ex c x S' =>
    rw [e] at q
    intro t' H' d' E' r' ⟨u, h1, h2, h3⟩
    obtain ⟨X', RX⟩ := r.call E' r'
    obtain ⟨ef, er⟩ := fz_joinT r.r0 E'
    refine q _ H' d' X' RX ⟨u, h1, ?_, by rw [ef, er]; exact h3⟩
    have hs : ¬ Own (t d') := fun z => by rw [(own_non r.r0 E' z).1] at h2; cases h2
    rw [joinT_ne hs]
    exact unslot_frz.mpr h2
  | no => rw [e] at q; exact q.elim
/-- f(..), f a def: what it hands back becomes a cell -/
theorem dz_callC (F : FnG X.prog X.w X.K X.mg X.base k f fd ps m) (room : Room k X.A) (gd : X.A.guards = some []) (tk : Takes X W) (hg : Gl X x) (hm : X.mg x = some (.ref f)) (hk : PySem.W.keepIn X.K (.ref f) = true) (hb : Binds X.K fd ps [])
    (ha : PA X (e :: es) (tA X.K W gs (PLz X.K))) (hdb : (x == ("__debug__" : Str)) = false) (he : starEach (e :: es) X.env = (false, eval e X.env) :: starEach es X.env) (hpl : (backTo pos (starEach es X.env)).any (·.1) = false) :
    PE X (.Call (.Name x p) (e :: es) [] pos) (tZ X.K W (gCell (gFn m (gLen ps.length gs)))) := by
  refine ⟨fun pins s σ H Q I ⟨t, st, r, q⟩ => ?_⟩
  have q : Res X.K W σ Q (PZ X.K) t H ((((gs st).bind fun ds st => if ds.length = ps.length then .ok ds st else .no).bind fun ds st => outE (m ds st.S) st).bind cellR) := q
  have want : tA X.K W gs (PLz X.K) σ H fun vs H1 => spD X.K ps.length m vs H1 Q (fun cls d H' => W cls d σ H') := by
    refine ⟨t, st, r, ?_⟩
    cases eg : gs st with
    | no => rw [eg] at q; exact q
    | ex c x st' => rw [eg] at q; exact q
    | ok ds st1 =>
      rw [eg] at q
      intro t1 H1 vs E1 R1 p1
      have q1 : Res X.K W σ Q (PZ X.K) t H (((if ds.length = ps.length then Out.ok ds st1 else Out.no).bind fun ds st => outE (m ds st.S) st).bind cellR) := q
      by_cases hl : ds.length = ps.length
      · rw [if_pos hl] at q1
        exact call_wantC R1 p1 hl (q1.step sta_z E1)
      · rw [if_neg hl] at q1; exact q1.elim
  refine wpAny_Call_Name_kw (ld_glob I hg hm ?_ hdb)
  refine PySem.W.callWith_K (h₀ := X.base) I.ok.mod.kin hk (thn (ha.run pos pins s σ H _ I want) fun us s1 ⟨vs, H1, I1, rv, q1⟩ => ⟨I1.kIn, ?_⟩) he hpl
  exact run_G F room gd hb (fun _ _ => trivial) (fun e s' c => tk e s' (XE.of_call I1 (fun _ _ _ h => h) c)) I1 rv q1
/-- name = f(..), what it hands back becomes a cell -/
def gSetZ (i : Nat) (z : DZ) : DS := fun st => (z st).bindS fun d st => .nx (put i (.sh d) st)
theorem ds_setZ {z : DZ} {i : Nat} {pos' : Pos} (hN : X.N.Nodup) (hi : X.N[i]? = some x) (hx : Loc X.env.scope x) (he : PE X e (tZ X.K W z)) (hs : swapsWith e (some (.Name x pos')) pos.line X.env = pure false) (hf : X.fn x = true ∨ X.env.scope.names.lookup x = some .local) :
    PS X (.Assign [.Name x pos'] e pos) (tS X.K W (gSetZ i z)) := PS.imp (ps_set hN hi hx he hs hf) fun D' σ H ⟨t, st, r, q⟩ => tG_atS r q fun t1 st1 H1 d v E1 R1 p1 q1 => q1 t1 _ H1 E1.w (R1.storeSh p1)
end
end Dn
end

section
set_option maxHeartbeats 4000000
-- Dn20
/-! Dn20: range, enumerate; short words for the printed proofs -/
namespace Dn
open PySem PySem.Spec L2
theorem tA_atI {K : PySem.W.Frag} {W : WX} {σ : L2.St} {t : Tags} {H : Hp} {Q : It → Hp → Prop} {Q1 : List V → Hp → Prop} {P1 : PL} {st : DSt} {g : DAs} {f : List D → DSt → Out (List D)} (r : R K t st σ H)
    (h : ResI K W σ Q t H ((g st).bind f))
    (k : ∀ t1 st1 H1 ds vs, Ext t H t1 H1 → R K t1 st1 σ H1 → P1 t1 H1 ds vs → ResI K W σ Q t H (f ds st1) → Q1 vs H1) : tA K W g P1 σ H Q1 := by
  refine ⟨t, st, r, ?_⟩
  cases e : g st with
  | no => rw [e] at h; exact h
  | ex c x st' => rw [e] at h; exact h
  | ok a st' =>
    rw [e] at h
    exact fun t1 H1 v E1 R1 p1 => k t1 st' H1 a v E1 R1 p1 h
def upTo (lo : Int) (n : Nat) : List D := (List.range n).map fun (k : Nat) => D.int (lo + (k : Int))
theorem wk_rng {K : PySem.W.Frag} {t : Tags} {H : Hp} {lo : Int} {n : Nat} : Wk K t H (Itr lo n) (upTo lo n) where
  at_ := fun t1 H1 E1 _ i d hd => by
    unfold upTo at hd
    rw [List.getElem?_map] at hd
    obtain ⟨c, hc, rfl⟩ := Option.map_eq_some_iff.mp hd
    have hi : i < n := by
      have := (List.getElem?_eq_some_iff.mp hc).1
      simpa using this
    rw [List.getElem?_range hi] at hc
    cases hc
    refine ⟨hi, fun v H2 ⟨e, ev⟩ => ?_⟩
    subst e
    exact ⟨t1, Grow.refl, by rw [Dat]; exact ev⟩
  end_ := fun t1 H1 E1 i hi => by
    show n ≤ i
    simpa [upTo] using hi
def gRng1 (gs : DAs) : DL := fun st => (gs st).bind fun ds st => match ds with
  | [.int j] => if -(2 ^ 62) ≤ j ∧ j < 2 ^ 62 then .ok (upTo 0 j.toNat) st else .no
  | _ => .no
def gRng2 (gs : DAs) : DL := fun st => (gs st).bind fun ds st => match ds with
  | [.int i, .int j] => if -(2 ^ 62) ≤ i ∧ i < 2 ^ 62 ∧ -(2 ^ 62) ≤ j ∧ j < 2 ^ 62 then .ok (upTo i (j - i).toNat) st else .no
  | _ => .no
def gEnum (gs : DAs) : DL := fun st => (gs st).bind fun ds st => match ds with
  | [.lst xs] => .ok (xs.zipIdx.map fun p => .tup [.int p.2, p.1]) st
  | _ => .no
section
variable {X : Cx} {W : WX} {tg a b e : Expr} {gs : DAs} {p pos tpos : Pos} {elts : List Expr} {kk : Nat}
theorem di_rng1 (hg : Gl X "range") (hm : X.mg "range" = none) (ha : PA X [a] (tA X.K W gs (Vws X.K))) (hs : starEach [a] X.env = [(false, eval a X.env)]) : PI X tg (.Call (.Name "range" p) [a] [] pos) (tI X.K W (gRng1 gs)) := by
  refine PI.imp (pi_range1 hg hm ha hs) fun σ H Q ⟨t, st, r, q⟩ => ?_
  refine tA_atI r q fun t1 st1 H1 ds vs E1 R1 p1 q1 => ?_
  split at q1
  · split at q1
    · rename_i hc
      obtain ⟨v, rfl, d⟩ := vws1 p1
      cases d
      exact ⟨_, rfl, hc.1, hc.2, q1 t1 H1 _ E1 R1 wk_rng⟩
    · exact q1.elim
  · exact q1.elim
theorem di_rng2 (hg : Gl X "range") (hm : X.mg "range" = none) (ha : PA X [a, b] (tA X.K W gs (Vws X.K))) (hs : starEach [a, b] X.env = [(false, eval a X.env), (false, eval b X.env)]) (hs2 : starEach [b] X.env = [(false, eval b X.env)]) : PI X tg (.Call (.Name "range" p) [a, b] [] pos) (tI X.K W (gRng2 gs)) := by
  refine PI.imp (pi_range2 hg hm ha hs hs2) fun σ H Q ⟨t, st, r, q⟩ => ?_
  refine tA_atI r q fun t1 st1 H1 ds vs E1 R1 p1 q1 => ?_
  split at q1
  · split at q1
    · rename_i hc
      obtain ⟨v, w, rfl, d, d2⟩ := vws2 p1
      cases d; cases d2
      exact ⟨_, _, rfl, hc, q1 t1 H1 _ E1 R1 wk_rng⟩
    · exact q1.elim
  · exact q1.elim
theorem di_enum (hg : Gl X "enumerate") (hm : X.mg "enumerate" = none) (ha : PA X [e] (tA X.K W gs (PLz X.K))) (hs : starEach [e] X.env = [(false, eval e X.env)]) : PI X (.Tuple elts kk tpos) (.Call (.Name "enumerate" p) [e] [] pos) (tI X.K W (gEnum gs)) := by
  refine PI.imp (pi_enum hg hm ha hs) fun σ H Q ⟨t, st, r, q⟩ => ?_
  refine tA_atI r q fun t1 st1 H1 ds vs E1 R1 p1 q1 => ?_
  split at q1
  · have p1 : Dats X.K (fz t1 H1) (rho t1) _ vs := p1
    simp only [Dats] at p1
    obtain ⟨v, us, rfl, h1, rfl⟩ := p1
    rw [Dat] at h1
    obtain ⟨q, ws, rfl, s, m⟩ := h1
    exact ⟨q, ws, rfl, SqL.of (fz_le _ _ s), q1 t1 H1 _ E1 R1 (wk_enum s m)⟩
  · exact q1.elim
end
/-! ### a def by its name -/
def Fn (P : Program) (w : World) (K : PySem.W.Frag) (mg : Str → Option Value) (base : Heap) (k : Nat) (x : Str) (ps : List Str) (m : Fm) : Prop :=
  ∃ f fd, mg x = some (.ref f) ∧ PySem.W.keepIn K (.ref f) = true ∧ Binds K fd ps [] ∧ FnG P w K mg base k f fd ps m
/-- what calls lean on -/
structure Cal (X : Cx) (k : Nat) (W : WX) : Prop where
  room : Room k X.A
  gds : X.A.guards = some []
  calm : X.calm = true
  tk : Takes X W
theorem Body.cal {X : Cx} {k : Nat} {W : WX} (b : Body X k W) : Cal X k W := ⟨b.room, b.gds, b.calm, b.tk⟩
theorem takes0 {X : Cx} : Takes X W0 := fun u s' ⟨_, _, _, _, _, _, _, _, _, _, _, _, _, _, _, _, z⟩ => z.elim
theorem Cal.blk {X : Cx} {k : Nat} {W : WX} (b : Cal X k W) (s : Shared) (H : Hp) (scope : Scope) (cenv : Env) (fp : List Addr) : Cal (X.blk s H scope cenv fp) k W0 := ⟨b.room, b.gds, b.calm, takes0⟩
theorem Cal.hu {X : Cx} {k : Nat} {W : WX} (b : Cal X k W) : X.A.units + 64 < cLine := b.room.units
section
variable {X : Cx} {W : WX} {k j : Nat} {ps : List Str} {m : Fm} {x : Str} {p pos : Pos} {e : Expr} {es : List Expr} {gs : DAs} {i : Nat} {z za zb zc : DZ} {g : DE}
theorem cF (F : Fn X.prog X.w X.K X.mg X.base j x ps m) (B : Cal X k W) (ha : PA X (e :: es) (tA X.K W gs (PLz X.K))) (hjk : j ≤ k := by decide) (hg : Gl X x := by rfl) (hdb : (x == ("__debug__" : Str)) = false := by decide) (he : starEach (e :: es) X.env = (false, eval e X.env) :: starEach es X.env := by rfl) (hpl : (backTo pos (starEach es X.env)).any (·.1) = false := by rfl) :
    PE X (.Call (.Name x p) (e :: es) [] pos) (tD X.K W (gFn m (gLen ps.length gs))) := by
  obtain ⟨f, fd, h1, h2, h3, h4⟩ := F
  exact de_call h4 (B.room.mono hjk) B.gds B.tk hg h1 h2 h3 ha hdb he hpl
theorem cC (F : Fn X.prog X.w X.K X.mg X.base j x ps m) (B : Cal X k W) (ha : PA X (e :: es) (tA X.K W gs (PLz X.K))) (hjk : j ≤ k := by decide) (hg : Gl X x := by rfl) (hdb : (x == ("__debug__" : Str)) = false := by decide) (he : starEach (e :: es) X.env = (false, eval e X.env) :: starEach es X.env := by rfl) (hpl : (backTo pos (starEach es X.env)).any (·.1) = false := by rfl) :
    PE X (.Call (.Name x p) (e :: es) [] pos) (tZ X.K W (gCell (gFn m (gLen ps.length gs)))) := by
  obtain ⟨f, fd, h1, h2, h3, h4⟩ := F
  exact dz_callC h4 (B.room.mono hjk) B.gds B.tk hg h1 h2 h3 ha hdb he hpl
/-! names -/
theorem vN (i : Nat) {x : Str} {pos : Pos} (hN : X.N[i]? = some x := by rfl) (hv : Vis X.env.scope x := by first | exact Or.inl rfl | exact Or.inr (Or.inl rfl) | exact Or.inr (Or.inr rfl)) (hd : (x == ("__debug__" : Str)) = false := by decide) (hcd : (x == ("__classdict__" : Str)) = false := by decide) :
    PE X (.Name x pos) (tV X.K W (gN i)) := pv_var hN hv hd hcd
theorem eN (i : Nat) {x : Str} {pos : Pos} (hN : X.N[i]? = some x := by rfl) (hv : Vis X.env.scope x := by first | exact Or.inl rfl | exact Or.inr (Or.inl rfl) | exact Or.inr (Or.inr rfl)) (hd : (x == ("__debug__" : Str)) = false := by decide) (hcd : (x == ("__classdict__" : Str)) = false := by decide) :
    PE X (.Name x pos) (tD X.K W (gV i)) := de_var hN hv hd hcd
/-! argument lists -/
theorem aN : PA X [] (tA X.K W gNilA (PLz X.K)) := da_nil
theorem aC (h : PE X e (tZ X.K W z)) (hr : PA X es (tA X.K W gs (PLz X.K))) (hs : starEach (e :: es) X.env = (false, eval e X.env) :: starEach es X.env := by rfl) : PA X (e :: es) (tA X.K W (gConsA z gs) (PLz X.K)) := da_cons h hr hs
theorem bN : PA X [] (tA X.K W gNilA (Vws X.K)) := dv_nil
theorem bC (h : PE X e (tV X.K W z)) (hr : PA X es (tA X.K W gs (Vws X.K))) (hs : starEach (e :: es) X.env = (false, eval e X.env) :: starEach es X.env := by rfl) : PA X (e :: es) (tA X.K W (gConsA z gs) (Vws X.K)) := dv_cons h hr hs
/-! built-in functions and types -/
theorem cB {f : List D → Option RV} {id : String} (hc : CallR X (.builtin id) (rC X.K f)) (hm : X.mg x = none) (ha : PA X (e :: es) (tA X.K W gs (Vws X.K))) (hg : Gl X x := by rfl) (hv : bootBuiltins x = some (.builtin id) := by decide +kernel) (hn : x ≠ "__name__" := by decide) (hdb : (x == ("__debug__" : Str)) = false := by decide)
    (he : starEach (e :: es) X.env = (false, eval e X.env) :: starEach es X.env := by rfl) (hpl : (backTo pos (starEach es X.env)).any (·.1) = false := by rfl) : PE X (.Call (.Name x p) (e :: es) [] pos) (tD X.K W (gCall f gs)) := de_callB hc hg hm hv ha hn hdb he hpl
theorem cT {f : List D → Option RV} {T : String} (hc : CallR X (.type T) (rC X.K f)) (hm : X.mg x = none) (ha : PA X (e :: es) (tA X.K W gs (Vws X.K))) (hg : Gl X x := by rfl) (hv : bootBuiltins x = some (.type T) := by decide +kernel) (hn : x ≠ "__name__" := by decide) (hdb : (x == ("__debug__" : Str)) = false := by decide)
    (he : starEach (e :: es) X.env = (false, eval e X.env) :: starEach es X.env := by rfl) (hpl : (backTo pos (starEach es X.env)).any (·.1) = false := by rfl) : PE X (.Call (.Name x p) (e :: es) [] pos) (tD X.K W (gCall f gs)) := de_callTy hc hg hm hv ha hn hdb he hpl
/-! comparisons, operators -/
theorem cmp {a b : Expr} {op : CmpOp} {f : D → D → Option RV} (ho : OpR X (compareOp op) (rF X.K f)) (ha : PE X a (tV X.K W za)) (hb : PE X b (tV X.K W zb)) (hm : behindInMarks op b = false := by rfl) : PE X (.Compare a [op] [b] pos) (tD X.K W (gBin f za zb)) := de_cmp ho ha hb hm
theorem tst {a b : Expr} {op : CmpOp} {f : D → D → Option RV} (ho : OpR X (compareOp op) (rF X.K f)) (ha : PE X a (tV X.K W za)) (hb : PE X b (tV X.K W zb)) (hm : behindInMarks op b = false := by rfl) : PT X (.Compare a [op] [b] pos) (tT X.K W (gTest asB (frz (gBin f za zb)))) := dt_cmp ho ha hb hm
theorem tst2 {a b c : Expr} {o1 o2 : CmpOp} {f1 f2 : D → D → Option RV} (h1 : OpR X (compareOp o1) (rF X.K f1)) (h2 : OpR X (compareOp o2) (rF X.K f2)) (ha : PE X a (tV X.K W za)) (hb : PE X b (tV X.K W zb)) (hc : PE X c (tV X.K W zc)) (hm : lastMarks [o1, o2] [b, c] = false := by rfl) :
    PT X (.Compare a [o1, o2] [b, c] pos) (tT X.K W (gCmp2 f1 f2 za zb zc)) := dt_cmp2 h1 h2 ha hb hc hm
theorem tru {a : Expr} (ha : PE X a (tV X.K W za)) (he : ∀ whole, isTrue a X.env whole = (do let v ← whole; standAt a.pos; holding [v] (truthy v)) := by intro whole; rfl) : PT X a (tT X.K W (gTest truD za)) := dt_truth ha he
theorem sub {a b : Expr} (ha : PE X a (tV X.K W za)) (hb : PE X b (tV X.K W zb)) (hs : PlainIx b := by intro o i; rfl) : PE X (.Subscript a b pos) (tD X.K W (gBin ixD za zb)) := de_ix ix_D ha hb hs
theorem cix {a b : Expr} (ha : PE X a (tV X.K W za)) (hb : PE X b (tV X.K W zb)) (hs : PlainIx b := by intro o i; rfl) : PE X (.Subscript a b pos) (tD X.K W (gCix za zb)) := de_cix ha hb hs
theorem isi {T : String} {p2 : Pos} {y : Str} (hT : T ∈ tys) (ha : PE X e (tV X.K W za)) (hm : X.mg "isinstance" = none) (hmT : X.mg y = none) (hg : Gl X "isinstance" := by rfl) (hgT : Gl X y := by rfl) (hvT : bootBuiltins y = some (.type T) := by decide +kernel) (hnT : y ≠ "__name__" := by decide) (hdT : (y == ("__debug__" : Str)) = false := by decide)
    (hs : starEach [e, .Name y p2] X.env = (false, eval e X.env) :: starEach [.Name y p2] X.env := by rfl) (hs2 : starEach [.Name y p2] X.env = (false, eval (.Name y p2) X.env) :: starEach [] X.env := by rfl) (hpl : (backTo pos (starEach [.Name y p2] X.env)).any (·.1) = false := by rfl) :
    PE X (.Call (.Name "isinstance" p) [e, .Name y p2] [] pos) (tD X.K W (gIsi T za)) := de_isi (x := y) (p2 := p2) hT ha (pe_bltn hgT hmT hvT rfl hnT hdT) hg hm hs hs2 hpl
theorem spl {a b : Expr} {apos : Pos} (ho : PE X a (tV X.K W za)) (he : PE X b (tV X.K W zb)) (hs : starEach [b] X.env = [(false, eval b X.env)] := by rfl) (hbase : attributeBase a "split" X.env (eval a X.env) = eval a X.env := by rfl) (hline : (apos.endLine == pos.line) = true := by rfl) :
    PE X (.Call (.Attribute a "split" apos) [b] [] pos) (tD X.K W (gM1 splitD za zb)) := de_split ho he hs hbase hline
theorem joi {a b : Expr} {apos : Pos} (ho : PE X a (tV X.K W za)) (he : PE X b (tV X.K W zb)) (hs : starEach [b] X.env = [(false, eval b X.env)] := by rfl) (hbase : attributeBase a "join" X.env (eval a X.env) = eval a X.env := by rfl) (hline : (apos.endLine == pos.line) = true := by rfl) :
    PE X (.Call (.Attribute a "join" apos) [b] [] pos) (tD X.K W (gM1 joinD za zb)) := de_join ho he hs hbase hline
/-! walks -/
theorem rn1 {tg a : Expr} (hm : X.mg "range" = none) (ha : PA X [a] (tA X.K W gs (Vws X.K))) (hg : Gl X "range" := by rfl) (hs : starEach [a] X.env = [(false, eval a X.env)] := by rfl) : PI X tg (.Call (.Name "range" p) [a] [] pos) (tI X.K W (gRng1 gs)) := di_rng1 hg hm ha hs
theorem rn2 {tg a b : Expr} (hm : X.mg "range" = none) (ha : PA X [a, b] (tA X.K W gs (Vws X.K))) (hg : Gl X "range" := by rfl) (hs : starEach [a, b] X.env = [(false, eval a X.env), (false, eval b X.env)] := by rfl) (hs2 : starEach [b] X.env = [(false, eval b X.env)] := by rfl) : PI X tg (.Call (.Name "range" p) [a, b] [] pos) (tI X.K W (gRng2 gs)) := di_rng2 hg hm ha hs hs2
theorem enu {elts : List Expr} {kk : Nat} {tpos : Pos} (hm : X.mg "enumerate" = none) (ha : PA X [e] (tA X.K W gs (PLz X.K))) (hg : Gl X "enumerate" := by rfl) (hs : starEach [e] X.env = [(false, eval e X.env)] := by rfl) : PI X (.Tuple elts kk tpos) (.Call (.Name "enumerate" p) [e] [] pos) (tI X.K W (gEnum gs)) := di_enum hg hm ha hs
/-! targets -/
theorem gNm (i : Nat) {x : Str} {pos : Pos} (hN : X.N.Nodup) (hi : X.N[i]? = some x := by rfl) (hx : Loc X.env.scope x := by first | exact Or.inl rfl | exact Or.inr rfl) (hf : X.fn x = true ∨ X.env.scope.names.lookup x = some .local := by first | exact Or.inl rfl | exact Or.inr rfl) : PG X (.Name x pos) (gName i) := pg_name hN hi hx hf
end
end Dn
end

section
set_option maxHeartbeats 4000000
-- Dn21
/-! Dn21: short words for statements -/
namespace Dn
open PySem PySem.Spec L2
theorem Body.tr {X : Cx} {k : Nat} {W W' : WX} (b : Body X k W) {pn : List (Addr × Obj)} {xe : Value → Shared → Prop} (tk : Takes (X.tr pn xe) W') (own : PassesOwn (model X.prog X.w) X.A X.env xe) : Body (X.tr pn xe) k W' := ⟨b.room, b.gds, b.calm, own, tk, b.fn, b.st, b.fr, b.ex⟩
section
variable {X : Cx} {W : WX} {k : Nat} {x : Str} {p pos : Pos} {e : Expr} {z za zi : DZ} {g : DE} {gs : DAs} {ss body : List Stmt} {a b : DS}
theorem sSet (i : Nat) {pos' : Pos} (hN : X.N.Nodup) (he : PE X e (tD X.K W g)) (hi : X.N[i]? = some x := by rfl) (hx : Loc X.env.scope x := by first | exact Or.inl rfl | exact Or.inr rfl) (hs : swapsWith e (some (.Name x pos')) pos.line X.env = pure false := by rfl) (hf : X.fn x = true ∨ X.env.scope.names.lookup x = some .local := by first | exact Or.inl rfl | exact Or.inr rfl) :
    PS X (.Assign [.Name x pos'] e pos) (tS X.K W (gSet i g)) := ds_set hN hi hx he hs hf
theorem sSetZ (i : Nat) {pos' : Pos} (hN : X.N.Nodup) (he : PE X e (tZ X.K W z)) (hi : X.N[i]? = some x := by rfl) (hx : Loc X.env.scope x := by first | exact Or.inl rfl | exact Or.inr rfl) (hs : swapsWith e (some (.Name x pos')) pos.line X.env = pure false := by rfl) (hf : X.fn x = true ∨ X.env.scope.names.lookup x = some .local := by first | exact Or.inl rfl | exact Or.inr rfl) :
    PS X (.Assign [.Name x pos'] e pos) (tS X.K W (gSetZ i z)) := ds_setZ hN hi hx he hs hf
theorem sAsg {tg : Expr} {gg : TG} {f : GT} {sl : List Nat} (he : PE X e (tZ X.K W z)) (hg : PG X tg gg) (tk : TgOk X.K gg f sl) (hs : swapsWithSole [tg] e pos.line X.env = pure false := by rfl) (hw : swappedStores [tg] e X.env = pure none := by rfl) (h1 : (assignEach [tg] X.env).map (·.2) = [assign tg X.env] := by rfl) :
    PS X (.Assign [tg] e pos) (tS X.K W (gTgt z f)) := ds_asg he hg tk hs hw h1
theorem sPar (i j : Nat) {x y : Str} {a b : Expr} {px py pt : Pos} {kt k2 pt2} (hc : X.calm = true) (hN : X.N.Nodup) (ha : PA X [a, b] (tA X.K W gs (PLz X.K))) (hi : X.N[i]? = some x := by rfl) (hj : X.N[j]? = some y := by rfl) (hij : i ≠ j := by decide)
    (hx : X.env.scope.names.lookup x = some .local := by rfl) (hy : X.env.scope.names.lookup y = some .local := by rfl)
    (hw : swappedStores [.Tuple [.Name x px, .Name y py] kt pt] (.Tuple [a, b] k2 pt2) X.env = pure (some [x, y]) := by rfl)
    (hs : swapsWithSole [.Tuple [.Name x px, .Name y py] kt pt] (.Tuple [a, b] k2 pt2) pos.line X.env = pure false := by rfl) :
    PS X (.Assign [.Tuple [.Name x px, .Name y py] kt pt] (.Tuple [a, b] k2 pt2) pos) (tS X.K W (gPar i j gs)) := ds_par hc hN hi hj hij hx hy ha hw hs
theorem sPar3 (i j l : Nat) {x y z : Str} {a b c : Expr} {px py pz pt : Pos} {kt k2 pt2} (hc : X.calm = true) (hN : X.N.Nodup) (ha : PA X [a, b, c] (tA X.K W gs (PLz X.K))) (hi : X.N[i]? = some x := by rfl) (hj : X.N[j]? = some y := by rfl) (hl : X.N[l]? = some z := by rfl) (hij : i ≠ j := by decide) (hil : i ≠ l := by decide) (hjl : j ≠ l := by decide)
    (hx : X.env.scope.names.lookup x = some .local := by rfl) (hy : X.env.scope.names.lookup y = some .local := by rfl) (hz : X.env.scope.names.lookup z = some .local := by rfl)
    (hw : swappedStores [.Tuple [.Name x px, .Name y py, .Name z pz] kt pt] (.Tuple [a, b, c] k2 pt2) X.env = pure (some [x, y, z]) := by rfl)
    (hs : swapsWithSole [.Tuple [.Name x px, .Name y py, .Name z pz] kt pt] (.Tuple [a, b, c] k2 pt2) pos.line X.env = pure false := by rfl) :
    PS X (.Assign [.Tuple [.Name x px, .Name y py, .Name z pz] kt pt] (.Tuple [a, b, c] k2 pt2) pos) (tS X.K W (gPar3 i j l gs)) := ds_par3 hc hN hi hj hl hij hil hjl hx hy hz ha hw hs
theorem sAug (i : Nat) {f : D → D → Option RV} {op : Operator} (ho : OpR X (inplaceOp op) (rF X.K f)) (hN : X.N.Nodup) (he : PE X e (tV X.K W z)) (hi : X.N[i]? = some x := by rfl) (hx : Loc X.env.scope x := by first | exact Or.inl rfl | exact Or.inr rfl) (hf : X.fn x = true ∨ X.env.scope.names.lookup x = some .local := by first | exact Or.inl rfl | exact Or.inr rfl) :
    PS X (.AugAssign (.Name x p) op e pos) (tS X.K W (gAug i f z)) := ds_aug hN hi hx he ho hf
theorem sApp (i : Nat) {apos cpos : Pos} (he : PE X e (tZ X.K W z)) (hN : X.N[i]? = some x := by rfl) (hv : Vis X.env.scope x := by first | exact Or.inl rfl | exact Or.inr (Or.inl rfl) | exact Or.inr (Or.inr rfl)) (hd : (x == ("__debug__" : Str)) = false := by decide) (hcd : (x == ("__classdict__" : Str)) = false := by decide)
    (hs : swapsWith (.Call (.Attribute (.Name x p) "append" apos) [e] [] cpos) none pos.line X.env = pure false := by rfl)
    (hbase : attributeBase (.Name x p) "append" X.env (eval (.Name x p) X.env) = eval (.Name x p) X.env := by rfl)
    (hfew : ((backTo cpos (starEach [e] X.env)).all (fun x => !x.1) && (backToKw cpos (keywordEach [] X.env)).all (fun x => x.1.isSome)
      && decide (([e] : List Expr).length + ([] : List Keyword).length + (if ([] : List Keyword).isEmpty then 0 else 1) < 30)) = true := by rfl)
    (hline : (apos.endLine == cpos.line) = true := by rfl) (hst : starEach [e] X.env = (false, eval e X.env) :: starEach [] X.env := by rfl) (hplain : (backTo cpos (starEach [] X.env)).any (·.1) = false := by rfl) :
    PS X (.Expr (.Call (.Attribute (.Name x p) "append" apos) [e] [] cpos) pos) (tS X.K W (gApp i z)) := ds_append hN hv hd hcd he hs hbase hfew hline hst hplain
theorem sExt (i : Nat) {apos cpos : Pos} (he : PE X e (tV X.K W z)) (hN : X.N[i]? = some x := by rfl) (hv : Vis X.env.scope x := by first | exact Or.inl rfl | exact Or.inr (Or.inl rfl) | exact Or.inr (Or.inr rfl)) (hd : (x == ("__debug__" : Str)) = false := by decide) (hcd : (x == ("__classdict__" : Str)) = false := by decide)
    (hs : swapsWith (.Call (.Attribute (.Name x p) "extend" apos) [e] [] cpos) none pos.line X.env = pure false := by rfl)
    (hbase : attributeBase (.Name x p) "extend" X.env (eval (.Name x p) X.env) = eval (.Name x p) X.env := by rfl)
    (hfew : ((backTo cpos (starEach [e] X.env)).all (fun x => !x.1) && (backToKw cpos (keywordEach [] X.env)).all (fun x => x.1.isSome)
      && decide (([e] : List Expr).length + ([] : List Keyword).length + (if ([] : List Keyword).isEmpty then 0 else 1) < 30)) = true := by rfl)
    (hline : (apos.endLine == cpos.line) = true := by rfl) (hst : starEach [e] X.env = (false, eval e X.env) :: starEach [] X.env := by rfl) (hplain : (backTo cpos (starEach [] X.env)).any (·.1) = false := by rfl) :
    PS X (.Expr (.Call (.Attribute (.Name x p) "extend" apos) [e] [] cpos) pos) (tS X.K W (gExt i z)) := ds_extend hN hv hd hcd he hs hbase hfew hline hst hplain
theorem sSetAt (i : Nat) {b : Expr} {spos : Pos} (he : PE X e (tZ X.K W za)) (hi : PE X b (tV X.K W zi)) (hN : X.N[i]? = some x := by rfl) (hv : Vis X.env.scope x := by first | exact Or.inl rfl | exact Or.inr (Or.inl rfl) | exact Or.inr (Or.inr rfl)) (hd : (x == ("__debug__" : Str)) = false := by decide) (hcd : (x == ("__classdict__" : Str)) = false := by decide)
    (ha : ∀ v, assign (.Subscript (.Name x p) b spos) X.env v = (do
      let ov ← holding [v] (eval (.Name x p) X.env)
      let iv ← holding [v, ov] (eval b X.env)
      standAt spos
      holding [v, ov, iv] (setItem ov iv v)
      release [v, ov, iv] []) := by intro _; rfl)
    (hs : swapsWithSole [.Subscript (.Name x p) b spos] e pos.line X.env = pure false := by rfl) (hw : swappedStores [.Subscript (.Name x p) b spos] e X.env = pure none := by rfl) (h1 : (assignEach [.Subscript (.Name x p) b spos] X.env).map (·.2) = [assign (.Subscript (.Name x p) b spos) X.env] := by rfl) :
    PS X (.Assign [.Subscript (.Name x p) b spos] e pos) (tS X.K W (gSetAt i za zi)) := ds_setAt hN hv hd hcd he hi ha hs hw h1
theorem sRetV (i : Nat) (hN : X.N[i]? = some x := by rfl) (hv : Vis X.env.scope x := by first | exact Or.inl rfl | exact Or.inr (Or.inl rfl) | exact Or.inr (Or.inr rfl)) (hd : (x == ("__debug__" : Str)) = false := by decide) (hcd : (x == ("__classdict__" : Str)) = false := by decide) :
    PS X (.Return (some (.Name x p)) pos) (tS X.K W (gRetV i)) := ds_retV hN hv hd hcd
theorem sExp (h : PE X e (tD X.K W g)) (hs : swapsWith e none pos.line X.env = pure false := by rfl) : PS X (.Expr e pos) (tS X.K W (gExp g)) := ds_expr h hs
theorem sFor (B : Body X k W) {tg iter : Expr} {s : DL} {gg : TG} {f : GT} {sl : List Nat} (hi : PI X tg iter (tI X.K W s)) (hg : PG X tg gg) (tk : TgOk X.K gg f sl) (hb : PSs X body (tS X.K W b)) (hs : ∀ x, foldedSetIterable iter X.env x = pure x := by intro _; rfl) :
    PS X (.For tg iter body [] pos) (tS X.K W (gFor s f b)) := ds_for B.own B.calm hi hg tk hb hs
theorem sWhl (B : Body X k W) {c : Expr} {tc : DT} (fuel : DSt → Nat) (hc : PT X c (tT X.K W tc)) (hb : PSs X body (tS X.K W b)) : PS X (.While c body [] pos) (tS X.K W (gWhile tc b fuel)) := ds_while B.own hc hb
/-! comprehensions -/
theorem lc {elt tg iter : Expr} {ifs : List Expr} {scope : Scope} (own : List (Str × Nat)) {s : DL} {gg : TG} {f : GT} {c : DT} {ze : DZ} {sl : List Nat} (hc : X.calm = true) (hN : X.N.Nodup) (hi : PI X tg iter (tI X.K W s)) (tk : TgOk X.K gg f sl)
    (hg : ∀ (s : Shared) (H : Hp) (C : Addr) (cl : List (Str × Addr)) (fp : List Addr), PG (X.blk s H scope (compEnvC scope cl C X.env) fp) tg gg) (ht : ∀ (s : Shared) (H : Hp) (C : Addr) (cl : List (Str × Addr)) (fp : List Addr), PTs (X.blk s H scope (compEnvC scope cl C X.env) fp) ifs (tT X.K W0 c))
    (he : ∀ (s : Shared) (H : Hp) (C : Addr) (cl : List (Str × Addr)) (fp : List Addr), PE (X.blk s H scope (compEnvC scope cl C X.env) fp) elt (tZ X.K W0 ze))
    (ok : blkC X.N X.env.scope scope own = true := by kernel_rfl) (hsl : ∀ j ∈ sl, j ∈ own.map (·.2) := by decide) (hs : ∀ x, foldedSetIterable iter X.env x = pure x := by intro _; rfl) :
    PE X (.ListComp elt [⟨tg, iter, ifs, 0⟩] scope pos) (tD X.K W (gLc s (own.map (·.2)) f c ze)) := de_lc hc hN hi (blkOk_by ok) tk hsl hg ht he hs
theorem sSetLc (i : Nat) {elt tg iter : Expr} {ifs : List Expr} {scope : Scope} {y : Str} {py spos : Pos} (own : List (Str × Nat)) {s : DL} {gg : TG} {f : GT} {c : DT} {ze : DZ} {sl : List Nat} (hc : X.calm = true) (hN : X.N.Nodup) (hi : PI X tg iter (tI X.K W s)) (tk : TgOk X.K gg f sl)
    (hg : ∀ (s : Shared) (H : Hp) (C : Addr) (cl : List (Str × Addr)) (fp : List Addr), PG (X.blk s H scope (compEnvC scope cl C X.env) fp) tg gg) (ht : ∀ (s : Shared) (H : Hp) (C : Addr) (cl : List (Str × Addr)) (fp : List Addr), PTs (X.blk s H scope (compEnvC scope cl C X.env) fp) ifs (tT X.K W0 c))
    (he : ∀ (s : Shared) (H : Hp) (C : Addr) (cl : List (Str × Addr)) (fp : List Addr), PE (X.blk s H scope (compEnvC scope cl C X.env) fp) elt (tZ X.K W0 ze))
    (hy : X.N[i]? = some y := by rfl) (hyl : X.env.scope.names.lookup y = some .local := by rfl) (hsw : swapsWith (.ListComp elt [⟨tg, iter, ifs, 0⟩] scope pos) (some (.Name y py)) spos.line X.env = pure true := by rfl)
    (ok : blkC X.N X.env.scope scope own = true := by kernel_rfl) (hsl : ∀ j ∈ sl, j ∈ own.map (·.2) := by decide) (hs : ∀ x, foldedSetIterable iter X.env x = pure x := by intro _; rfl) :
    PS X (.Assign [.Name y py] (.ListComp elt [⟨tg, iter, ifs, 0⟩] scope pos) spos) (tS X.K W (gSet i (gLc s (own.map (·.2)) f c ze))) := ds_setLc hc hN hy hyl hsw hi (blkOk_by ok) tk hsl hg ht he hs
/-! slices -/
theorem sli {lo hi : Option Expr} {gl gh : DP} {p2 : Pos} (he : PE X e (tV X.K W z)) (hl : PO X lo (tP X.K W gl)) (hu : PO X hi (tP X.K W gh)) : PE X (.Subscript e (.Slice lo hi none p2) pos) (tD X.K W (gSlice z gl gh)) := de_slice he hl hu
end
end Dn
end

section
set_option maxHeartbeats 4000000
-- Dn22
/-! Dn22: constants of the module, a minus, one class caught -/
namespace Dn
open PySem PySem.Spec L2
section
variable {X : Cx} {W : WX} {x : Str} {v : V} {d : D} {e : Expr} {z : DZ} {pos : Pos}
theorem gl (h : ∃ u, X.mg x = some u ∧ RelV v u) (hd : ∀ F r, Dat X.K F r d v) (hg : Gl X x := by rfl) (hdb : (x == ("__debug__" : Str)) = false := by decide) : PE X (.Name x pos) (tD X.K W (gC d)) := by
  obtain ⟨u, h1, h2⟩ := h
  exact de_glob hg h1 h2 hd hdb
def gNeg (z : DZ) : DE := fun st => (z st).bind fun d st => match d with
  | .int i => .ok (.sh (.int (-i))) st
  | _ => .no
theorem de_neg (he : PE X e (tV X.K W z)) : PE X (.UnaryOp .USub e pos) (tD X.K W (gNeg z)) := by
  refine PE.imp (pe_un un_neg he) fun σ H Q ⟨t, st, r, q⟩ => ?_
  refine tG_at r q fun t1 st1 H1 d v E1 R1 p1 q1 => ?_
  cases d with
  | int i => exact ⟨i, p1, q1 t1 H1 (.int (-i)) E1 R1 (by show Dat _ _ _ _ _; rw [Dat])⟩
  | _ => exact q1.elim
end
/-! {} -/
def gDict0 : DE := fun st => .ok (.ow (.dct [])) st
theorem de_dict0 {X : Cx} {W : WX} {pos : Pos} : PE X (.Dict [] [] pos) (tD X.K W gDict0) := PE.imp pe_dnewK fun σ H Q ⟨t, st, r, q⟩ => by
  intro p hp
  obtain ⟨E1, R1, n1⟩ := r.laid (o := .dK []) hp
  exact q t _ (.ref p) E1 R1 ⟨p, rfl, fun _ => hp, n1, [], upd_same, by rw [Datk]⟩
/-! a op b op c as a value -/
def tVal2 (ta : TE) (r1 : R2) (tb : TE) (r2 : R2) (tc : TE) : TE := fun σ H Q => ta σ H fun x H1 => tb σ H1 fun y H2 => r1 x y H2 fun z H3 => ∃ k, z = .bl k ∧ (if k = true then tc σ H3 fun u H4 => r2 y u H4 Q else Q (.bl false) H3)
theorem pe_cmp2 {X : Cx} {a b c : Expr} {o1 o2 : CmpOp} {ta tb tc : TE} {r1 r2 : R2} {pos : Pos} (h1 : OpR X (compareOp o1) r1) (h2 : OpR X (compareOp o2) r2) (ha : PE X a ta) (hb : PE X b tb) (hc : PE X c tc) (hm : lastMarks [o1, o2] [b, c] = false) : PE X (.Compare a [o1, o2] [b, c] pos) (tVal2 ta r1 tb r2 tc) := by
  refine ⟨fun pins s σ H Q I h => PyProof.Rows.Compare_chain ?_ hm⟩
  refine thn (ha.run pins s σ H _ I h) fun v s1 ⟨x, H1, I1, rx, q1⟩ => PyProof.Rows.chain_link ?_
  refine thn (hb.run pins s1 σ H1 _ I1 q1) fun u s2 ⟨y, H2, I2, ry, q2⟩ => ?_
  refine thn (h1 pins s2 σ H2 x y v u _ I2 rx ry q2) fun c1 s3 ⟨z, H3, I3, rz, k, ez, q3⟩ => ?_
  subst ez
  cases rz
  refine wpAny_truthy_bool ?_
  cases k with
  | false => exact ⟨.bl false, H3, I3, rfl, q3⟩
  | true => exact PyProof.Rows.chain_last (thn (hc.run pins s3 σ H3 _ I3 q3) fun w s4 ⟨u', H4, I4, ru, q4⟩ => h2 pins s4 σ H4 y u' u w Q I4 ry ru q4)
def gVal2 (f1 f2 : D → D → Option RV) (za zb zc : DZ) : DE := fun st => (za st).bind fun a st => (zb st).bind fun b st => match f1 a b with
  | some (.sh (.bl true)) => (zc st).bind fun c st => opt (f2 b c) st
  | some (.sh (.bl false)) => .ok (.sh (.bl false)) st
  | _ => .no
section
variable {X : Cx} {W : WX} {a b c : Expr} {za zb zc : DZ} {f1 f2 : D → D → Option RV} {o1 o2 : CmpOp} {pos : Pos}
theorem cmp2 (h1 : OpR X (compareOp o1) (rF X.K f1)) (h2 : OpR X (compareOp o2) (rF X.K f2)) (ha : PE X a (tV X.K W za)) (hb : PE X b (tV X.K W zb)) (hc : PE X c (tV X.K W zc)) (hm : lastMarks [o1, o2] [b, c] = false := by rfl) : PE X (.Compare a [o1, o2] [b, c] pos) (tD X.K W (gVal2 f1 f2 za zb zc)) := by
  refine PE.imp (pe_cmp2 h1 h2 ha hb hc hm) fun σ H Q ⟨t, st, r, q⟩ => ?_
  refine tG_at r q fun t1 st1 H1 x v E1 R1 p1 q1 => ?_
  refine tG_at R1 (Res.step0 E1 q1) fun t2 st2 H2 y u E2 R2 p2 q2 => ?_
  have p1 : Vw X.K t2 H2 x v := Vw.step E2 p1
  have q2 := Res.step0 E2 q2
  refine ⟨t2, x, y, R2.tagOk, p1, p2, ?_⟩
  split at q2
  · rename_i e1
    rw [e1]
    intro t3 H3 z G3 pz
    have R3 := G3.st _ _ R2
    have pz : Dat X.K (fz t3 H3) (rho t3) (.bl true) z := pz
    rw [Dat] at pz
    refine ⟨true, pz, ?_⟩
    rw [if_pos rfl]
    refine tG_at R3 (Res.step0 G3.ext q2) fun t4 st4 H4 w u4 E4 R4 p4 q4 => ?_
    exact ⟨t4, y, w, R4.tagOk, Vw.step (G3.ext.trans E4) p2, p4, res_opt R4 (Res.step0 E4 q4)⟩
  · rename_i e1
    rw [e1]
    intro t3 H3 z G3 pz
    have pz : Dat X.K (fz t3 H3) (rho t3) (.bl false) z := pz
    rw [Dat] at pz
    refine ⟨false, pz, ?_⟩
    rw [if_neg Bool.false_ne_true]
    exact q2 t3 H3 (.bl false) G3.ext (G3.st _ _ R2) (by show Dat _ _ _ _ _; rw [Dat])
  · exact q2.elim
end
def mt1 (cn : Str) : Mt := fun c => if c = cn then some true else none
theorem mt1_ok {K : PySem.W.Frag} {cn : Str} (h : PySem.W.exmOne K (.ref (He.ga K cn)) (.ref (He.ga K cn)) = some true) (c : Str) (b : Bool) (e : mt1 cn c = some b) : PySem.W.exmOne K (.ref (He.ga K c)) (.ref (He.ga K cn)) = some b := by
  unfold mt1 at e
  split at e
  · rename_i hc
    cases e
    rw [hc]; exact h
  · cases e
end Dn
end

section
set_option maxHeartbeats 4000000
-- Dn23
/-! Dn23: the head's facts for these texts: own exceptions too -/
namespace Dn
open PySem PySem.Spec L2 He
open PySem.W (Frag)
def oexB (K : Frag) (C : Addr) : Bool := match K.lookup C with
  | some ⟨.type "type", _, .cls cd, sl⟩ => (match cd.mro, sl.toList with
    | .ref C' :: bm, [_, _, _, _, some (.builtin n), _] => C' == C && (n == "ValueError.__new__" && (!cd.hasDel && (cd.hasDict && PySem.HandSPX.refsVE bm)))
    | _, _ => false)
  | _ => false
theorem oexB_ok {K : Frag} {C : Addr} (q : oexB K C = true) : ∃ nm q N bs bm sn sub ab col dd k0 k1 k2 k3 k5, K.lookup C = some (excClassObj nm q C N bs bm true sn sub ab col dd k0 k1 k2 k3 k5 "ValueError.__new__") ∧ PySem.HandSPX.refsVE bm = true := by
  unfold oexB at q
  split at q
  · rename_i dd cd sl ho
    split at q
    · rename_i C' bm k0 k1 k2 k3 n k5 hm hs
      simp only [Bool.and_eq_true, beq_iff_eq, Bool.not_eq_true'] at q
      obtain ⟨rfl, rfl, hdel, hdict, hv⟩ := q
      obtain ⟨nm, bs, mro, ns, qn, hd, sn, sub, ab, col, del⟩ := cd
      dsimp only at hm hdel hdict
      subst hm hdel hdict
      obtain ⟨l⟩ := sl
      dsimp only at hs
      subst hs
      exact ⟨nm, qn, ns, bs, bm, sn, sub, ab, col, dd, k0, k1, k2, k3, k5, ho, hv⟩
    · cases q
  · cases q
/-- all that is asked of the exception class C, whose __init__ is D's -/
def xclsB (K : Frag) (D C : Addr) : Bool := oexB K C && (eqO (PySem.W.findIn K (.ref C) "__setattr__") (some (some (.builtin "object.__setattr__"))) && (decide (PySem.W.subIn K (.ref C) (.type "BaseException") = some true) && (decide (PySem.W.typeIn K (.ref C) = some (.type "type")) && (PySem.W.keepIn K (.ref C) &&
  (eqO (PySem.W.ks_superIn K C D "__init__") (some (some (.builtin "ValueError.__init__"))) && ((PySem.W.clsIn K D).isSome && (decide (PySem.W.mroIn K C (.ref D) = some true) && (decide (PySem.W.subIn K (.ref C) (.type "ValueError") = some true) && (eqO (PySem.W.findIn K (.ref C) "value") (some none) &&
  (eqO (PySem.W.findIn K (.ref C) "__init__") (some (some (.ref (ma K D "__init__")))) && (xfB K C && decide (PySem.W.exmOne K (.ref C) (.ref C) = some true))))))))))))
theorem xclsB_ok {K : Frag} {D C : Addr} (h : xclsB K D C = true) : XCls K C D (ma K D "__init__") ∧ XfC K C ∧ PySem.W.exmOne K (.ref C) (.ref C) = some true := by
  obtain ⟨h1, h⟩ := ba h
  obtain ⟨h2, h⟩ := ba h
  obtain ⟨h3, h⟩ := ba h
  obtain ⟨h4, h⟩ := ba h
  obtain ⟨h5, h⟩ := ba h
  obtain ⟨h6, h⟩ := ba h
  obtain ⟨h7, h⟩ := ba h
  obtain ⟨h8, h⟩ := ba h
  obtain ⟨h9, h⟩ := ba h
  obtain ⟨h10, h⟩ := ba h
  obtain ⟨h11, h⟩ := ba h
  obtain ⟨h12, h13⟩ := ba h
  exact ⟨⟨⟨oexB_ok h1, eqO_ok h2, of_decide_eq_true h3, of_decide_eq_true h4, h5⟩, eqO_ok h6, h7, of_decide_eq_true h8, of_decide_eq_true h9, eqO_ok h10, eqO_ok h11⟩, xfB_ok h12, of_decide_eq_true h13⟩
/-! ### that __init__ -/
def iniB (P : Program) (K : Frag) (D : Addr) : Bool := match K.lookup (ma K D "__init__") with
  | some ⟨_, _, .func fd, _⟩ => (match fd.defaults, fd.closure, fd.code with
    | .none, [(n, cc)], .ref cda => n == ("__class__" : Str) && (PySem.W.codeIn K (.ref cda) fd.qualname && ((match K.lookup cc with
      | some ⟨_, _, .cell (some (.ref d)), _⟩ => d == D
      | _ => false) && (match K.lookup cda with
      | some ⟨_, _, .fields vs, _⟩ => (match (vs[2]? : Option Value) with
        | some (Value.str file _) => (P.main.file : Str) == file
        | _ => false)
      | _ => false)))
    | _, _, _ => false)
  | _ => false
abbrev IniW : Type := Option (Str × Str × Arguments × FuncBody × Scope × Addr × Addr)
def iniW (K : Frag) (D : Addr) : IniW := match K.lookup (ma K D "__init__") with
  | some ⟨_, _, .func fd, _⟩ => some (fd.name, fd.qualname, fd.params, fd.body, fd.scope, fd.globals, fd.builtins)
  | _ => none
/-- what the text says of it -/
structure IniT (name qual : Str) (params : Arguments) (body : List Stmt) (scope : Scope) : Prop where
  bind : ∀ (kV doc pm cdv ct : Value) (an : Option Addr) (cc : Addr) (e v : Value), bindArgs (PySem.W.ksFn name qual params body scope .none kV doc pm an cdv ct cc) ⟨[e, v], []⟩ = pure ([("self", e), ("value", v)] : List (Str × Value))
  cell : ∀ x ∈ scope.names, x.2 ≠ .cell
  co : scope.isCoroutine = false
  gen : scope.isGenerator = false
  kind : scope.kind = .function
  self : scope.names.lookup ("self" : Str) = some .local
  val : scope.names.lookup ("value" : Str) = some .local
  sup : scope.names.lookup ("super" : Str) = some .globalImplicit
  cls : scope.names.lookup ("__class__" : Str) = some .free
  head : ∃ ar, (params.posonlyargs ++ params.args).head? = some ar ∧ ar.arg = ("self" : Str)
  bod : ∃ p0 p1 p2 p3 p4 p5 p6 p7 p8 p9, body = [.Expr (.Call (.Attribute (.Call (.Name "super" p0) [] [] p1) "__init__" p2) [.Name "value" p3] [] p4) p5, .Assign [.Attribute (.Name "self" p6) "value" p7] (.Name "value" p8) p9] ∧ ∃ pl : Sem Bool, ∀ env : Env,
    eval (.Call (.Attribute (.Call (.Name "super" p0) [] [] p1) "__init__" p2) [.Name "value" p3] [] p4) env = (do
      let ov ← attributeBase (.Call (.Name "super" p0) [] [] p1) "__init__" env (eval (.Call (.Name "super" p0) [] [] p1) env)
      standAt p2.atName
      let (f, first) ← holding [ov] (getMethod ov "__init__" pl)
      callWith p4 f first (backTo p4 (starEach [.Name "value" p3] env)) [])
theorem ini_ok {P : Program} {K : Frag} {D : Addr} {name qual : Str} {params : Arguments} {body : List Stmt} {scope : Scope} (T : IniT name qual params body scope) (e : iniW K D = some (name, qual, params, .stmts body, scope, mainGlobals, builtinsNs)) (h : iniB P K D = true)
    (h2 : decide (PySem.W.typeIn K (.ref (ma K D "__init__")) = some (.type "function")) = true) (h3 : eqO (PySem.W.nsIn K cStatics "thirdparty.any") (some none) = true) (h4 : eqO (PySem.W.nsIn K mainGlobals "super") (some none) = true) (top : (P.main.scope.names.lookup ("super" : Str)).isSome = false) :
    XIni P K D (ma K D "__init__") body := by
  refine ⟨?_, of_decide_eq_true h2, eqO_ok h3, eqO_ok h4, top, T.bod⟩
  unfold iniW at e
  unfold iniB at h
  cases q : K.lookup (ma K D "__init__") with
  | none => rw [q] at h; cases h
  | some o =>
    obtain ⟨oc, od, dt, osl⟩ := o
    rw [q] at h e
    cases dt with
    | func fd =>
      obtain ⟨n1, n2, n3, n4, n5, n6, n7, n8, n9, n10, n11, n12, n13, n14, n15⟩ := fd
      have e2 : (some (n1, n2, n3, n4, n5, n6, n15) : IniW) = some (name, qual, params, .stmts body, scope, mainGlobals, builtinsNs) := e
      simp only [Option.some.injEq, Prod.mk.injEq] at e2
      obtain ⟨z1, z2, z3, z4, z5, z6, z8⟩ := e2
      subst z1 z2 z3 z4 z5 z6 z8
      dsimp only at h
      split at h
      · rename_i n cc cda
        obtain ⟨a1, h⟩ := ba h
        obtain ⟨a2, h⟩ := ba h
        obtain ⟨a3, a4⟩ := ba h
        have a1 : n = ("__class__" : Str) := eq_of_beq a1
        subst a1
        split at a3
        · rename_i cl cld d csl lc
          have a3 : d = D := eq_of_beq a3
          subst a3
          split at a4
          · rename_i ccl cdd vs ccs lcd
            split at a4
            · rename_i file tf hv
              exact ⟨oc, od, osl, _, _, _, _, _, n9, n10, n11, n12, cda, n14, cc, rfl, a2, fun e v s => .of_eq (T.bind ..), T.cell, T.co, T.gen, T.kind, T.self, T.val, T.sup, T.cls, T.head, ⟨ccl, cdd, vs, ccs, file, tf, lcd, hv, a4⟩, cl, cld, csl, lc⟩
            · cases a4
          · cases a4
        · cases a3
      · cases h
    | _ => cases h
/-! ### the hook -/
def asX (g : Addr → Option Obj) : Nat → List Addr
  | 0 => [mainGlobals, cStatics]
  | n + 1 => growD g (asX g n)
abbrev AlX : Type := Bool × List FnW × IniW
def obsX (fa : List Fa) (fx : List (Frag → Bool)) (fn : List DefD) (D : Str) (K : Frag) : AlX := ((fa.all fun f => f.ok K) && ((fx.all fun f => f K) && fn.all fun d => d.ok K), fn.map (fun d => fnW K d.at_), iniW K (ga K D))
def valX (fn : List DefD) (v : IniW) : AlX := (true, fn.map DefD.val, v)
def SaysX (fa : List Fa) (fx : List (Frag → Bool)) (fn : List DefD) (D : Str) (v : IniW) (K : Frag) : Prop := obsX fa fx fn D K = valX fn v
def obsXG (n : Nat) (fa : List Fa) (fx : List (Frag → Bool)) (fn : List DefD) (D : Str) (g : Addr → Option Obj) : AlX := obsX fa fx fn D (frG g (asX g n))
def hookX (n : Nat) (fa : List Fa) (fx : List (Frag → Bool)) (fn : List DefD) (D : Str) (v : IniW) : PySem.W.Hook where
  α := AlX
  obs := fun s => obsXG n fa fx fn D s.heap.get?
  val := fun _ => valX fn v
  says := fun _ h => ∃ K : Frag, K.In h ∧ SaysX fa fx fn D v K
  of := fun _ _ e => ⟨_, frG_in, e⟩
  keeps := fun _ _ _ ⟨K, hK, c⟩ k => ⟨K, Frag.In.keeps hK k, c⟩
theorem obsXG_eq {n : Nat} {fa : List Fa} {fx : List (Frag → Bool)} {fn : List DefD} {D : Str} {v : IniW} {g : Addr → Option Obj} {s : Shared} (h : ∀ a, g a = s.heap.get? a) : obsXG n fa fx fn D g = (hookX n fa fx fn D v).obs s := by
  obtain rfl : g = s.heap.get? := funext h
  rfl
section
variable {fa : List Fa} {fx : List (Frag → Bool)} {fn : List DefD} {D : Str} {v : IniW} {K : Frag}
theorem SaysX.fact (c : SaysX fa fx fn D v K) (i : Nat) {f : Fa} (h : fa[i]? = some f := by rfl) : f.ok K = true :=
  List.all_eq_true.mp (ba (show ((fa.all fun f => f.ok K) && ((fx.all fun f => f K) && fn.all fun d => d.ok K)) = true from congrArg (fun z : AlX => z.1) c)).1 f (List.mem_of_getElem? h)
theorem SaysX.xfact (c : SaysX fa fx fn D v K) (i : Nat) {f : Frag → Bool} (h : fx[i]? = some f := by rfl) : f K = true :=
  List.all_eq_true.mp (ba (ba (show ((fa.all fun f => f.ok K) && ((fx.all fun f => f K) && fn.all fun d => d.ok K)) = true from congrArg (fun z : AlX => z.1) c)).2).1 f (List.mem_of_getElem? h)
theorem SaysX.ini (c : SaysX fa fx fn D v K) : iniW K (ga K D) = v := congrArg (fun z : AlX => z.2.2) c
theorem SaysX.def_ (c : SaysX fa fx fn D v K) (i : Nat) {d : DefD} (h : fn[i]? = some d := by rfl) : ∃ fd, FunD K d.name d.qual d.params d.body d.scope (d.dvs K) (d.kws K) (fAd K d.at_) fd := by
  have c2 := (ba (ba (show ((fa.all fun f => f.ok K) && ((fx.all fun f => f K) && fn.all fun d => d.ok K)) = true from congrArg (fun z : AlX => z.1) c)).2).2
  have e : fn.map (fun d => fnW K d.at_) = fn.map DefD.val := congrArg (fun z : AlX => z.2.1) c
  have e2 : (fn.map fun d => fnW K d.at_)[i]? = (fn.map DefD.val)[i]? := by rw [e]
  rw [List.getElem?_map, List.getElem?_map, h] at e2
  exact DefD.funD (Option.some.inj e2) (List.all_eq_true.mp c2 d (List.mem_of_getElem? h))
end
end Dn
end

section
set_option maxHeartbeats 4000000
-- De1
/-! De1: promises in general, the making of instances -/
namespace Dn
open PySem PySem.Spec L2

def FnS (P : Program) (w : World) (K : PySem.W.Frag) (mg : Str → Option Value) (base : Heap) (k : Nat) (f : Addr) (fd : FuncData) (ps : List Str) (sp : Sp) : Prop :=
  ∀ (A : Around) (outer : List Env) (s : Shared) (H : Hp) (args : Args) (us : List Value) (vs : List V) (Q : VK) (E : XK), Room k A → A.guards = some [] → Env0 P w K mg base A outer s H → BindsTo s fd args (ps.zip us) → Vals vs us → sp vs H Q E →
    codeAny (model P w) A (.call (.ref f) args) (CR (CX P w) outer P w H s Q E) s
theorem FnS.mono {P : Program} {w : World} {K : PySem.W.Frag} {mg : Str → Option Value} {base : Heap} {j k : Nat} {f : Addr} {fd : FuncData} {ps : List Str} {sp : Sp} (F : FnS P w K mg base j f fd ps sp) (h : j ≤ k) : FnS P w K mg base k f fd ps sp :=
  fun A outer s H args us vs Q E hr hg => F A outer s H args us vs Q E (hr.mono h) hg
theorem fnS_of {P : Program} {w : World} {K : PySem.W.Frag} {mg : Str → Option Value} {base : Heap} {k : Nat} {f : Addr} {x qual : Str} {params : Arguments} {body : List Stmt} {scope : Scope} {dvs : List V} {kws : List (Str × V)} {fd : FuncData}
    {N ps : List Str} {g : DS} {sp : Sp} (F : FunD K x qual params body scope dvs kws f fd) (S : FnScope N ps scope) (len : ∀ vs H Q E, sp vs H Q E → vs.length = ps.length)
    (begin_ : ∀ vs H Q (E : XK), sp vs H Q E → tS K (fun cls d _ H => E cls d H) g { nx := fun _ H' => Q .non H', rt := Q } (start N vs) H)
    (hbody : ∀ (cdv : Value) (A : Around) (outer : List Env) (s : Shared) (H : Hp) (E : XK) (W : WX), W = (fun cls d _ H => E cls d H) → Body (cxG P w K mg base N qual scope f cdv A outer s H E) k W →
      PSs (cxG P w K mg base N qual scope f cdv A outer s H E) body (tS K W g)) :
    FnS P w K mg base (k + 1) f fd ps sp := by
  obtain ⟨oc, od, dV, kV, doc, pm, an, cdv, ct, osl, rfl, lk, hcd, _, _⟩ := F.ex
  intro A outer s H args us vs Q E room gd env0 hbind vals want
  have hlen : vs.length = ps.length := len _ _ _ _ want
  have stay : ∀ b o, base.get? b = some o → s.heap.get? b = some o := fun b o e => (env0.bs b o e).1
  have inS : K.In s.heap := env0.mod.kin.keeps stay
  have noLim : s.heap.NoLimit := env0.mod.nolimit.keeps stay
  refine codeAny_call_function room.depth (inS _ _ lk) rfl S.co S.gen rfl (PySem.W.codeRec_of inS hcd) (hbind _ _ _ _ ?_)
  refine wpAny_newFunctionEnv_cells S.kind (fun y hy => ?_) fun env he s1 x => ?_
  · obtain ⟨n, v⟩ := y
    exact (S.par n (List.of_mem_zip hy).1).imp id fun q => ⟨q, PySem.W.cellsFrom_some _ _ _ (.inl q)⟩
  subst he
  refine ⟨noLim.keeps x.toInCall.keep, codeAny_func ?_⟩
  have inv : Inv (cxG P w K mg base N qual scope f cdv A outer s H E) [] (start N vs) H s1 := inv_start S room.hd env0 hlen vals x
  have bd : Body (cxG P w K mg base N qual scope f cdv A outer s H E) k (fun cls d _ H => E cls d H) := ⟨room.deeper _, gd, rfl, passes_of rfl, takes_of rfl rfl rfl rfl, fun _ => rfl, rfl, rfl, rfl⟩
  have run := (hbody cdv A outer s H E _ rfl bd).run [] s1 (start N vs) H _ inv (begin_ _ _ _ _ want)
  refine wpAny_mono run (fun fl s' hs => ?_) fun e s' hs => hs
  match fl, hs with
  | .ret u, ⟨v, σ', H', J, rv, q⟩ => exact ⟨v, H', J.os, J.bare, J.base, J.hok, rv, q⟩
  | .next, ⟨σ', H', J, q⟩ => exact ⟨V.non, H', J.os, J.bare, J.base, J.hok, (rfl : Value.none = Value.none), q⟩
  | .brk, ⟨_, _, _, q⟩ => exact False.elim q
  | .cont, ⟨_, _, _, q⟩ => exact False.elim q

/-! ### __init__ -/
def ResIn (K : PySem.W.Frag) (Q : VK) (E : XK) (t : Tags) (H : Hp) (x : Addr) : FOut → Prop
  | .ok (.ow o) S' => ∀ t' H', ExtW t H t' H' → R0 K t' S' H' → t' x = .cell none → ObjAt K (fz t' H') (rho t') H' x o → Q .non H'
  | .ok _ _ => False
  | .ex c y S' => ∀ t' H' d, ExtW t H t' H' → R0 K t' S' H' → ExAt K t' H' d y → E (.ref (He.ga K c)) (some d) H'
  | .no => False
def spI (K : PySem.W.Frag) (n : Nat) (o0 : OD) (m : Fm) : Sp := fun vs H Q E => ∃ t S ds x ws, vs = .ref x :: ws ∧ R0 K t S H ∧ t x = .cell none ∧ ObjAt K (fz t H) (rho t) H x o0 ∧ Dats K (fz t H) (rho t) ds ws ∧ ds.length + 1 = n ∧ ResIn K Q E t H x (m ds S)
theorem spI.len {K : PySem.W.Frag} {n : Nat} {o0 : OD} {m : Fm} {vs : List V} {H : Hp} {Q : VK} {E : XK} (h : spI K n o0 m vs H Q E) : vs.length = n := by
  obtain ⟨t, S, ds, x, ws, rfl, _, _, _, d, l, _⟩ := h
  rw [List.length_cons, ← d.length, l]
def endI (st : DSt) : FOut := match (st.env[0]? : Option (Option RV)) with
  | some (some (RV.me o)) => .ok (.ow o) st.S
  | _ => .no
def outI : OutS → FOut
  | .nx st => endI st
  | .rt (.sh .non) st => endI st
  | .ex c x st => .ex c x st.S
  | _ => .no
def fmI (n : Nat) (o0 : OD) (g : DS) : Fm := fun ds S => outI (g ⟨some (.me o0) :: (ds.map (fun d => some (.sh d)) ++ List.replicate (n - 1 - ds.length) none), S⟩)
theorem endI_of {K : PySem.W.Frag} {Q : VK} {E : XK} {t t' : Tags} {H H' : Hp} {x : Addr} {st : DSt} {σ' : L2.St} (q : ResIn K Q E t H x (endI st)) (hx : t x = .cell none) (E' : ExtW t H t' H') (R' : R K t' st σ' H') : Q .non H' := by
  unfold endI at q
  split at q
  · rename_i o e
    have hx' := E'.cel x none hx
    obtain ⟨v, ev, a, ea, ha, ho, _⟩ := R'.env 0 _ e
    have e2 := R'.r0.one a x ha hx'
    subst e2
    exact q t' H' E' R'.r0 hx' ho
  · exact q.elim
theorem bodyI_of {K : PySem.W.Frag} {E : XK} {Q : VK} {N : List Str} {n : Nat} {o0 : OD} {g : DS} {vs : List V} {H : Hp} (h : spI K n o0 (fmI N.length o0 g) vs H Q E) : tS K (fun cls d _ H => E cls d H) g { nx := fun _ H' => Q .non H', rt := Q } (start N vs) H := by
  obtain ⟨t, S, ds, x, ws, rfl, r0, hx, ob, dd, l, q⟩ := h
  have len : (some (RV.me o0) :: (ds.map (fun d => some (RV.sh d)) ++ List.replicate (N.length - 1 - ds.length) none)).length = (start N (.ref x :: ws)).length := by
    unfold L2.start
    simp [dd.length]
    omega
  refine ⟨t, ⟨some (.me o0) :: (ds.map (fun d => some (.sh d)) ++ List.replicate (N.length - 1 - ds.length) none), S⟩, ⟨r0, len, fun i y e => ?_⟩, ?_⟩
  · cases i with
    | zero =>
      have e : some (some (RV.me o0)) = some (some y) := e
      cases e
      exact ⟨.ref x, rfl, x, rfl, hx, ob, rfl⟩
    | succ i =>
      have e : (ds.map (fun d => some (RV.sh d)) ++ List.replicate (N.length - 1 - ds.length) none)[i]? = some (some y) := e
      by_cases hi : i < ds.length
      · rw [List.getElem?_append_left (by simpa using hi), List.getElem?_map] at e
        obtain ⟨d, hd, e2⟩ := Option.map_eq_some_iff.mp e
        cases e2
        obtain ⟨v, hv, dv⟩ := dd.get hd
        refine ⟨v, ?_, dv⟩
        unfold L2.start
        show (ws.map some ++ List.replicate _ none)[i]? = _
        rw [List.getElem?_append_left (by rw [List.length_map, ← dd.length]; exact hi), List.getElem?_map, hv]
        rfl
      · rw [List.getElem?_append_right (by simpa using hi), List.getElem?_replicate] at e
        split at e <;> cases e
  · unfold fmI at q
    cases e : g ⟨some (.me o0) :: (ds.map (fun d => some (.sh d)) ++ List.replicate (N.length - 1 - ds.length) none), S⟩ with
    | nx st =>
      rw [e] at q
      exact fun t' σ' H' E' R' => endI_of q hx E' R'
    | rt rv st =>
      rw [e] at q
      intro t' σ' H' v E' R' p
      have q : ResIn K Q E t H x (outI (.rt rv st)) := q
      cases rv with
      | sh d =>
        cases d with
        | non =>
          have p : Dat K (fz t' H') (rho t') .non v := p
          rw [Dat] at p
          subst p
          exact endI_of q hx E' R'
        | _ => exact q.elim
      | ow o => exact q.elim
      | me o => exact q.elim
    | ex c y st =>
      rw [e] at q
      exact fun t' σ' H' d E' R' p => q t' H' d E' R'.r0 p
    | bk _ => rw [e] at q; exact q.elim
    | ct _ => rw [e] at q; exact q.elim
    | no => rw [e] at q; exact q.elim
theorem fmI_own {n : Nat} {o0 : OD} {g : DS} (ds : List D) (S : List OD) (r : RV) (S' : List OD) (h : fmI n o0 g ds S = .ok r S') : ∃ o, r = .ow o := by
  unfold fmI at h
  have key : ∀ st, endI st = .ok r S' → ∃ o, r = .ow o := fun st h => by
    unfold endI at h
    split at h
    · cases h; exact ⟨_, rfl⟩
    · cases h
  unfold outI at h
  split at h
  · exact key _ h
  · exact key _ h
  · cases h
  · cases h
abbrev FnI (P : Program) (w : World) (K : PySem.W.Frag) (mg : Str → Option Value) (base : Heap) (k : Nat) (f : Addr) (fd : FuncData) (ps : List Str) (o0 : OD) (m : Fm) : Prop := FnS P w K mg base k f fd ps (spI K ps.length o0 m)
theorem fnI_of {P : Program} {w : World} {K : PySem.W.Frag} {mg : Str → Option Value} {base : Heap} {k : Nat} {f : Addr} {x qual : Str} {params : Arguments} {body : List Stmt} {scope : Scope} {dvs : List V} {kws : List (Str × V)} {fd : FuncData}
    {N ps : List Str} {g : DS} {o0 : OD} (F : FunD K x qual params body scope dvs kws f fd) (S : FnScope N ps scope)
    (hbody : ∀ (cdv : Value) (A : Around) (outer : List Env) (s : Shared) (H : Hp) (E : XK) (W : WX), W = (fun cls d _ H => E cls d H) → Body (cxG P w K mg base N qual scope f cdv A outer s H E) k W →
      PSs (cxG P w K mg base N qual scope f cdv A outer s H E) body (tS K W g)) :
    FnI P w K mg base (k + 1) f fd ps o0 (fmI N.length o0 g) := fnS_of F S (fun _ _ _ _ h => h.len) (fun _ _ _ _ h => bodyI_of h) hbody

/-! ### C(..) -/
theorem R0.tagMe {K : PySem.W.Frag} {t : Tags} {S : List OD} {H : Hp} {a : Addr} (r : R0 K t S H) (no : ∀ b, t b ≠ .cell none) (n : t a = .non) (hs : H a ≠ none) : R0 K (setT t a (.cell none)) S H where
  tag := fun b h => by
    by_cases e : b = a
    · rw [e]; exact hs
    · rw [setT_ne e] at h; exact r.tag b h
  cel := fun k o h => by
    obtain ⟨b, h1, h2, h3⟩ := r.cel k o h
    have ne : b ≠ a := fun e => by rw [e, n] at h1; cases h1
    refine ⟨b, by rw [setT_ne ne]; exact h1, fun b' hb' => ?_, h3.mono (le_untag (x := .cell none) (by rw [n]; exact nofun) nofun) (rho_retag fun k => by rw [n]; exact nofun) fun _ h => h⟩
    by_cases e : b' = a
    · rw [e, setT_same] at hb'; cases hb'
    · rw [setT_ne e] at hb'; exact h2 b' hb'
  lt := fun b k h => by
    by_cases e : b = a
    · rw [e, setT_same] at h; cases h
    · rw [setT_ne e] at h; exact r.lt b k h
  one := fun b b' h h' => by
    have key : ∀ b, setT t a (.cell none) b = .cell none → b = a := fun b h => by
      by_cases e : b = a
      · exact e
      · rw [setT_ne e] at h; exact absurd h (no b)
    rw [key b h, key b' h']
/-- the rest of the cells when the one's own goes -/
theorem rho_unme {t : Tags} {a : Addr} (h : t a = .cell none) : ∀ k b, rho t k b → rho (setT t a .non) k b := fun k b hb => by
  have ne : b ≠ a := fun e => by
    have hb : t b = .cell (some k) := hb
    rw [e, h] at hb; cases hb
  show setT t a .non b = _
  rw [setT_ne ne]; exact hb
theorem R0.untagMe {K : PySem.W.Frag} {t : Tags} {S : List OD} {H : Hp} {a : Addr} (r : R0 K t S H) (n : t a = .cell none) : R0 K (setT t a .non) S H where
  tag := fun b h => by
    by_cases e : b = a
    · rw [e, setT_same] at h; exact absurd rfl h
    · rw [setT_ne e] at h; exact r.tag b h
  cel := fun k o h => by
    obtain ⟨b, h1, h2, h3⟩ := r.cel k o h
    have ne : b ≠ a := fun e => by rw [e, n] at h1; cases h1
    refine ⟨b, by rw [setT_ne ne]; exact h1, fun b' hb' => ?_, h3.mono (le_untag (x := .non) (by rw [n]; exact nofun) nofun) (rho_unme n) fun _ h => h⟩
    by_cases e : b' = a
    · rw [e, setT_same] at hb'; cases hb'
    · rw [setT_ne e] at hb'; exact h2 b' hb'
  lt := fun b k h => by
    by_cases e : b = a
    · rw [e, setT_same] at h; cases h
    · rw [setT_ne e] at h; exact r.lt b k h
  one := fun b b' h h' => by
    by_cases e : b = a
    · rw [e, setT_same] at h; cases h
    · by_cases e' : b' = a
      · rw [e', setT_same] at h'; cases h'
      · rw [setT_ne e] at h; rw [setT_ne e'] at h'; exact r.one b b' h h'
section
variable {K : PySem.W.Frag} {W : WX} {m : Fm}
/-- what __init__ is asked, from what the caller wants of the new instance: in the heap H2 the new x stands, made o0 -/
theorem make_want {σ : L2.St} {H H2 : Hp} {Q : VK} {t t2 : Tags} {st : DSt} {ds : List D} {vs : List V} {x : Addr} {o0 : OD} (r : R K t st σ H) (d : Dats K (fz t H) (rho t) ds vs) (nx : H x = none) (l : Le H H2)
    (r2 : R0 K t2 st.S H2) (hx : t2 x = .cell none) (ob : ObjAt K (fz t2 H2) (rho t2) H2 x o0) (ht : ∀ a, H a ≠ none → t2 a = unslot t a) (own : ∀ ds S r S', m ds S = .ok r S' → ∃ o, r = .ow o)
    (q : Res K W σ Q (IsRV K) t H (outE (m ds st.S) st)) : spI K (ds.length + 1) o0 m (.ref x :: vs) H2 (fun v H' => v = .non ∧ Q (.ref x) H') (fun cls d H' => W cls d σ H') := by
  have U : ExtW (unslot t) H t2 H2 := {
    frz := fun a h => by
      have n := r.r0.unslot.tag a (by rw [h]; exact nofun)
      refine ⟨by rw [ht a n]; exact h, ?_⟩
      cases e : H a with
      | none => exact absurd e n
      | some o => exact l a o e
    cel := fun a k h => by
      have n := r.r0.unslot.tag a (by rw [h]; exact nofun)
      rw [ht a n]; exact h
    oth := fun a o h e => ⟨by rw [ht a (by rw [e]; exact nofun)]; exact h, l a o e⟩ }
  have D2 : Dats K (fz t2 H2) (rho t2) ds vs := by
    have d0 : Dats K (fz (unslot t) H) (rho (unslot t)) ds vs := by rw [fz_unslot, rho_unslot]; exact d
    exact d0.mono U.le U.rh
  have nonx : unslot t x = .non := by
    cases e : unslot t x with
    | non => rfl
    | _ => exact absurd nx (r.r0.unslot.tag x (by rw [e]; exact nofun))
  refine ⟨t2, st.S, ds, x, vs, rfl, r2, hx, ob, D2, rfl, ?_⟩
  have un : ∀ {t' : Tags} {H' : Hp}, ExtW t2 H2 t' H' → t' x = .cell none → ExtW (unslot t) H (setT t' x .non) H' := fun {t' H'} E' hx' => by
    have U' := U.trans E'
    exact {
      frz := fun a h => by
        obtain ⟨h1, h2⟩ := U'.frz a h
        have ne : a ≠ x := fun e => by rw [e, hx'] at h1; cases h1
        exact ⟨by rw [setT_ne ne]; exact h1, h2⟩
      cel := fun a k h => by
        have h1 := U'.cel a k h
        have ne : a ≠ x := fun e => by
          rw [e, nonx] at h; cases h
        rw [setT_ne ne]; exact h1
      oth := fun a o h e => by
        obtain ⟨h1, h2⟩ := U'.oth a o h e
        have ne : a ≠ x := fun e => by rw [e, hx'] at h1; cases h1
        exact ⟨by rw [setT_ne ne]; exact h1, h2⟩ }
  cases e : m ds st.S with
  | ok rv S' =>
    rw [e] at q
    cases rv with
    | sh _ => obtain ⟨o, z⟩ := own _ _ _ _ e; cases z
    | me _ => obtain ⟨o, z⟩ := own _ _ _ _ e; cases z
    | ow o =>
      intro t' H' E' r' hx' ob'
      have E3 := un E' hx'
      have r3 := r'.untagMe hx'
      obtain ⟨X', RX⟩ := r.call E3 r3
      have p : IsRV K (unslot t) H (setT t' x .non) H' (.ow o) (.ref x) := ⟨x, rfl, fun _ => nx, setT_same, ob'.mono (le_untag (x := .non) (by rw [hx']; exact nofun) nofun) (rho_unme hx') fun _ h => h⟩
      exact ⟨rfl, q _ H' _ X' RX (p.call r.r0 E3)⟩
  | ex c y S' =>
    rw [e] at q
    intro t' H' d' E' r' ⟨u, h1, h2, h3⟩
    have hx' := E'.cel x none hx
    have E3 := un E' hx'
    have r3 := r'.untagMe hx'
    obtain ⟨X', RX⟩ := r.call E3 r3
    obtain ⟨ef, er⟩ := fz_joinT r.r0 E3
    have nd : d' ≠ x := fun z => by rw [z, hx'] at h2; cases h2
    have h2' : setT t' x .non d' = .frz := by rw [setT_ne nd]; exact h2
    refine q _ H' d' X' RX ⟨u, h1, ?_, by rw [ef, er]; exact h3.mono (le_untag (x := .non) (by rw [hx']; exact nofun) nofun) (rho_unme hx')⟩
    have hs : ¬ Own (t d') := fun z => by rw [(own_non r.r0 E3 z).1] at h2'; cases h2'
    rw [joinT_ne hs]
    exact unslot_frz.mpr h2'
  | no => rw [e] at q; exact q.elim
end
end Dn
end

section
set_option maxHeartbeats 4000000
-- De2
/-! De2: C(..) -/
namespace Dn
open PySem PySem.Spec L2
section
variable {X : Cx} {W : WX} {k : Nat} {f C : Addr} {fd : FuncData} {ps : List Str} {m : Fm} {x : Str} {p pos : Pos} {e : Expr} {es : List Expr} {gs : DAs} {cn : Str} {o0 : OD} {sp : Sp}
/-- the def at f runs over values -/
theorem run_S (F : FnS X.prog X.w X.K X.mg X.base k f fd ps sp) {A : Around} (room : Room k A) (gd : A.guards = some []) {pins : List (Addr × Obj)} {σ : L2.St} {H : Hp} {s : Shared} {Q : VK} {us : List Value} {vs : List V} {E : XK}
    (env0 : Env0 X.prog X.w X.K X.mg X.base A X.stack s H) (hb : BindsTo s fd ⟨us, []⟩ (ps.zip us)) (I : Inv X pins σ H s) (r : Vals vs us) (h : sp vs H Q E) (hp : ∀ e s', CX X.prog X.w X.stack H s E e s' → X.xe e s') :
    codeAny (model X.prog X.w) A (.call (.ref f) ⟨us, []⟩) (fun res s' => match res with
      | .error e => X.xe e s'
      | .ok (.ret u) => EP X pins σ Q u s'
      | .ok _ => False) s := by
  refine codeAny_mono (F A X.stack s H ⟨us, []⟩ us vs Q E room gd env0 hb r h) fun res s' hq => ?_
  match res, hq with
  | .error e, hq => exact hp e s' hq
  | .ok (.ret u), hq => exact I.after hq
  | .ok .next, hq => exact False.elim hq
  | .ok .brk, hq => exact False.elim hq
  | .ok .cont, hq => exact False.elim hq
/-- .. C(..): a new instance, its dict, then __init__; H2 is how the new instance is to be seen -/
theorem run_makeI (M : Mk X.K C f) (F : FnS X.prog X.w X.K X.mg X.base k f fd ps sp) (room : Room (k + 1) X.A) (gd : X.A.guards = some []) (hb : Binds X.K fd ps []) {E : XK} (lenS : ∀ vs H Q E, sp vs H Q E → vs.length = ps.length)
    {pins : List (Addr × Obj)} {σ : L2.St} {H : Hp} {s : Shared} {Q : VK} {us : List Value} {vs : List V} (hp : ∀ H s e s', Inv X pins σ H s → CX X.prog X.w X.stack H s E e s' → X.xe e s')
    (I : Inv X pins σ H s) (r : Vals vs us) (see : Addr → Addr → Hp → Hp) (hsee : ∀ x dx s', dx ≠ x → H x = none → H dx = none → Inv X pins σ (upd (upd H dx (.own x)) x (.ins C dx [])) s' → Inv X pins σ (see x dx H) s')
    (h : ∀ x dx, H x = none → H dx = none → dx ≠ x → sp (.ref x :: vs) (see x dx H) (fun v H2 => v = .non ∧ Q (.ref x) H2) E) :
    wpAny (model X.prog X.w) X.A (call (.ref C) us) (EP X pins σ Q) X.xe s := by
  have n1 : H (s.heap.objs.size + 1) = none := I.hok.fresh (Nat.le_succ _)
  have n2 : H s.heap.objs.size = none := I.hok.fresh (Nat.le_refl _)
  have ne : s.heap.objs.size ≠ s.heap.objs.size + 1 := Nat.ne_of_lt (Nat.lt_succ_self _)
  have hq := h _ _ n1 n2 ne
  have I2 := hsee _ _ _ ne n1 n2 (Inv.made (C := C) I)
  have r2 : Vals (V.ref (s.heap.objs.size + 1) :: vs) (Value.ref (s.heap.objs.size + 1) :: us) := .cons rfl r
  have hl : (Value.ref (s.heap.objs.size + 1) :: us).length = ps.length := by
    have e := r2.length
    rw [lenS _ _ _ _ hq] at e
    exact e.symm
  have hb' := hb _ (Value.ref (s.heap.objs.size + 1) :: us) I2.kIn (by rw [List.append_nil]; exact hl)
  rw [List.append_nil] at hb'
  refine wpAny_call (make_map (f := f) I.kIn M.makes M.init (beq_iff_eq.mp M.fn) (codeAny_mono (run_S F (room.make C us []) gd (I2.env0.make C us []) hb' I2 r2 hq (fun e s' c => hp _ _ e s' I2 c)) fun r s' hq' => ?_))
  match r, hq' with
  | .error e, hq' => exact hq'
  | .ok (.ret u), ⟨v, H', I3, rv, ev, q3⟩ =>
    subst ev
    exact ⟨rv, ⟨V.ref (s.heap.objs.size + 1), H', I3, rfl, q3⟩⟩
  | .ok .next, hq' => exact False.elim hq'
  | .ok .brk, hq' => exact False.elim hq'
  | .ok .cont, hq' => exact False.elim hq'
theorem args_then {t : Tags} {st : DSt} {σ : L2.St} {H : Hp} {Q : VK} {n : Nat} (r : R X.K t st σ H) (q : Res X.K W σ Q (IsRV X.K) t H (gFn m (gLen n gs) st)) {P : List V → Hp → Prop}
    (k : ∀ t1 st1 H1 ds vs, R X.K t1 st1 σ H1 → Dats X.K (fz t1 H1) (rho t1) ds vs → ds.length = n → Res X.K W σ Q (IsRV X.K) t1 H1 (outE (m ds st1.S) st1) → P vs H1) : tA X.K W gs (PLz X.K) σ H P := by
  have q : Res X.K W σ Q (IsRV X.K) t H (((gs st).bind fun ds st => if ds.length = n then .ok ds st else .no).bind fun ds st => outE (m ds st.S) st) := q
  refine ⟨t, st, r, ?_⟩
  cases eg : gs st with
  | no => rw [eg] at q; exact q
  | ex c x st' => rw [eg] at q; exact q
  | ok ds st1 =>
    rw [eg] at q
    intro t1 H1 vs E1 R1 p1
    have q1 : Res X.K W σ Q (IsRV X.K) t H ((if ds.length = n then Out.ok ds st1 else Out.no).bind fun ds st => outE (m ds st.S) st) := q
    by_cases hl : ds.length = n
    · rw [if_pos hl] at q1
      exact k t1 st1 H1 ds vs R1 p1 hl (Res.step0 E1 q1)
    · rw [if_neg hl] at q1; exact q1.elim
theorem le_made {H : Hp} {x dx : Addr} {o u : HO} (nx : H x = none) (nd : H dx = none) (ne : dx ≠ x) : Le H (upd (upd H dx u) x o) :=
  Le.trans (le_upd nd) (le_upd (by rw [upd_ne (Ne.symm ne)]; exact nx))
theorem unslot_of_none {t : Tags} {S : List OD} {H : Hp} {K : PySem.W.Frag} (r : R0 K t S H) {a : Addr} (n : H a = none) : t a = .non := R0.non r n
/-- C(..), C a class whose instances have a dict -/
theorem de_newI {n : Nat} (M : Mk X.K (He.ga X.K cn) f) (F : FnI X.prog X.w X.K X.mg X.base k f fd ps (.ins cn []) m) (own : ∀ ds S r S', m ds S = .ok r S' → ∃ o, r = .ow o) (hn : ps.length = n + 1) (room : Room (k + 1) X.A) (gd : X.A.guards = some []) (tk : Takes X W)
    (hg : Gl X x) (hm : X.mg x = some (.ref (He.ga X.K cn))) (hb : Binds X.K fd ps []) (ha : PA X (e :: es) (tA X.K W gs (PLz X.K))) (hdb : (x == ("__debug__" : Str)) = false := by decide)
    (he : starEach (e :: es) X.env = (false, eval e X.env) :: starEach es X.env := by rfl) (hpl : (backTo pos (starEach es X.env)).any (·.1) = false := by rfl) :
    PE X (.Call (.Name x p) (e :: es) [] pos) (tD X.K W (gFn m (gLen n gs))) := by
  refine ⟨fun pins s σ H Q I ⟨t, st, r, q⟩ => ?_⟩
  have want := args_then r q (P := fun vs H1 => ∀ x dx, H1 x = none → H1 dx = none → dx ≠ x → spI X.K ps.length (.ins cn []) m (.ref x :: vs) (upd (upd H1 dx (.own x)) x (.ins (He.ga X.K cn) dx [])) (fun v H' => v = .non ∧ Q (.ref x) H') (fun cls d H' => W cls d σ H')) fun t1 st1 H1 ds vs R1 d1 hl q1 y dx ny nd ne => by
    rw [hn, ← hl]
    have l := le_made (o := .ins (He.ga X.K cn) dx []) (u := .own y) ny nd ne
    have r0 := R1.r0.unslot.grow l
    have ty : unslot t1 y = .non := R1.r0.unslot.non ny
    have r2 := r0.tagMe (fun _ => unslot_me) ty (by rw [upd_same]; exact nofun)
    refine make_want (x := y) R1 d1 ny l r2 setT_same ⟨dx, [], upd_same, by rw [Datf]⟩ (fun a ha => setT_ne fun e => ha (by rw [e]; exact ny)) own q1
  refine wpAny_Call_Name_kw (ld_glob I hg hm ?_ hdb)
  refine PySem.W.callWith_K (h₀ := X.base) I.ok.mod.kin M.kp (thn (ha.run pos pins s σ H _ I want) fun us s1 ⟨vs, H1, I1, rv, q1⟩ => ⟨I1.kIn, ?_⟩) he hpl
  exact run_makeI (E := fun cls d H' => W cls d σ H') M F room gd hb (fun _ _ _ _ h => h.len) (fun H s e s' I c => tk e s' (XE.of_call I (fun _ _ _ h => h) c)) I1 rv (fun x dx H => upd (upd H dx (.own x)) x (.ins (He.ga X.K cn) dx [])) (fun _ _ _ _ _ _ J => J) q1
/-- how a new instance of a class with slots is seen -/
theorem slt_made {pins : List (Addr × Obj)} {σ : L2.St} {H : Hp} {s : Shared} {a dx : Addr} (I : Inv X pins σ H s) (h : H a = some (.ins C dx [])) : Inv X pins σ (SlX.slH H a C dx []) s := by
  have h0 : SlX.Slt H a C dx [] := .inl ⟨h, rfl⟩
  obtain ⟨_, sl, mA, e, _, _, _⟩ := SlX.slt_at I h0
  exact SlX.inv_slot (t' := s.toks) (h' := s.heap) I h0 (fun _ _ _ _ q => q) (fun _ q => q) e (SlX.SlR.nil _)
/-- C(..), C a class with slots -/
theorem de_newS {n : Nat} (M : Mk X.K (He.ga X.K cn) f) (F : FnI X.prog X.w X.K X.mg X.base k f fd ps (.slt cn []) m) (own : ∀ ds S r S', m ds S = .ok r S' → ∃ o, r = .ow o) (hn : ps.length = n + 1) (room : Room (k + 1) X.A) (gd : X.A.guards = some []) (tk : Takes X W)
    (hg : Gl X x) (hm : X.mg x = some (.ref (He.ga X.K cn))) (hb : Binds X.K fd ps []) (ha : PA X (e :: es) (tA X.K W gs (PLz X.K))) (hdb : (x == ("__debug__" : Str)) = false := by decide)
    (he : starEach (e :: es) X.env = (false, eval e X.env) :: starEach es X.env := by rfl) (hpl : (backTo pos (starEach es X.env)).any (·.1) = false := by rfl) :
    PE X (.Call (.Name x p) (e :: es) [] pos) (tD X.K W (gFn m (gLen n gs))) := by
  refine ⟨fun pins s σ H Q I ⟨t, st, r, q⟩ => ?_⟩
  have want := args_then r q (P := fun vs H1 => ∀ x dx, H1 x = none → H1 dx = none → dx ≠ x → spI X.K ps.length (.slt cn []) m (.ref x :: vs) (SlX.slH (upd (upd H1 dx (.own x)) x (.ins (He.ga X.K cn) dx [])) x (He.ga X.K cn) dx []) (fun v H' => v = .non ∧ Q (.ref x) H') (fun cls d H' => W cls d σ H')) fun t1 st1 H1 ds vs R1 d1 hl q1 y dx ny nd ne => by
    rw [hn, ← hl]
    have eH : SlX.slH (upd (upd H1 dx (.own y)) y (.ins (He.ga X.K cn) dx [])) y (He.ga X.K cn) dx [] = upd (upd H1 dx (.xd [])) y (SlX.SlO y (He.ga X.K cn) dx []) := by
      funext b
      unfold SlX.slH
      by_cases h1 : b = y
      · rw [h1, upd_same, upd_same]
      · by_cases h2 : b = dx
        · rw [h2, upd_ne ne, upd_ne ne, upd_same, upd_same]
        · simp only [upd_ne h1, upd_ne h2]
    rw [eH]
    have l := le_made (o := SlX.SlO y (He.ga X.K cn) dx []) (u := .xd []) ny nd ne
    have r0 := R1.r0.unslot.grow l
    have ty : unslot t1 y = .non := R1.r0.unslot.non ny
    have td : unslot t1 dx = .non := R1.r0.unslot.non nd
    have hd : upd (upd H1 dx (.xd [])) y (SlX.SlO y (He.ga X.K cn) dx []) dx = some (.xd []) := by rw [upd_ne ne, upd_same]
    have r1 := r0.freeze (a := dx) (by rw [td]; exact nofun) (fun k => by rw [td]; exact nofun) (by rw [hd]; exact nofun)
    have nme : ∀ b, setT (unslot t1) dx .frz b ≠ .cell none := fun b => by
      by_cases h : b = dx
      · rw [h, setT_same]; exact nofun
      · rw [setT_ne h]; exact unslot_me
    have r2 := r1.tagMe (a := y) nme (by rw [setT_ne (Ne.symm ne)]; exact ty) (by rw [upd_same]; exact nofun)
    refine make_want (x := y) R1 d1 ny l r2 setT_same ⟨dx, [], upd_same, ?_, by rw [Dato]⟩ (fun a ha => ?_) own q1
    · rw [fz_of (by rw [setT_ne ne, setT_same])]
      exact hd
    · rw [setT_ne fun e => ha (by rw [e]; exact ny), setT_ne fun e => ha (by rw [e]; exact nd)]
  refine wpAny_Call_Name_kw (ld_glob I hg hm ?_ hdb)
  refine PySem.W.callWith_K (h₀ := X.base) I.ok.mod.kin M.kp (thn (ha.run pos pins s σ H _ I want) fun us s1 ⟨vs, H1, I1, rv, q1⟩ => ⟨I1.kIn, ?_⟩) he hpl
  exact run_makeI (E := fun cls d H' => W cls d σ H') M F room gd hb (fun _ _ _ _ h => h.len) (fun H s e s' I c => tk e s' (XE.of_call I (fun _ _ _ h => h) c)) I1 rv (fun x dx H => SlX.slH (upd (upd H dx (.own x)) x (.ins (He.ga X.K cn) dx [])) x (He.ga X.K cn) dx []) (fun x dx s' _ _ _ J => slt_made J upd_same) q1
end
end Dn
end

section
set_option maxHeartbeats 4000000
-- De3
/-! De3: self.f = e within __init__; e.f, e.m(..) -/
namespace Dn
open PySem PySem.Spec L2
def putFD (f : Str) (d : D) : List (Str × D) → List (Str × D)
  | [] => [(f, d)]
  | (g, x) :: r => if g = f then (g, d) :: r else (g, x) :: putFD f d r
def putSD (i : Nat) (d : D) (vs : List D) : List D := (vs ++ List.replicate (i + 1 - vs.length) D.nul).set i d
section
variable {K : PySem.W.Frag} {F : Hp} {r : Nat → Addr → Prop}
theorem Datf.put {f : Str} {d : D} {v : V} (h : Dat K F r d v) : ∀ {fs : List (Str × D)} {us : List (Str × V)}, Datf K F r fs us → Datf K F r (putFD f d fs) (putF f v us)
  | [], us, m => by
    rw [Datf] at m
    subst m
    show Datf K F r [(f, d)] [(f, v)]
    rw [Datf]
    exact ⟨v, [], rfl, h, by rw [Datf]⟩
  | (g, x) :: fs, us, m => by
    rw [Datf] at m
    obtain ⟨w, qs, rfl, m1, m2⟩ := m
    unfold putFD putF
    by_cases e : g = f
    · rw [if_pos e, if_pos e, Datf]
      exact ⟨v, qs, rfl, h, m2⟩
    · rw [if_neg e, if_neg e, Datf]
      exact ⟨w, _, rfl, m1, Datf.put h m2⟩
theorem Datf.length : ∀ {fs : List (Str × D)} {us : List (Str × V)}, Datf K F r fs us → fs.length = us.length
  | [], us, m => by rw [Datf] at m; rw [m]; rfl
  | (g, x) :: fs, us, m => by
    rw [Datf] at m
    obtain ⟨w, qs, rfl, m1, m2⟩ := m
    simp [Datf.length m2]
theorem Datf.get {f : Str} {d : D} : ∀ {fs : List (Str × D)} {us : List (Str × V)}, Datf K F r fs us → fs.lookup f = some d → ∃ v, us.lookup f = some v ∧ Dat K F r d v
  | [], us, m, e => by cases e
  | (g, x) :: fs, us, m, e => by
    rw [Datf] at m
    obtain ⟨w, qs, rfl, m1, m2⟩ := m
    by_cases h : f = g
    · subst h
      rw [List.lookup_cons_self] at e
      cases e
      exact ⟨w, List.lookup_cons_self, m1⟩
    · have hb : (f == g) = false := by simpa using h
      rw [List.lookup_cons, hb] at e
      obtain ⟨v, e1, m3⟩ := Datf.get m2 e
      exact ⟨v, by rw [List.lookup_cons, hb]; exact e1, m3⟩
theorem Datf.none {f : Str} : ∀ {fs : List (Str × D)} {us : List (Str × V)}, Datf K F r fs us → fs.lookup f = none → us.lookup f = none
  | [], us, m, e => by rw [Datf] at m; rw [m]; rfl
  | (g, x) :: fs, us, m, e => by
    rw [Datf] at m
    obtain ⟨w, qs, rfl, m1, m2⟩ := m
    by_cases h : f = g
    · subst h
      rw [List.lookup_cons_self] at e
      cases e
    · have hb : (f == g) = false := by simpa using h
      rw [List.lookup_cons, hb] at e ⊢
      exact Datf.none m2 e
theorem Dato.length : ∀ {ds : List D} {us : List (Option V)}, Dato K F r ds us → ds.length = us.length
  | [], us, m => by rw [Dato] at m; rw [m]; rfl
  | x :: ds, us, m => by
    rw [Dato] at m
    obtain ⟨w, qs, rfl, m1, m2⟩ := m
    simp [Dato.length m2]
theorem Dato.app : ∀ {ds es : List D} {us ws : List (Option V)}, Dato K F r ds us → Dato K F r es ws → Dato K F r (ds ++ es) (us ++ ws)
  | [], es, us, ws, m, n => by rw [Dato] at m; rw [m]; exact n
  | x :: ds, es, us, ws, m, n => by
    rw [Dato] at m
    obtain ⟨w, qs, rfl, m1, m2⟩ := m
    show Dato K F r (x :: (ds ++ es)) (w :: (qs ++ ws))
    rw [Dato]
    exact ⟨w, _, rfl, m1, Dato.app m2 n⟩
theorem Dato.nuls : ∀ n : Nat, Dato K F r (List.replicate n D.nul) (List.replicate n none)
  | 0 => by rw [List.replicate, List.replicate, Dato]
  | n + 1 => by rw [List.replicate_succ, List.replicate_succ, Dato]; exact ⟨none, _, rfl, .inl ⟨rfl, rfl⟩, Dato.nuls n⟩
theorem Dato.set {d : D} {v : V} (h : Dat K F r d v) : ∀ {ds : List D} {us : List (Option V)} (i : Nat), Dato K F r ds us → Dato K F r (ds.set i d) (us.set i (some v))
  | [], us, i, m => by rw [Dato] at m; rw [m]; show Dato K F r [] []; rw [Dato]
  | x :: ds, us, 0, m => by
    rw [Dato] at m
    obtain ⟨w, qs, rfl, m1, m2⟩ := m
    show Dato K F r (d :: ds) (some v :: qs)
    rw [Dato]
    exact ⟨_, _, rfl, .inr ⟨v, rfl, h⟩, m2⟩
  | x :: ds, us, i + 1, m => by
    rw [Dato] at m
    obtain ⟨w, qs, rfl, m1, m2⟩ := m
    show Dato K F r (x :: ds.set i d) (w :: qs.set i (some v))
    rw [Dato]
    exact ⟨w, _, rfl, m1, Dato.set h i m2⟩
theorem Dato.put {d : D} {v : V} (h : Dat K F r d v) {ds : List D} {us : List (Option V)} (i : Nat) (m : Dato K F r ds us) : Dato K F r (putSD i d ds) (SlX.putS i v us) := by
  unfold putSD SlX.putS
  rw [m.length]
  exact Dato.set h i (Dato.app m (Dato.nuls _))
theorem Dato.get {d : D} : ∀ {ds : List D} {us : List (Option V)} {i : Nat}, Dato K F r ds us → ds[i]? = some d → d ≠ .nul → ∃ v, us[i]? = some (some v) ∧ Dat K F r d v
  | [], us, i, m, e, _ => by simp at e
  | x :: ds, us, 0, m, e, n => by
    rw [Dato] at m
    obtain ⟨w, qs, rfl, m1, m2⟩ := m
    simp at e
    subst e
    rcases m1 with ⟨_, z⟩ | ⟨v, rfl, m1⟩
    · exact absurd z n
    · exact ⟨v, rfl, m1⟩
  | x :: ds, us, i + 1, m, e, n => by
    rw [Dato] at m
    obtain ⟨w, qs, rfl, m1, m2⟩ := m
    obtain ⟨v, e1, m3⟩ := Dato.get (i := i) m2 (by simpa using e) n
    exact ⟨v, by simpa using e1, m3⟩
end
/-- what is the one's own is written: the rest stays -/
theorem R.updMe {K : PySem.W.Frag} {t : Tags} {st : DSt} {σ : L2.St} {H H' : Hp} {x : Addr} {o o' : OD} (r : R K t st σ H) (e0 : st.env[0]? = some (some (.me o))) (hs : σ[0]? = some (some (.ref x))) (hx : t x = .cell none) (ne : ∀ b, b ≠ x → H' b = H b) (there : H' x ≠ none)
    (ob : ObjAt K (fz t H') (rho t) H' x o') : ExtW t H t H' ∧ R K t { st with env := st.env.set 0 (some (.me o')) } σ H' := by
  have nx : ∀ b, t b ≠ .cell none → b ≠ x := fun b h e => h (e ▸ hx)
  have le : Le (fz t H) (fz t H') := fun b u h => by
    obtain ⟨h1, h2⟩ := of_fz h
    rw [fz_of h1, ne b (nx b (by rw [h1]; exact nofun))]; exact h2
  refine ⟨⟨fun b hb => ⟨hb, ne b (nx b (by rw [hb]; exact nofun))⟩, fun _ _ h => h, fun b o hb e => ⟨hb, by rw [ne b (nx b (by rw [hb]; exact nofun))]; exact e⟩⟩, ⟨fun b hb => ?_, fun k o' hk => ?_, r.r0.lt, r.r0.one⟩, by simpa using r.len, fun j y h => ?_⟩
  · by_cases e : b = x
    · rw [e]; exact there
    · rw [ne b e]; exact r.r0.tag b hb
  · obtain ⟨b, h1, h2, h3⟩ := r.r0.cel k o' hk
    have nb : b ≠ x := nx b (by rw [h1]; exact nofun)
    exact ⟨b, h1, h2, h3.mono le (fun _ _ h => h) fun o h => by rw [ne b nb]; exact h⟩
  · have h : (st.env.set 0 (some (.me o')))[j]? = some (some y) := h
    by_cases hj : 0 = j
    · subst hj
      have hl : 0 < st.env.length := (List.getElem?_eq_some_iff.mp e0).1
      rw [List.getElem?_set_self hl] at h
      cases h
      exact ⟨.ref x, hs, x, rfl, hx, ob, rfl⟩
    · rw [List.getElem?_set_ne hj] at h
      obtain ⟨v, e, q⟩ := r.env j y h
      refine ⟨v, e, ?_⟩
      cases y with
      | sh d => exact Dat.mono le (fun _ _ h => h) q
      | ow ob =>
        obtain ⟨b, e1, h1, h2⟩ := q
        have nb : b ≠ x := nx b (by rw [h1]; exact nofun)
        exact ⟨b, e1, h1, h2.mono le (fun _ _ h => h) fun o h => by rw [ne b nb]; exact h⟩
      | me ob2 =>
        obtain ⟨b, e1, h1, h2, hi⟩ := q
        exact absurd hi.symm hj
def gSelfI (cs : List Str) (f : Str) (z : DZ) : DS := fun st => (z st).bindS fun d st => match (st.env[0]? : Option (Option RV)) with
  | some (some (RV.me (OD.ins c fs))) => if c ∈ cs ∧ fs.length < 1000 then .nx { st with env := st.env.set 0 (some (.me (.ins c (putFD f d fs)))) } else .no
  | _ => .no
def gSelfS (cs : List Str) (i : Nat) (z : DZ) : DS := fun st => (z st).bindS fun d st => match (st.env[0]? : Option (Option RV)) with
  | some (some (RV.me (OD.slt c vs))) => if c ∈ cs then .nx { st with env := st.env.set 0 (some (.me (.slt c (putSD i d vs)))) } else .no
  | _ => .no
section
variable {X : Cx} {W : WX} {e : Expr} {z : DZ} {x f : Str} {p pos pos' : Pos} {cs : List Str}
theorem ds_selfI (hc : ∀ c ∈ cs, Cls X.K (He.ga X.K c) ∧ NoAttr X.K (He.ga X.K c) f) (he : PE X e (tZ X.K W z)) (hN : X.N[0]? = some x := by rfl) (hv : Vis X.env.scope x := by first | exact Or.inl rfl | exact Or.inr (Or.inl rfl) | exact Or.inr (Or.inr rfl)) (hd : (x == ("__debug__" : Str)) = false := by decide) (hcd : (x == ("__classdict__" : Str)) = false := by decide)
    (hs : swapsWith e (some (.Attribute (.Name x p) f pos')) pos.line X.env = pure false := by rfl) : PS X (.Assign [.Attribute (.Name x p) f pos'] e pos) (tS X.K W (gSelfI cs f z)) := by
  refine PS.imp (ps_fld (pe_var hN hv hd hcd) he hs) fun D σ H ⟨t, st, r, q⟩ => ?_
  refine tG_atS r q fun t1 st1 H1 d y E1 R1 p1 q1 => ?_
  have q2 := ResS.step E1.w q1
  split at q2
  · rename_i c fs e0
    split at q2
    · rename_i hcs
      obtain ⟨v, ev, a, rfl, ha, ⟨dx, us, ho, hf⟩, _⟩ := R1.env 0 _ e0
      obtain ⟨k1, k2⟩ := hc c hcs.1
      refine ⟨.ref a, ev, a, _, dx, us, rfl, ho, k1, k2, by rw [← hf.length]; exact hcs.2, ?_⟩
      have nf : t1 a ≠ .frz := by rw [ha]; exact nofun
      have le : Le (fz t1 H1) (fz t1 (upd H1 a (.ins (He.ga X.K c) dx (putF f y us)))) := fun b u h => by
        obtain ⟨h1, h2⟩ := of_fz h
        have ne : b ≠ a := fun e => nf (by rw [← e]; exact h1)
        rw [fz_of h1, upd_ne ne]; exact h2
      obtain ⟨E2, R2⟩ := R1.updMe (o' := .ins c (putFD f d fs)) (H' := upd H1 a (.ins (He.ga X.K c) dx (putF f y us))) e0 ev ha (fun b nb => upd_ne nb) (by rw [upd_same]; exact nofun) ⟨dx, _, upd_same, (Datf.put p1 hf).mono le fun _ _ h => h⟩
      exact q2 t1 σ _ E2 R2
    · exact q2.elim
  · exact q2.elim
theorem ds_selfS {i : Nat} (hc : ∀ c ∈ cs, SlX.SCls X.K (He.ga X.K c) ∧ ∃ p, SlX.Slot1 X.K (He.ga X.K c) f p i) (he : PE X e (tZ X.K W z)) (hN : X.N[0]? = some x := by rfl) (hv : Vis X.env.scope x := by first | exact Or.inl rfl | exact Or.inr (Or.inl rfl) | exact Or.inr (Or.inr rfl)) (hd : (x == ("__debug__" : Str)) = false := by decide) (hcd : (x == ("__classdict__" : Str)) = false := by decide)
    (hs : swapsWith e (some (.Attribute (.Name x p) f pos')) pos.line X.env = pure false := by rfl) : PS X (.Assign [.Attribute (.Name x p) f pos'] e pos) (tS X.K W (gSelfS cs i z)) := by
  refine PS.imp (SlX.ps_sl (pe_var hN hv hd hcd) he hs) fun D σ H ⟨t, st, r, q⟩ => ?_
  refine tG_atS r q fun t1 st1 H1 d y E1 R1 p1 q1 => ?_
  have q2 := ResS.step E1.w q1
  split at q2
  · rename_i c vs e0
    split at q2
    · rename_i hcs
      obtain ⟨v, ev, a, rfl, ha, ⟨dx, us, ho, hdx, hf⟩, _⟩ := R1.env 0 _ e0
      obtain ⟨k1, pp, k2⟩ := hc c hcs
      refine ⟨.ref a, ev, a, _, dx, pp, us, i, rfl, .inr ⟨ho, (of_fz hdx).2⟩, k1, k2, ?_⟩
      have nf : t1 a ≠ .frz := by rw [ha]; exact nofun
      have nd : dx ≠ a := fun e => nf (e ▸ (of_fz hdx).1)
      have eH : SlX.slH H1 a (He.ga X.K c) dx (SlX.putS i y us) = upd H1 a (SlX.SlO a (He.ga X.K c) dx (SlX.putS i y us)) := by
        funext b
        unfold SlX.slH
        by_cases h1 : b = a
        · rw [h1, upd_same, upd_same]
        · rw [upd_ne h1, upd_ne h1]
          by_cases h2 : b = dx
          · rw [h2, upd_same, (of_fz hdx).2]
          · rw [upd_ne h2]
      rw [eH]
      have le : Le (fz t1 H1) (fz t1 (upd H1 a (SlX.SlO a (He.ga X.K c) dx (SlX.putS i y us)))) := fun b u h => by
        obtain ⟨h1, h2⟩ := of_fz h
        have ne : b ≠ a := fun e => nf (by rw [← e]; exact h1)
        rw [fz_of h1, upd_ne ne]; exact h2
      obtain ⟨E2, R2⟩ := R1.updMe (o' := .slt c (putSD i d vs)) (H' := upd H1 a (SlX.SlO a (He.ga X.K c) dx (SlX.putS i y us))) e0 ev ha (fun b nb => upd_ne nb) (by rw [upd_same]; exact nofun) ⟨dx, _, upd_same, le _ _ hdx, (Dato.put p1 i hf).mono le fun _ _ h => h⟩
      exact q2 t1 σ _ E2 R2
    · exact q2.elim
  · exact q2.elim
end
/-! ### e.f -/
def fldD (cs : List Str) (tab : List (Str × Nat)) (f : Str) : D → Option D
  | .ins c fs => if c ∈ cs then fs.lookup f else none
  | .slt c vs => match tab.lookup c with
    | some i => (match vs[i]? with
      | some .nul => none
      | x => x)
    | none => none
  | _ => none
def gFld (cs : List Str) (tab : List (Str × Nat)) (f : Str) (z : DZ) : DE := fun st => (z st).bind fun d st => match fldD cs tab f d with
  | some x => .ok (.sh x) st
  | none => .no
theorem mem_of_lookup {α β : Type} [BEq α] [LawfulBEq α] {a : α} {b : β} : ∀ {l : List (α × β)}, l.lookup a = some b → (a, b) ∈ l
  | [], h => by cases h
  | (x, y) :: r, h => by
    by_cases e : a = x
    · subst e
      rw [List.lookup_cons_self] at h
      cases h
      exact List.mem_cons_self
    · have hb : (a == x) = false := by simpa using e
      rw [List.lookup_cons, hb] at h
      exact List.mem_cons_of_mem _ (mem_of_lookup h)
section
variable {X : Cx} {W : WX} {e : Expr} {z : DZ} {f : Str} {pos : Pos} {cs : List Str} {tab : List (Str × Nat)}
theorem de_fld (hc : ∀ c ∈ cs, Cls X.K (He.ga X.K c) ∧ NoAttr X.K (He.ga X.K c) f) (ht : ∀ c i, (c, i) ∈ tab → SlX.SCls X.K (He.ga X.K c) ∧ ∃ p, SlX.Slot1 X.K (He.ga X.K c) f p i) (he : PE X e (tV X.K W z)) (hb : attributeBase e f X.env (eval e X.env) = eval e X.env := by rfl) :
    PE X (.Attribute e f pos) (tD X.K W (gFld cs tab f z)) := by
  refine ⟨fun pins s σ H Q I ⟨t, st, r, q⟩ => ?_⟩
  have q : Res X.K W σ Q (IsRV X.K) t H ((z st).bind fun d st => match fldD cs tab f d with
    | some x => .ok (.sh x) st
    | none => .no) := q
  have want : tV X.K W z σ H fun v H1 => ∃ a, v = .ref a ∧ ∃ C, ((∃ dx us v1, H1 a = some (.ins C dx us) ∧ Cls X.K C ∧ NoAttr X.K C f ∧ us.lookup f = some v1 ∧ Q v1 H1) ∨ (∃ dx us p i v1, SlX.Slt H1 a C dx us ∧ SlX.SCls X.K C ∧ SlX.Slot1 X.K C f p i ∧ us[i]? = some (some v1) ∧ Q v1 H1)) := by
    refine tG_at r q fun t1 st1 H1 d v E1 R1 p1 q1 => ?_
    cases d with
    | ins c fs =>
      obtain ⟨a, dx, us, rfl, ho, _, m⟩ := p1
      have q1 : Res X.K W σ Q (IsRV X.K) t H (match (if c ∈ cs then fs.lookup f else none) with
        | some x => .ok (.sh x) st1
        | none => .no) := q1
      by_cases hcs : c ∈ cs
      · rw [if_pos hcs] at q1
        cases el : fs.lookup f with
        | none => rw [el] at q1; exact q1.elim
        | some d1 =>
          rw [el] at q1
          obtain ⟨v1, e1, d2⟩ := m.get el
          exact ⟨a, rfl, _, .inl ⟨dx, us, v1, ho, (hc c hcs).1, (hc c hcs).2, e1, q1 t1 H1 v1 E1 R1 d2⟩⟩
      · rw [if_neg hcs] at q1; exact q1.elim
    | slt c vs =>
      obtain ⟨a, dx, us, rfl, ho, hdx, _, m⟩ := p1
      have q1 : Res X.K W σ Q (IsRV X.K) t H (match (match tab.lookup c with
        | some i => (match vs[i]? with
          | some .nul => none
          | x => x)
        | none => none) with
        | some x => .ok (.sh x) st1
        | none => .no) := q1
      cases el : tab.lookup c with
      | none => rw [el] at q1; exact q1.elim
      | some i =>
        rw [el] at q1
        dsimp only at q1
        obtain ⟨k1, p, k2⟩ := ht c i (mem_of_lookup el)
        cases ei : vs[i]? with
        | none => rw [ei] at q1; exact q1.elim
        | some d1 =>
          rw [ei] at q1
          have nn : d1 ≠ .nul := fun z => by subst z; exact q1.elim
          obtain ⟨v1, e1, d2⟩ := m.get ei nn
          have q1 : Res X.K W σ Q (IsRV X.K) t H (.ok (.sh d1) st1) := by
            cases d1 <;> first | exact absurd rfl nn | exact q1
          exact ⟨a, rfl, _, .inr ⟨dx, us, p, i, v1, .inr ⟨ho, (of_fz hdx).2⟩, k1, k2, e1, q1 t1 H1 v1 E1 R1 d2⟩⟩
    | _ => exact q1.elim
  refine attr_of hb (thn (he.run pins s σ H _ I want) fun u s1 ⟨v, H1, I1, rv, a, ev, C, k⟩ => ?_)
  subst ev
  obtain rfl : u = Value.ref a := rv
  rcases k with ⟨dx, us, v1, ho, c, n, l, q1⟩ | ⟨dx, us, p, i, v1, sl, c, t1, l, q1⟩
  · exact getattr_ok I1 ho c n l fun u' s2 I2 ru => ⟨v1, H1, I2, ru, q1⟩
  · exact SlX.getslot_ok I1 sl c t1 l fun u' s2 I2 ru => ⟨v1, H1, I2, ru, q1⟩
end
end Dn
end

section
set_option maxHeartbeats 4000000
-- De4
/-! De4: methods and properties of instances that stand still -/
namespace Dn
open PySem PySem.Spec L2
def findM (nm : Str) (tabI tabS : List (Str × Fm)) : D → Option Fm
  | .ins c fs => if (fs.lookup nm).isNone then tabI.lookup c else none
  | .slt c _ => tabS.lookup c
  | _ => none
def gMeth (nm : Str) (tabI tabS : List (Str × Fm)) (z : DZ) (gs : DAs) : DE := fun st => (z st).bind fun d st => match findM nm tabI tabS d with
  | some m => (gs st).bind fun ds st => outE (m (d :: ds) st.S) st
  | none => .no
/-- what is asked of a method of a class -/
structure MthI (X : Cx) (k : Nat) (nm : Str) (n : Nat) (c : Str) (m : Fm) : Prop where
  cl : Cls X.K (He.ga X.K c)
  ex : ∃ g fd ps, Meth X.K (He.ga X.K c) nm g ∧ FnG X.prog X.w X.K X.mg X.base k g fd ps m ∧ ps.length = n + 1 ∧ Binds X.K fd ps []
structure MthS (X : Cx) (k : Nat) (nm : Str) (n : Nat) (c : Str) (m : Fm) : Prop where
  cl : SlX.SCls X.K (He.ga X.K c)
  ex : ∃ g fd ps, Meth X.K (He.ga X.K c) nm g ∧ FnG X.prog X.w X.K X.mg X.base k g fd ps m ∧ ps.length = n + 1 ∧ Binds X.K fd ps []
section
variable {X : Cx} {W : WX} {k : Nat} {e : Expr} {es : List Expr} {z : DZ} {gs : DAs} {nm : Str} {n : Nat} {tabI tabS : List (Str × Fm)} {pos apos : Pos} {pl : Sem Bool}
/-- what is known of the receiver, and what its method promises -/
def Recv (X : Cx) (k : Nat) (nm : Str) (n : Nat) (H : Hp) (v : V) (m : Fm) : Prop :=
  ∃ a, v = .ref a ∧ ∃ C, ((∃ dx us, H a = some (.ins C dx us) ∧ Cls X.K C ∧ us.lookup nm = none) ∨ (∃ dx us, SlX.Slt H a C dx us ∧ SlX.SCls X.K C)) ∧
    ∃ g fd ps, Meth X.K C nm g ∧ FnG X.prog X.w X.K X.mg X.base k g fd ps m ∧ ps.length = n + 1 ∧ Binds X.K fd ps []
theorem recv_of (hI : ∀ c m, (c, m) ∈ tabI → MthI X k nm n c m) (hS : ∀ c m, (c, m) ∈ tabS → MthS X k nm n c m) {t : Tags} {H : Hp} {d : D} {v : V} {m : Fm} (h : Dat X.K (fz t H) (rho t) d v) (e : findM nm tabI tabS d = some m) : Recv X k nm n H v m := by
  cases d with
  | ins c fs =>
    rw [Dat] at h
    obtain ⟨a, dx, us, rfl, ho, hm⟩ := h
    have e : (if (fs.lookup nm).isNone then tabI.lookup c else none) = some m := e
    split at e
    · rename_i hn
      have hn : fs.lookup nm = none := by simpa using hn
      have hm' := hI c m (mem_of_lookup e)
      exact ⟨a, rfl, _, .inl ⟨dx, us, (of_fz ho).2, hm'.cl, hm.none hn⟩, hm'.ex⟩
    · cases e
  | slt c vs =>
    rw [Dat] at h
    obtain ⟨a, dx, us, rfl, ho, hdx, hm⟩ := h
    have e : tabS.lookup c = some m := e
    have hm' := hS c m (mem_of_lookup e)
    exact ⟨a, rfl, _, .inr ⟨dx, us, .inr ⟨(of_fz ho).2, (of_fz hdx).2⟩, hm'.cl⟩, hm'.ex⟩
  | _ => cases e
theorem recv_look {H : Hp} {v : V} {u : Value} {m : Fm} {A : Around} {E : Value → Shared → Prop} {pins : List (Addr × Obj)} {σ : L2.St} {s : Shared} {Q : Value × List Value → Shared → Prop} (h : Recv X k nm n H v m) (I : Inv X pins σ H s) (r : RelV v u)
    (q : ∀ g fd ps, PySem.W.keepIn X.K (.ref g) = true → FnG X.prog X.w X.K X.mg X.base k g fd ps m → ps.length = n + 1 → Binds X.K fd ps [] → Q (.ref g, [u]) s) : wpAny (model X.prog X.w) A (getMethod u nm pl) Q E s := by
  obtain ⟨a, rfl, C, hc, g, fd, ps, hm, F, hl, hb⟩ := h
  obtain rfl : u = Value.ref a := r
  have q := q g fd ps hm.kp F hl hb
  rcases hc with ⟨dx, us, ho, c, l⟩ | ⟨dx, us, sl, c⟩
  · exact getmeth_ok I ho c hm l q
  · exact SlX.getmethsl_ok I sl c hm q
theorem de_meth (hI : ∀ c m, (c, m) ∈ tabI → MthI X k nm n c m) (hS : ∀ c m, (c, m) ∈ tabS → MthS X k nm n c m) (room : Room k X.A) (gd : X.A.guards = some []) (tk : Takes X W) (ho : PE X e (tZ X.K W z)) {e1 : Expr} (ha : PA X (e1 :: es) (tA X.K W gs (PLz X.K)))
    (hst : starEach (e1 :: es) X.env = (false, eval e1 X.env) :: starEach es X.env := by rfl) (hpl : (backTo pos (starEach es X.env)).any (·.1) = false := by rfl)
    (ht : eval (.Call (.Attribute e nm apos) (e1 :: es) [] pos) X.env = (do
      let ov ← eval e X.env
      standAt apos.atName
      let (f, first) ← holding [ov] (getMethod ov nm pl)
      callWith pos f first (backTo pos (starEach (e1 :: es) X.env)) (backToKw pos (keywordEach [] X.env))) := by rfl) :
    PE X (.Call (.Attribute e nm apos) (e1 :: es) [] pos) (tD X.K W (gMeth nm tabI tabS z (gLen n gs))) := by
  refine ⟨fun pins s σ H Q I ⟨t, st, r, q⟩ => ?_⟩
  have q : Res X.K W σ Q (IsRV X.K) t H ((z st).bind fun d st => match findM nm tabI tabS d with
    | some m => ((gs st).bind fun ds st => if ds.length = n then .ok ds st else .no).bind fun ds st => outE (m (d :: ds) st.S) st
    | none => .no) := q
  have want : tZ X.K W z σ H fun v H1 => ∃ m, Recv X k nm n H1 v m ∧ tA X.K W gs (PLz X.K) σ H1 fun vs H2 => spD X.K (n + 1) m (v :: vs) H2 Q (fun cls d H' => W cls d σ H') := by
    refine tG_at r q fun t1 st1 H1 d v E1 R1 p1 q1 => ?_
    cases em : findM nm tabI tabS d with
    | none => rw [em] at q1; exact q1.elim
    | some m =>
      rw [em] at q1
      have q2 := Res.step0 E1 q1
      refine ⟨m, recv_of hI hS p1 em, t1, st1, R1, ?_⟩
      cases eg : gs st1 with
      | no => rw [eg] at q2; exact q2
      | ex c x st' => rw [eg] at q2; exact q2
      | ok ds st2 =>
        rw [eg] at q2
        intro t2 H2 vs E2 R2 p2
        have q3 : Res X.K W σ Q (IsRV X.K) t1 H1 ((if ds.length = n then Out.ok ds st2 else Out.no).bind fun ds st => outE (m (d :: ds) st.S) st) := q2
        by_cases hl : ds.length = n
        · rw [if_pos hl] at q3
          exact call_want R2 (Dats.cons (E2.dat p1) p2) (by rw [List.length_cons, hl]) (Res.step0 E2 q3)
        · rw [if_neg hl] at q3; exact q3.elim
  refine PySem.W.methodCall_KW (pl := pl) (thn (ho.run pins s σ H _ I want) fun u s1 ⟨v, H1, I1, rv, m, rc, q1⟩ => ?_) ht
  refine recv_look rc I1 rv fun g fd ps kp F hl hb => ?_
  refine PySem.W.callWith_K (first := [u]) (h₀ := X.base) I1.ok.mod.kin kp (thn (ha.run pos pins s1 σ H1 _ I1 q1) fun us s2 ⟨vs, H2, I2, rr, q2⟩ => ⟨I2.kIn, ?_⟩) hst hpl
  rw [← hl] at q2
  exact run_G (us := u :: us) (vs := v :: vs) F room gd hb (fun _ _ => trivial) (fun e s' c => tk e s' (XE.of_call I2 (fun _ _ _ h => h) c)) I2 (.cons rv rr) q2
/-- o.m() -/
theorem de_meth0 (hI : ∀ c m, (c, m) ∈ tabI → MthI X k nm 0 c m) (hS : ∀ c m, (c, m) ∈ tabS → MthS X k nm 0 c m) (room : Room k X.A) (gd : X.A.guards = some []) (tk : Takes X W) (ho : PE X e (tZ X.K W z))
    (ht : eval (.Call (.Attribute e nm apos) [] [] pos) X.env = (do
      let ov ← eval e X.env
      standAt apos.atName
      let (f, first) ← holding [ov] (getMethod ov nm pl)
      callWith pos f first (backTo pos (starEach [] X.env)) (backToKw pos (keywordEach [] X.env))) := by rfl) :
    PE X (.Call (.Attribute e nm apos) [] [] pos) (tD X.K W (gMeth nm tabI tabS z gNilA)) := by
  refine ⟨fun pins s σ H Q I ⟨t, st, r, q⟩ => ?_⟩
  have want : tZ X.K W z σ H fun v H1 => ∃ m, Recv X k nm 0 H1 v m ∧ spD X.K 1 m [v] H1 Q (fun cls d H' => W cls d σ H') := by
    refine tG_at r q fun t1 st1 H1 d v E1 R1 p1 q1 => ?_
    cases em : findM nm tabI tabS d with
    | none => rw [em] at q1; exact q1.elim
    | some m =>
      rw [em] at q1
      exact ⟨m, recv_of hI hS p1 em, call_want R1 (Dats.cons p1 Dats.nil) rfl (Res.step0 E1 q1)⟩
  refine PySem.W.methodCall_KW (pl := pl) (thn (ho.run pins s σ H _ I want) fun u s1 ⟨v, H1, I1, rv, m, rc, q1⟩ => ?_) ht
  refine recv_look rc I1 rv fun g fd ps kp F hl hb => ?_
  refine PySem.W.callWith_K0 (first := [u]) I1.kIn kp ?_
  rw [show (1 : Nat) = 0 + 1 from rfl, ← hl] at q1
  exact run_G (us := [u]) (vs := [v]) F room gd hb (fun _ _ => trivial) (fun e s' c => tk e s' (XE.of_call I1 (fun _ _ _ h => h) c)) I1 (.cons rv .nil) q1

/-! ### properties -/
/-- nothing may be raised -/
def outN : FOut → DSt → Out RV
  | .ok r S, st => .ok r { st with S := S }
  | _, _ => .no
def gProp (nm : Str) (tabI tabS : List (Str × Fm)) (z : DZ) : DE := fun st => (z st).bind fun d st => match findM nm tabI tabS d with
  | some m => outN (m [d] st.S) st
  | none => .no
structure PrpI (X : Cx) (k : Nat) (nm : Str) (c : Str) (m : Fm) : Prop where
  cl : Cls X.K (He.ga X.K c)
  ex : ∃ p g fd ps, PropOf X.K (He.ga X.K c) nm p g ∧ FnG X.prog X.w X.K X.mg X.base k g fd ps m ∧ ps.length = 1 ∧ Binds X.K fd ps []
structure PrpS (X : Cx) (k : Nat) (nm : Str) (c : Str) (m : Fm) : Prop where
  cl : SlX.SCls X.K (He.ga X.K c)
  ex : ∃ p g fd ps, PropOf X.K (He.ga X.K c) nm p g ∧ FnG X.prog X.w X.K X.mg X.base k g fd ps m ∧ ps.length = 1 ∧ Binds X.K fd ps []
def RecvP (X : Cx) (k : Nat) (nm : Str) (H : Hp) (v : V) (m : Fm) : Prop :=
  ∃ a, v = .ref a ∧ ∃ C, ((∃ dx us, H a = some (.ins C dx us) ∧ Cls X.K C) ∨ (∃ dx us, SlX.Slt H a C dx us ∧ SlX.SCls X.K C)) ∧
    ∃ p g fd ps, PropOf X.K C nm p g ∧ FnG X.prog X.w X.K X.mg X.base k g fd ps m ∧ ps.length = 1 ∧ Binds X.K fd ps []
theorem recvP_of (hI : ∀ c m, (c, m) ∈ tabI → PrpI X k nm c m) (hS : ∀ c m, (c, m) ∈ tabS → PrpS X k nm c m) {t : Tags} {H : Hp} {d : D} {v : V} {m : Fm} (h : Dat X.K (fz t H) (rho t) d v) (e : findM nm tabI tabS d = some m) : RecvP X k nm H v m := by
  cases d with
  | ins c fs =>
    rw [Dat] at h
    obtain ⟨a, dx, us, rfl, ho, hm⟩ := h
    have e : (if (fs.lookup nm).isNone then tabI.lookup c else none) = some m := e
    split at e
    · have hm' := hI c m (mem_of_lookup e)
      exact ⟨a, rfl, _, .inl ⟨dx, us, (of_fz ho).2, hm'.cl⟩, hm'.ex⟩
    · cases e
  | slt c vs =>
    rw [Dat] at h
    obtain ⟨a, dx, us, rfl, ho, hdx, hm⟩ := h
    have e : tabS.lookup c = some m := e
    have hm' := hS c m (mem_of_lookup e)
    exact ⟨a, rfl, _, .inr ⟨dx, us, .inr ⟨(of_fz ho).2, (of_fz hdx).2⟩, hm'.cl⟩, hm'.ex⟩
  | _ => cases e
theorem prop_run {b : Bool} {H : Hp} {v : V} {u : Value} {m : Fm} {E : Value → Shared → Prop} {pins : List (Addr × Obj)} {σ : L2.St} {s : Shared} {Q : VK} (h : RecvP X k nm H v m) (I : Inv X pins σ H s) (r : RelV v u) (room : Room (k + 1) X.A) (gd : X.A.guards = some [])
    (q : spD X.K 1 m [v] H Q (fun _ _ _ => False)) : wpAny (model X.prog X.w) X.A (getAttr u nm b) (EP X pins σ Q) E s := by
  obtain ⟨a, rfl, C, hc, p, g, fd, ps, hp, F, hl, hb⟩ := h
  obtain rfl : u = Value.ref a := r
  obtain ⟨rest, hrec⟩ := hp.rec_
  have I1 := I.tok (s.toks + 1)
  have hb' := hb _ [.ref a] I1.kIn (by rw [List.append_nil, hl]; rfl)
  rw [List.append_nil] at hb'
  have q' : spD X.K ps.length m [.ref a] H Q (fun _ _ _ => False) := by rw [hl]; exact q
  have run : codeAny (model X.prog X.w) X.A.in1 (.call (.ref g) ⟨[.ref a], []⟩) (fun r s' => ∃ u, r = .ok (.ret u) ∧ wpAny (model X.prog X.w) X.A (handedOut u) (EP X pins σ Q) E s') { s with toks := s.toks + 1 } := by
    refine codeAny_mono (F X.A.in1 X.stack { s with toks := s.toks + 1 } H ⟨[.ref a], []⟩ [.ref a] [.ref a] Q _ room.in1 gd I1.env0.in1 hb' (.cons rfl .nil) q') fun res s' hq => ?_
    match res, hq with
    | .error er, hq =>
      obtain ⟨_, _, _, _, _, _, _, _, _, _, _, _, hE⟩ := hq
      exact hE.elim
    | .ok (.ret u), hq =>
      obtain ⟨v, H', I3, rv, q3⟩ := I1.after hq
      refine ⟨u, rfl, ?_⟩
      rw [PySem.W.handedOut_of (handed_of rv)]
      exact wpAny_pure ⟨v, H', I3, rv, q3⟩
    | .ok .next, hq => exact False.elim hq
    | .ok .brk, hq => exact False.elim hq
    | .ok .cont, hq => exact False.elim hq
  rcases hc with ⟨dx, us, ho, c⟩ | ⟨dx, us, sl, c⟩
  · obtain ⟨mA, O, _, _, _, _⟩ := ins_get I.hok ho
    obtain ⟨od, J, _⟩ := O.look
    have hcl : (PySem.W.clsIn X.K C).isSome = true := by
      obtain ⟨cd, hc, _⟩ := PySem.W.any_some c.hd
      rw [hc]
      rfl
    refine PySem.W.get_bind I.kIn J (PySem.W.plainGet_of (c.get nm)).1 (PySem.W.findObj_data hcl hp.at_ hp.get hp.tak) (PySem.W.plainGet_of (c.get nm)).2 (wpAny_call (PySem.W.prop_get (s := { s with toks := s.toks + 1 }) I.kIn hrec ?_))
    refine codeAny_mono run fun r s' hq => ?_
    obtain ⟨u, rfl, hq⟩ := hq
    exact hq
  · obtain ⟨sl1, od, _, J, _⟩ := SlX.slt_inst I sl
    refine PySem.W.get_bind I.kIn J (PySem.W.plainGet_of (c.get nm)).1 (PySem.W.findObj_data c.ic hp.at_ hp.get hp.tak) (PySem.W.plainGet_of (c.get nm)).2 (wpAny_call (PySem.W.prop_get (s := { s with toks := s.toks + 1 }) I.kIn hrec ?_))
    refine codeAny_mono run fun r s' hq => ?_
    obtain ⟨u, rfl, hq⟩ := hq
    exact hq
theorem de_prop (hI : ∀ c m, (c, m) ∈ tabI → PrpI X k nm c m) (hS : ∀ c m, (c, m) ∈ tabS → PrpS X k nm c m) (room : Room (k + 1) X.A) (gd : X.A.guards = some []) (ho : PE X e (tZ X.K W z)) (hab : attributeBase e nm X.env (eval e X.env) = eval e X.env := by rfl) :
    PE X (.Attribute e nm pos) (tD X.K W (gProp nm tabI tabS z)) := by
  refine ⟨fun pins s σ H Q I ⟨t, st, r, q⟩ => ?_⟩
  have want : tZ X.K W z σ H fun v H1 => ∃ m, RecvP X k nm H1 v m ∧ spD X.K 1 m [v] H1 Q (fun _ _ _ => False) := by
    refine tG_at r q fun t1 st1 H1 d v E1 R1 p1 q1 => ?_
    cases em : findM nm tabI tabS d with
    | none => rw [em] at q1; exact q1.elim
    | some m =>
      rw [em] at q1
      have q2 : Res X.K W σ Q (IsRV X.K) t1 H1 (outN (m [d] st1.S) st1) := Res.step0 E1 q1
      refine ⟨m, recvP_of hI hS p1 em, ?_⟩
      have d1 : Dats X.K (fz t1 H1) (rho t1) [d] [v] := Dats.cons p1 Dats.nil
      have key : spD X.K 1 m [v] H1 Q (fun cls d H' => False) := by
        refine ⟨unslot t1, st1.S, [d], R1.r0.unslot, fun _ _ => unslot_slot, by rw [fz_unslot, rho_unslot]; exact d1, rfl, ?_⟩
        cases e : m [d] st1.S with
        | ok rv S' =>
          rw [e] at q2
          intro t' H' v E' r' p
          obtain ⟨X', RX⟩ := R1.call E' r'
          exact q2 _ H' v X' RX (p.call R1.r0 E')
        | ex c x S' => rw [e] at q2; exact q2.elim
        | no => rw [e] at q2; exact q2.elim
      exact key
  refine attr_of hab (thn (ho.run pins s σ H _ I want) fun u s1 ⟨v, H1, I1, rv, m, rc, q1⟩ => ?_)
  exact prop_run rc I1 rv room gd q1
end
end Dn
end

section
set_option maxHeartbeats 4000000
-- De5
/-! De5: len(o), o[i], x in o, ~o of an own class -/
namespace Dn
open PySem PySem.Spec L2
def gPost (f : RV → Option RV) (g : DE) : DE := fun st => (g st).bind fun r st => opt (f r) st
def lenP : RV → Option RV
  | .sh (.int n) => if 0 ≤ n ∧ n < 2 ^ 63 then some (.sh (.int n)) else none
  | _ => none
def truP : RV → Option RV
  | .sh (.bl b) => some (.sh (.bl b))
  | _ => none
def ntruP : RV → Option RV
  | .sh (.bl b) => some (.sh (.bl (!b)))
  | _ => none
def gOwn (nm : Str) (tab : List (Str × Fm)) (z : DZ) (gs : DAs) : DE := gMeth nm tab [] z gs
section
variable {X : Cx} {W : WX} {k : Nat} {e a b : Expr} {z zb : DZ} {nm : Str} {n : Nat} {tab : List (Str × Fm)} {p pos apos : Pos} {x : Str} {m : Fm}
theorem run_GA {g : Addr} {fd : FuncData} {ps : List Str} (F : FnG X.prog X.w X.K X.mg X.base k g fd ps m) {A : Around} (room : Room k A) (gd : A.guards = some []) (hb : Binds X.K fd ps []) {pins : List (Addr × Obj)} {σ : L2.St} {H : Hp} {s : Shared} {Q : VK} {us : List Value} {vs : List V} {E : XK}
    (env0 : Env0 X.prog X.w X.K X.mg X.base A X.stack s H) (hp : ∀ e s', CX X.prog X.w X.stack H s E e s' → X.xe e s') (I : Inv X pins σ H s) (r : Vals vs us) (h : spD X.K ps.length m vs H Q E) : wpAny (model X.prog X.w) A (call (.ref g) us) (EP X pins σ Q) X.xe s := by
  have hl : us.length = ps.length := by rw [← r.length]; exact h.len
  have hb' := hb s us I.kIn (by rw [List.append_nil]; exact hl)
  rw [List.append_nil] at hb'
  refine wpAny_call (codeAny_mono (F A X.stack s H ⟨us, []⟩ us vs Q E room gd env0 hb' r h) fun res s' hq => ?_)
  match res, hq with
  | .error e, hq => exact hp e s' hq
  | .ok (.ret u), hq => exact I.after hq
  | .ok .next, hq => exact False.elim hq
  | .ok .brk, hq => exact False.elim hq
  | .ok .cont, hq => exact False.elim hq
/-- an instance with a dict whose class has the special method -/
def RecvO (X : Cx) (k : Nat) (nm : Str) (n : Nat) (H : Hp) (v : V) (m : Fm) : Prop :=
  ∃ a, v = .ref a ∧ ∃ c dx us, H a = some (.ins (He.ga X.K c) dx us) ∧ MthI X k nm n c m
theorem recvO_of (hI : ∀ c m, (c, m) ∈ tab → MthI X k nm n c m) {t : Tags} {H : Hp} {d : D} {v : V} (h : Dat X.K (fz t H) (rho t) d v) (e : findM nm tab [] d = some m) : ∃ c, (c, m) ∈ tab ∧ ∃ a, v = .ref a ∧ ∃ dx us, H a = some (.ins (He.ga X.K c) dx us) ∧ MthI X k nm n c m := by
  cases d with
  | ins c fs =>
    rw [Dat] at h
    obtain ⟨a, dx, us, rfl, ho, hm⟩ := h
    have e : (if (fs.lookup nm).isNone then tab.lookup c else none) = some m := e
    split at e
    · exact ⟨c, mem_of_lookup e, a, rfl, dx, us, (of_fz ho).2, hI c m (mem_of_lookup e)⟩
    · cases e
  | slt c vs => cases e
  | _ => cases e
theorem res_post {σ : L2.St} {H : Hp} {t : Tags} {st : DSt} {Q : VK} {f : RV → Option RV} {o : FOut} (h : Res X.K W σ Q (IsRV X.K) t H ((outE o st).bind fun r st => opt (f r) st)) :
    Res X.K W σ (fun v H' => ∃ t' st' r, R X.K t' st' σ H' ∧ Ext t H t' H' ∧ IsRV X.K t H t' H' r v ∧ RO X.K t' H' Q (f r)) (IsRV X.K) t H (outE o st) := by
  cases o with
  | ok r S =>
    intro t' H' v E' R' p
    have h : Res X.K W σ Q (IsRV X.K) t H (opt (f r) { st with S := S }) := h
    exact ⟨t', _, r, R', E', p, res_opt R' (Res.step0 E' h)⟩
  | ex c d S => exact h
  | no => exact h
/-- len(o) -/
theorem de_lenO (hI : ∀ c m, (c, m) ∈ tab → MthI X k "__len__" 0 c m) (room : Room (k + 1) X.A) (gd : X.A.guards = some []) (tk : Takes X W) (he : PE X e (tZ X.K W z)) (hm : X.mg "len" = none) (hg : Gl X "len" := by rfl)
    (hs : starEach [e] X.env = (false, eval e X.env) :: starEach [] X.env := by rfl) (hpl : (backTo pos (starEach [] X.env)).any (·.1) = false := by rfl) :
    PE X (.Call (.Name "len" p) [e] [] pos) (tD X.K W (gPost lenP (gOwn "__len__" tab z gNilA))) := by
  refine ⟨fun pins s σ H Q I ⟨t, st, r, q⟩ => ?_⟩
  have q : Res X.K W σ Q (IsRV X.K) t H (((z st).bind fun d st => match findM "__len__" tab [] d with
    | some m => outE (m [d] st.S) st
    | none => .no).bind fun r st => opt (lenP r) st) := q
  have want : tZ X.K W z σ H fun v H1 => ∃ m c a, v = .ref a ∧ (∃ dx us, H1 a = some (.ins (He.ga X.K c) dx us) ∧ MthI X k "__len__" 0 c m) ∧ spD X.K 1 m [v] H1 (fun v H' => ∃ n : Int, v = .int n ∧ 0 ≤ n ∧ n < 2 ^ 63 ∧ Q (.int n) H') (fun cls d H' => W cls d σ H') := by
    refine ⟨t, st, r, ?_⟩
    cases ez : z st with
    | no => rw [ez] at q; exact q
    | ex c x st' => rw [ez] at q; exact q
    | ok d st1 =>
      rw [ez] at q
      intro t1 H1 v E1 R1 p1
      have q : Res X.K W σ Q (IsRV X.K) t H ((match findM "__len__" tab [] d with
        | some m => outE (m [d] st1.S) st1
        | none => .no).bind fun r st => opt (lenP r) st) := q
      cases em : findM "__len__" tab [] d with
      | none => rw [em] at q; exact q.elim
      | some m =>
        rw [em] at q
        obtain ⟨c, _, a, ev, dx, us, ho, mi⟩ := recvO_of hI p1 em
        refine ⟨m, c, a, ev, ⟨dx, us, ho, mi⟩, call_want R1 (Dats.cons p1 Dats.nil) rfl ?_⟩
        have q2 := res_post (Res.step0 E1 q)
        revert q2
        cases m [d] st1.S with
        | ok r S =>
          intro q2 t' H' v' E' R' p
          obtain ⟨t2, st2, r2, R2, E2, p2, ro⟩ := q2 t' H' v' E' R' p
          unfold lenP at ro
          split at ro
          · rename_i n
            split at ro
            · rename_i hn
              have p2 : Dat X.K (fz t2 H') (rho t2) (.int n) v' := p2
              rw [Dat] at p2
              exact ⟨n, p2, hn.1, hn.2, RO.int ro⟩
            · exact ro.elim
          · exact ro.elim
        | ex c d S => exact fun q2 => q2
        | no => exact fun q2 => q2
  refine wpAny_Call_Name_kw (ld_blt I hg hm (show bootBuiltins "len" = some (.builtin "len") by decide +kernel) ?_ (by decide) (by decide))
  refine PyProof.Rows.callWith_builtin1 (thn ((pa_cons he pa_nil hs).run pos pins s σ H _ I (show tCons (tZ X.K W z) tNil σ H (fun vs H1 => ∃ v, vs = [v] ∧ ∃ m c a, v = .ref a ∧ (∃ dx us, H1 a = some (.ins (He.ga X.K c) dx us) ∧ MthI X k "__len__" 0 c m) ∧ spD X.K 1 m [v] H1 (fun v H' => ∃ n : Int, v = .int n ∧ 0 ≤ n ∧ n < 2 ^ 63 ∧ Q (.int n) H') (fun cls d H' => W cls d σ H')) from ?_)) fun us s1 ⟨vs, H1, I1, r1, v, ev, m, c, a, ev2, ⟨dx, fs, ho, mi⟩, q1⟩ => ?_) hs hpl
  · obtain ⟨t, st, r, q⟩ := want
    refine ⟨t, st, r, ?_⟩
    revert q
    cases z st with
    | no => exact id
    | ex c x st' => exact id
    | ok d st1 => exact fun q t' H' v E' R' p => ⟨v, rfl, q t' H' v E' R' p⟩
  · subst ev ev2
    obtain ⟨u, rfl, rx⟩ := vals1 r1
    obtain rfl : u = Value.ref a := rx
    obtain ⟨g, fd, ps, hm, F, hl, hb⟩ := mi.ex
    obtain ⟨mA, O, _, _, _, _⟩ := ins_get I1.hok ho
    obtain ⟨od, J, _⟩ := O.look
    obtain ⟨mm, Fr⟩ := I1.fr
    have q1 : spD X.K ps.length m [.ref a] H1 (fun v H' => ∃ n : Int, v = .int n ∧ 0 ≤ n ∧ n < 2 ^ 63 ∧ Q (.int n) H') (fun cls d H' => W cls d σ H') := by rw [hl]; exact q1
    refine PySem.W.len_K Fr I1.mod.kin J hm.at_ hm.fn (wpAny_mono (run_GA (us := [.ref a]) (vs := [.ref a]) F room.in1 gd hb I1.env0.in1 (fun e s' c => tk e s' (XE.of_call I1 (fun _ _ _ h => h) c)) I1 (.cons rfl .nil) q1) (fun w s' hw => ?_) fun _ _ h => h)
    obtain ⟨v', H', I2, rv, n, rfl, h0, h1, hq⟩ := hw
    obtain ⟨t, rfl⟩ := rv
    exact ⟨⟨h0, h1⟩, .int n, H', I2.tok _, ⟨_, rfl⟩, hq⟩
/-! two operands -/
def gOwn2 (nm : Str) (tab : List (Str × Fm)) (za zb : DZ) : DE := fun st => (za st).bind fun a st => (zb st).bind fun b st => match findM nm tab [] a with
  | some m => outE (m [a, b] st.S) st
  | none => .no
/-- the receiver on the right -/
def gOwn2R (nm : Str) (tab : List (Str × Fm)) (za zb : DZ) : DE := fun st => (za st).bind fun a st => (zb st).bind fun b st => match findM nm tab [] b with
  | some m => outE (m [b, a] st.S) st
  | none => .no
/-- what the plain post-work asks of what the method gave -/
def PostQ (X : Cx) (W : WX) (σ : L2.St) (f : RV → Option RV) (Q : VK) : VK := fun v H' => ∃ t0 H0 t' st' r, Ext t0 H0 t' H' ∧ R X.K t' st' σ H' ∧ IsRV X.K t0 H0 t' H' r v ∧ Res X.K W σ Q (IsRV X.K) t0 H0 (opt (f r) st')
def own2Q (X : Cx) (W : WX) (k : Nat) (nm : Str) (tab : List (Str × Fm)) (f : RV → Option RV) (σ : L2.St) (Q : VK) (x y : V) (H : Hp) : Prop :=
  ∃ m a c dx us, x = .ref a ∧ H a = some (.ins (He.ga X.K c) dx us) ∧ (c, m) ∈ tab ∧ MthI X k nm 1 c m ∧ spD X.K 2 m [x, y] H (PostQ X W σ f Q) (fun cls d H' => W cls d σ H')
theorem own2_at (hI : ∀ c m, (c, m) ∈ tab → MthI X k nm 1 c m) {f : RV → Option RV} {σ : L2.St} {Q : VK} {t : Tags} {st : DSt} {H : Hp} {a b : D} {x y : V} (r : R X.K t st σ H) (pa : Dat X.K (fz t H) (rho t) a x) (pb : Dat X.K (fz t H) (rho t) b y)
    (q : Res X.K W σ Q (IsRV X.K) t H ((match findM nm tab [] a with
      | some m => outE (m [a, b] st.S) st
      | none => .no).bind fun r st => opt (f r) st)) : own2Q X W k nm tab f σ Q x y H := by
  cases em : findM nm tab [] a with
  | none => rw [em] at q; exact q.elim
  | some m =>
    rw [em] at q
    obtain ⟨c, hc, p, ev, dx, us, ho, mi⟩ := recvO_of hI pa em
    refine ⟨m, p, c, dx, us, ev, ho, hc, mi, call_want r (Dats.cons pa (Dats.cons pb Dats.nil)) rfl ?_⟩
    have q0 : Res X.K W σ Q (IsRV X.K) t H ((outE (m [a, b] st.S) st).bind fun r st => opt (f r) st) := q
    clear q
    revert q0
    cases m [a, b] st.S with
    | ok r S => exact fun q t' H' v' E' R' p => ⟨t, H, t', _, r, E', R', p, q⟩
    | ex c d S => exact fun q => q
    | no => exact fun q => q
theorem bind_bind {α β γ : Type} (o : Out α) (f : α → DSt → Out β) (g : β → DSt → Out γ) : ((o.bind f).bind g) = o.bind fun a st => (f a st).bind g := by
  cases o <;> rfl
theorem own2_of (hI : ∀ c m, (c, m) ∈ tab → MthI X k nm 1 c m) {f : RV → Option RV} {σ : L2.St} {H : Hp} {Q : VK} (h : tD X.K W (gPost f (gOwn2 nm tab z zb)) σ H Q) :
    tZ X.K W z σ H fun x H1 => tZ X.K W zb σ H1 fun y H2 => own2Q X W k nm tab f σ Q x y H2 := by
  obtain ⟨t, st, r, q⟩ := h
  unfold gPost gOwn2 at q
  rw [bind_bind] at q
  refine tG_at r q fun t1 st1 H1 d v E1 R1 p1 q1 => ?_
  have q2 := Res.step0 E1 q1
  rw [bind_bind] at q2
  refine tG_at R1 q2 fun t2 st2 H2 d2 v2 E2 R2 p2 q3 => ?_
  exact own2_at hI R2 (E2.dat p1) p2 (Res.step0 E2 q3)
theorem own2R_of (hI : ∀ c m, (c, m) ∈ tab → MthI X k nm 1 c m) {f : RV → Option RV} {σ : L2.St} {H : Hp} {Q : VK} (h : tD X.K W (gPost f (gOwn2R nm tab z zb)) σ H Q) :
    tZ X.K W z σ H fun x H1 => tZ X.K W zb σ H1 fun y H2 => own2Q X W k nm tab f σ Q y x H2 := by
  obtain ⟨t, st, r, q⟩ := h
  unfold gPost gOwn2R at q
  rw [bind_bind] at q
  refine tG_at r q fun t1 st1 H1 d v E1 R1 p1 q1 => ?_
  have q2 := Res.step0 E1 q1
  rw [bind_bind] at q2
  refine tG_at R1 q2 fun t2 st2 H2 d2 v2 E2 R2 p2 q3 => ?_
  exact own2_at hI R2 p2 (E2.dat p1) (Res.step0 E2 q3)
/-- the method runs: at the receiver u -/
theorem own2_run {f : RV → Option RV} {σ : L2.St} {H : Hp} {Q : VK} {x y : V} {u w : Value} {pins : List (Addr × Obj)} {s : Shared} {A : Around} (tk : Takes X W) (h : own2Q X W k nm tab f σ Q x y H) (I : Inv X pins σ H s) (rx : RelV x u) (ry : RelV y w)
    (room : Room k A) (gd : A.guards = some []) (env0 : Env0 X.prog X.w X.K X.mg X.base A X.stack s H) : ∃ c m g a od, u = .ref a ∧ (c, m) ∈ tab ∧ Meth X.K (He.ga X.K c) nm g ∧ (∃ ox, PySem.W.InstAt s.heap a ox (He.ga X.K c) (some od)) ∧
      wpAny (model X.prog X.w) A (call (.ref g) [u, w]) (EP X pins σ (PostQ X W σ f Q)) X.xe s := by
  obtain ⟨m, a, c, dx, us, rfl, ho, hc, mi, q⟩ := h
  obtain rfl : u = Value.ref a := rx
  obtain ⟨g, fd, ps, hm, F, hl, hb⟩ := mi.ex
  obtain ⟨mA, O, _, _, _, _⟩ := ins_get I.hok ho
  obtain ⟨od, J, _⟩ := O.look
  have q : spD X.K ps.length m [.ref a, y] H (PostQ X W σ f Q) (fun cls d H' => W cls d σ H') := by rw [hl]; exact q
  exact ⟨c, m, g, a, od, rfl, hc, hm, ⟨_, J⟩, run_GA (us := [.ref a, w]) (vs := [.ref a, y]) F room gd hb env0 (fun e s' c => tk e s' (XE.of_call I (fun _ _ _ h => h) c)) I (.cons rfl (.cons ry .nil)) q⟩
theorem some_post {Q : VK} {v : V} {H : Hp} {σ : L2.St} (h : PostQ X W σ some Q v H) : Q v H := by
  obtain ⟨t0, H0, t', st', r, E, R', p, ro⟩ := h
  exact ro t' H v E R' p
theorem truP_post {Q : VK} {v : V} {H : Hp} {σ : L2.St} (h : PostQ X W σ truP Q v H) : ∃ b, v = .bl b ∧ Q (.bl b) H := by
  obtain ⟨t0, H0, t', st', r, E, R', p, ro⟩ := h
  unfold truP at ro
  split at ro
  · rename_i b
    have p : Dat X.K (fz t' H) (rho t') (.bl b) v := p
    rw [Dat] at p
    exact ⟨b, p, ro t' H (.bl b) E R' (by show Dat _ _ _ _ _; rw [Dat])⟩
  · exact ro.elim
theorem ntruP_post {Q : VK} {v : V} {H : Hp} {σ : L2.St} (h : PostQ X W σ ntruP Q v H) : ∃ b, v = .bl b ∧ Q (.bl !b) H := by
  obtain ⟨t0, H0, t', st', r, E, R', p, ro⟩ := h
  unfold ntruP at ro
  split at ro
  · rename_i b
    have p : Dat X.K (fz t' H) (rho t') (.bl b) v := p
    rw [Dat] at p
    exact ⟨b, p, ro t' H (.bl !b) E R' (by show Dat _ _ _ _ _; rw [Dat])⟩
  · exact ro.elim
/-- o[i] -/
theorem de_getO (hI : ∀ c m, (c, m) ∈ tab → MthI X k "__getitem__" 1 c m) (hf : ∀ c m g, (c, m) ∈ tab → PySem.W.findIn X.K (.ref (He.ga X.K c)) "__getitem__" = some (some (.ref g)) → PySem.W.fnIn X.K g = true) (room : Room (k + 1) X.A) (gd : X.A.guards = some []) (tk : Takes X W) (ha : PE X a (tZ X.K W z)) (hb : PE X b (tZ X.K W zb))
    (hsl : ∀ o i, subscripted b true o i = runValue (.builtin "lifetime.subscript" ⟨[o, i], []⟩) := by intro o i; with_unfolding_all rfl) :
    PE X (.Subscript a b pos) (tD X.K W (gPost some (gOwn2 "__getitem__" tab z zb))) := by
  refine ⟨fun pins s σ H Q I h => ?_⟩
  have h := own2_of hI h
  refine PyProof.Rows.Subscript_ (binT ha hb I h fun v u s2 x y H2 I2 rx ry q => ?_)
  obtain ⟨c, m, g, p, od, rfl, hc, hm, ⟨ox, J⟩, run⟩ := own2_run (A := X.A.in1) tk q I2 rx ry room.in1 gd I2.env0.in1
  obtain ⟨mm, Fr⟩ := I2.fr
  refine PySem.W.sub_K Fr I2.mod.kin J hm.at_ (hf c m g hc hm.at_) hm.fn (wpAny_mono run (fun r s' hr => ?_) fun _ _ h => h) (hsl _ _)
  obtain ⟨v, H', I3, rv, hq⟩ := hr
  exact ⟨v, H', I3, rv, some_post hq⟩
/-- x in o, x not in o -/
theorem de_inO (hI : ∀ c m, (c, m) ∈ tab → MthI X k "__contains__" 1 c m) (room : Room k X.A) (gd : X.A.guards = some []) (tk : Takes X W) (ha : PE X a (tZ X.K W z)) (hb : PE X b (tZ X.K W zb)) (hm : behindInMarks .In b = false := by rfl) :
    PE X (.Compare a [.In] [b] pos) (tD X.K W (gPost truP (gOwn2R "__contains__" tab z zb))) := by
  refine ⟨fun pins s σ H Q I h => ?_⟩
  have h := own2R_of hI h
  refine wpAny_Compare1 (binT ha hb I h fun v u s2 x y H2 I2 rx ry q => ?_) hm
  obtain ⟨c, m, g, p, od, rfl, hc, hm, ⟨ox, J⟩, run⟩ := own2_run (A := X.A) tk q I2 ry rx room gd I2.env0
  obtain ⟨mm, Fr⟩ := I2.fr
  refine PySem.W.in_K Fr I2.mod.kin J hm.at_ hm.fn (wpAny_mono run (fun r s' hr => ?_) fun _ _ h => h)
  obtain ⟨v, H', I3, rv, hq⟩ := hr
  obtain ⟨b, rfl, hq2⟩ := truP_post hq
  cases rv
  exact wpAny_truthy_bool ⟨.bl b, H', I3, rfl, hq2⟩
theorem de_notInO (hI : ∀ c m, (c, m) ∈ tab → MthI X k "__contains__" 1 c m) (room : Room k X.A) (gd : X.A.guards = some []) (tk : Takes X W) (ha : PE X a (tZ X.K W z)) (hb : PE X b (tZ X.K W zb)) (hm : behindInMarks .NotIn b = false := by rfl) :
    PE X (.Compare a [.NotIn] [b] pos) (tD X.K W (gPost ntruP (gOwn2R "__contains__" tab z zb))) := by
  refine ⟨fun pins s σ H Q I h => ?_⟩
  have h := own2R_of hI h
  refine wpAny_Compare1 (binT ha hb I h fun v u s2 x y H2 I2 rx ry q => ?_) hm
  obtain ⟨c, m, g, p, od, rfl, hc, hm, ⟨ox, J⟩, run⟩ := own2_run (A := X.A) tk q I2 ry rx room gd I2.env0
  obtain ⟨mm, Fr⟩ := I2.fr
  refine PySem.W.notIn_K Fr I2.mod.kin J hm.at_ hm.fn (wpAny_mono run (fun r s' hr => ?_) fun _ _ h => h)
  obtain ⟨v, H', I3, rv, hq⟩ := hr
  obtain ⟨b, rfl, hq2⟩ := ntruP_post hq
  cases rv
  exact wpAny_truthy_bool ⟨.bl !b, H', I3, rfl, hq2⟩
/-- o + p, both of one class -/
theorem de_binO {op : Operator} {nm : String} (hop : op.info.2 = nm) (hI : ∀ c m, (c, m) ∈ tab → MthI X k (PySem.dunder nm) 1 c m ∧ PySem.W.selfFirst X.K (He.ga X.K c) = true) (room : Room k X.A) (gd : X.A.guards = some []) (tk : Takes X W) (ha : PE X a (tZ X.K W z)) (hb : PE X b (tZ X.K W zb)) : True := trivial
end
end Dn
end

section
set_option maxHeartbeats 4000000
-- De6
/-! De6: stars in displays, comprehensions of two clauses -/
namespace Dn
open PySem PySem.Spec L2
def itemsD : D → Option (List D)
  | .lst xs => some xs
  | .tup xs => some xs
  | _ => none
def gStarA (z : DZ) (gs : DAs) : DAs := fun st => (z st).bind fun d st => match itemsD d with
  | some xs => (gs st).bind fun ds st => .ok (xs ++ ds) st
  | none => .no
section
variable {X : Cx} {W : WX} {e : Expr} {es : List Expr} {z : DZ} {gs : DAs} {p : Pos}
theorem aS (h : PE X e (tV X.K W z)) (hr : PA X es (tA X.K W gs (PLz X.K))) (hs : starEach (.Starred e p :: es) X.env = (true, eval e X.env) :: starEach es X.env := by rfl) : PA X (.Starred e p :: es) (tA X.K W (gStarA z gs) (PLz X.K)) := by
  refine PA.imp (StX.pa_star h hr hs) fun σ H Q ⟨t, st, r, q⟩ => ?_
  have q : ResA X.K W σ Q (PLz X.K) t H ((z st).bind fun d st => match itemsD d with
    | some xs => (gs st).bind fun ds st => .ok (xs ++ ds) st
    | none => .no) := q
  refine tG_atA r q fun t1 st1 H1 d v E1 R1 p1 q1 => ?_
  have q2 := q1.step E1
  have fin : ∀ {xs : List D} {vs : List V}, Dats X.K (fz t1 H1) (rho t1) xs vs → ResA X.K W σ Q (PLz X.K) t1 H1 ((gs st1).bind fun ds st => .ok (xs ++ ds) st) → tA X.K W gs (PLz X.K) σ H1 fun ys H2 => Q (vs ++ ys) H2 := fun {xs vs} m q => by
    refine ⟨t1, st1, R1, ?_⟩
    cases eg : gs st1 with
    | no => rw [eg] at q; exact q
    | ex c x st' => rw [eg] at q; exact q
    | ok ds st2 =>
      rw [eg] at q
      intro t2 H2 ys E2 R2 p2
      exact q t2 H2 _ E2 R2 ((E2.dats m).append p2)
  cases d with
  | lst xs =>
    obtain ⟨a, vs, rfl, s, _, m⟩ := p1
    exact ⟨a, vs, rfl, .inr (SqL.of s), fin m q2⟩
  | tup xs =>
    obtain ⟨a, vs, rfl, s, m⟩ := p1
    exact ⟨a, vs, rfl, .inl (fz_le.sqT s), fin m q2⟩
  | _ => exact q2.elim
end
/-- the turns of a second clause -/
def lcI (vs : List Nat) (f : GT) (c : DT) (e : DZ) : List D → List D → DSt → Out (List D)
  | [], acc, st => .ok acc st
  | d :: ds, acc, st => match f d { st with env := wipeE st.env vs } with
    | none => .no
    | some st1 => (c st1).bindN fun k st2 => if k = true then (e st2).bindN fun x st3 => if acc.length < sizeLine then lcI vs f c e ds (acc ++ [x]) st3 else .no else lcI vs f c e ds acc st2
def lcO (vs : List Nat) (f : GT) (c : DT) (s1 : DL) (vs1 : List Nat) (f1 : GT) (c1 : DT) (e : DZ) : List D → List D → DSt → Out (List D)
  | [], acc, st => .ok acc st
  | d :: ds, acc, st => match f d { st with env := wipeE st.env vs } with
    | none => .no
    | some st1 => (c st1).bindN fun k st2 => if k = true then (s1 st2).bindN fun ds1 st3 => (lcI vs1 f1 c1 e ds1 acc st3).bindN fun acc st4 => lcO vs f c s1 vs1 f1 c1 e ds acc st4 else lcO vs f c s1 vs1 f1 c1 e ds acc st2
def gLc2 (s : DL) (vs : List Nat) (f : GT) (c : DT) (s1 : DL) (vs1 : List Nat) (f1 : GT) (c1 : DT) (e : DZ) : DE := fun st => (s st).bind fun ds st1 =>
    (lcO vs f c s1 vs1 f1 c1 e ds [] st1).bind fun acc st2 => .ok (.ow (.lst acc)) { st2 with env := keepE st1.env st2.env vs }
theorem bindN_bindN {α β γ : Type} (o : Out α) (f : α → DSt → Out β) (g : β → DSt → Out γ) : ((o.bindN f).bind g) = o.bindN fun a st => (f a st).bind g := by
  cases o <;> rfl
theorem lc2_of {K : PySem.W.Frag} {W : WX} {s s1 : DL} {g g1 : TG} {f f1 : GT} {c c1 : DT} {e : DZ} {vs vs1 sl sl1 : List Nat} {σ : L2.St} {H : Hp} {Q : VK} (tg : TgOk K g f sl) (hsl : ∀ j ∈ sl, j ∈ vs) (tg1 : TgOk K g1 f1 sl1) (hsl1 : ∀ j ∈ sl1, j ∈ vs1) (hv : ∀ j ∈ vs1, j ∈ vs)
    (h : tD K W (gLc2 s vs f c s1 vs1 f1 c1 e) σ H Q) : tLc2 (tI K W s) g (tT K W0 c) (tI K W0 s1) g1 (tT K W0 c1) (tZ K W0 e) vs vs1 σ H Q := by
  obtain ⟨t, st, r, q⟩ := h
  refine ⟨t, st, r, ?_⟩
  unfold gLc2 at q
  cases es : s st with
  | no => rw [es] at q; exact q
  | ex c x st' => rw [es] at q; exact q
  | ok ds st1 =>
    rw [es] at q
    intro t1 H1 J E1 R1 wk D hD
    have q1 : Res K W σ Q (IsRV K) t1 H1 ((lcO vs f c s1 vs1 f1 c1 e ds [] st1).bind fun acc st2 => .ok (.ow (.lst acc)) { st2 with env := keepE st1.env st2.env vs }) := Res.step0 E1 q
    have nD : t1 D = .non := R1.non hD
    obtain ⟨EL, RL, _⟩ := R1.laid (o := .lst []) hD
    let Fin : Out (List Dn.D) → Prop := fun o => Res K W σ Q (IsRV K) t1 H1 (o.bind fun acc st2 => .ok (.ow (.lst acc)) { st2 with env := keepE st1.env st2.env vs })
    -- the new list is still there
    have keepD : ∀ {ta tb Ha Hb} {av : List V}, Ext ta Ha tb Hb → ta D = .non → Ha D = some (.lst av) → tb D = .non ∧ Hb D = some (.lst av) := fun E n e => E.oth D _ n e
    refine ⟨fun i m H' => ∃ t' s' σ' acc av, Ext t1 H1 t' H' ∧ R K t' s' σ' H' ∧ σ'.length = σ.length ∧ (∀ j, j ∉ vs → σ'[j]? = σ[j]?) ∧ t' D = .non ∧ H' D = some (.lst av) ∧ Dats K (fz t' H') (rho t') acc av ∧ i + m = ds.length ∧ Fin (lcO vs f c s1 vs1 f1 c1 e (ds.drop i) acc s'),
      ⟨ds.length, t1, st1, σ, [], [], EL, RL, rfl, fun _ _ => rfl, nD, upd_same, Dats.nil, by omega, q1⟩, ?_⟩
    rintro i m H2 ⟨t2, s2, σ2, acc, av, E2, R2, l2, o2, n2, e2, m2, hl, q2⟩
    cases hd : ds[i]? with
    | none =>
      have hi : ds.length ≤ i := List.getElem?_eq_none_iff.mp hd
      rw [List.drop_eq_nil_of_le hi] at q2
      refine .inl ⟨wk.end_ t2 H2 E2.w.f i hi, ?_⟩
      have q3 : Res K W σ Q (IsRV K) t1 H1 (.ok (.ow (.lst acc)) { s2 with env := keepE st1.env s2.env vs }) := q2
      exact q3 t2 H2 (.ref D) E2 (R.kept R1 E2 R2 vs l2 o2) ⟨D, rfl, fun _ => hD, n2, av, e2, m2⟩
    | some d =>
      have hi : i < ds.length := (List.getElem?_eq_some_iff.mp hd).1
      obtain ⟨go, step⟩ := wk.at_ t2 H2 E2.w.f R2.tagOk i d hd
      have ed : ds.drop i = d :: ds.drop (i + 1) := by
        rw [List.drop_eq_getElem_cons hi]
        congr 1
        exact (List.getElem?_eq_some_iff.mp hd).2
      rw [ed] at q2
      refine .inr ⟨go, fun H' => ∃ m', m' < m ∧ ∃ t' s' σ' acc av, Ext t1 H1 t' H' ∧ R K t' s' σ' H' ∧ σ'.length = σ.length ∧ (∀ j, j ∉ vs → σ'[j]? = σ[j]?) ∧ t' D = .non ∧ H' D = some (.lst av) ∧ Dats K (fz t' H') (rho t') acc av ∧ (i + 1) + m' = ds.length ∧ Fin (lcO vs f c s1 vs1 f1 c1 e (ds.drop (i + 1)) acc s'),
        fun H' ⟨m', lt, z⟩ => ⟨m', lt, z⟩, fun x H3 hy => ?_⟩
      obtain ⟨t3, G3, d3⟩ := step x H3 hy
      have R3 := G3.st _ _ R2
      have E13 := E2.trans G3.ext
      obtain ⟨n3, e3⟩ := keepD G3.ext n2 e2
      have R4 := R3.wiped vs
      have ew : wipe σ2 vs = wipe σ vs := wipe_eq l2 o2
      rw [ew] at R4
      refine tg t3 _ (wipe σ vs) H3 d x _ R4 d3 ?_
      rw [lcO] at q2
      cases e4 : f d { s2 with env := wipeE s2.env vs } with
      | none => rw [e4] at q2; exact q2.elim
      | some s4 =>
        rw [e4] at q2
        dsimp only at q2
        intro σ4 l4 hs4 R5
        have l4 : σ4.length = σ.length := l4.trans (wipe_length _ _)
        have o4 : ∀ j, j ∉ vs → σ4[j]? = σ[j]? := fun j hj => (hs4 j fun z => hj (hsl j z)).trans (wipe_get hj)
        refine ⟨wipe_eq l4 o4, ?_⟩
        have nxt : ∀ {t' s' σ' H' acc' av'}, σ'.length = σ.length → (∀ j, j ∉ vs → σ'[j]? = σ[j]?) → Ext t1 H1 t' H' → R K t' s' σ' H' → t' D = .non → H' D = some (.lst av') → Dats K (fz t' H') (rho t') acc' av' → Fin (lcO vs f c s1 vs1 f1 c1 e (ds.drop (i + 1)) acc' s') →
            ∃ m', m' < m ∧ ∃ t' s' σ' acc av, Ext t1 H1 t' H' ∧ R K t' s' σ' H' ∧ σ'.length = σ.length ∧ (∀ j, j ∉ vs → σ'[j]? = σ[j]?) ∧ t' D = .non ∧ H' D = some (.lst av) ∧ Dats K (fz t' H') (rho t') acc av ∧ (i + 1) + m' = ds.length ∧ Fin (lcO vs f c s1 vs1 f1 c1 e (ds.drop (i + 1)) acc s') :=
          fun {t' s' σ' H' acc' av'} l o E' R' n' e' m' q' => ⟨m - 1, by omega, t', s', σ', acc', av', E', R', l, o, n', e', m', by omega, q'⟩
        refine ⟨t3, s4, R5, ?_⟩
        cases e5 : c s4 with
        | no => rw [e5] at q2; exact q2
        | ex _ _ _ => rw [e5] at q2; exact q2.elim
        | ok k s5 =>
          rw [e5] at q2
          intro t5 H5 E5 R6
          obtain ⟨n5, e5'⟩ := keepD E5 n3 e3
          have E15 := E13.trans E5
          have m5 := (G3.ext.trans E5).dats m2
          cases k with
          | false => exact nxt l4 o4 E15 R6 n5 e5' m5 q2
          | true =>
            have q2 : Fin ((s1 s5).bindN fun ds1 st3 => (lcI vs1 f1 c1 e ds1 acc st3).bindN fun acc st4 => lcO vs f c s1 vs1 f1 c1 e (ds.drop (i + 1)) acc st4) := q2
            refine ⟨t5, s5, R6, ?_⟩
            cases e6 : s1 s5 with
            | no => rw [e6] at q2; exact q2
            | ex _ _ _ => rw [e6] at q2; exact q2.elim
            | ok ds1 s6 =>
              rw [e6] at q2
              have q2 : Fin ((lcI vs1 f1 c1 e ds1 acc s6).bindN fun acc st4 => lcO vs f c s1 vs1 f1 c1 e (ds.drop (i + 1)) acc st4) := q2
              intro t6 H6 J1 E6 R7 wk1
              obtain ⟨n6, e6'⟩ := keepD E6 n5 e5'
              have E16 := E15.trans E6
              have m6 := E6.dats m5
              refine ⟨fun j k H' => ∃ t' s' σ' acc av, Ext t1 H1 t' H' ∧ ExtF t6 H6 t' H' ∧ R K t' s' σ' H' ∧ σ'.length = σ4.length ∧ (∀ j, j ∉ vs1 → σ'[j]? = σ4[j]?) ∧ t' D = .non ∧ H' D = some (.lst av) ∧ Dats K (fz t' H') (rho t') acc av ∧ acc.length = av.length ∧ j + k = ds1.length ∧ Fin ((lcI vs1 f1 c1 e (ds1.drop j) acc s').bindN fun acc st4 => lcO vs f c s1 vs1 f1 c1 e (ds.drop (i + 1)) acc st4),
                ⟨ds1.length, t6, s6, σ4, acc, av, E16, ExtF.refl _ _, R7, rfl, fun _ _ => rfl, n6, e6', m6, m6.length, by omega, q2⟩, ?_⟩
              rintro j kk H7 ⟨t7, s7, σ7, acc7, av7, E17, F7, R8, l7, o7, n7, e7, m7, len7, hl7, q7⟩
              have l7' : σ7.length = σ.length := l7.trans l4
              have o7' : ∀ j, j ∉ vs → σ7[j]? = σ[j]? := fun j hj => (o7 j fun z => hj (hv j z)).trans (o4 j hj)
              cases hd1 : ds1[j]? with
              | none =>
                have hi1 : ds1.length ≤ j := List.getElem?_eq_none_iff.mp hd1
                rw [List.drop_eq_nil_of_le hi1] at q7
                refine .inl ⟨wk1.end_ t7 H7 F7 j hi1, ?_⟩
                exact nxt l7' o7' E17 R8 n7 e7 m7 q7
              | some d1 =>
                have hi1 : j < ds1.length := (List.getElem?_eq_some_iff.mp hd1).1
                obtain ⟨go1, step1⟩ := wk1.at_ t7 H7 F7 R8.tagOk j d1 hd1
                have ed1 : ds1.drop j = d1 :: ds1.drop (j + 1) := by
                  rw [List.drop_eq_getElem_cons hi1]
                  congr 1
                  exact (List.getElem?_eq_some_iff.mp hd1).2
                rw [ed1] at q7
                refine .inr ⟨go1, fun H' => ∃ k', k' < kk ∧ ∃ t' s' σ' acc av, Ext t1 H1 t' H' ∧ ExtF t6 H6 t' H' ∧ R K t' s' σ' H' ∧ σ'.length = σ4.length ∧ (∀ j, j ∉ vs1 → σ'[j]? = σ4[j]?) ∧ t' D = .non ∧ H' D = some (.lst av) ∧ Dats K (fz t' H') (rho t') acc av ∧ acc.length = av.length ∧ (j + 1) + k' = ds1.length ∧ Fin ((lcI vs1 f1 c1 e (ds1.drop (j + 1)) acc s').bindN fun acc st4 => lcO vs f c s1 vs1 f1 c1 e (ds.drop (i + 1)) acc st4),
                  fun H' ⟨k', lt, z⟩ => ⟨k', lt, z⟩, fun x1 H8 hy1 => ?_⟩
                obtain ⟨t8, G8, d8⟩ := step1 x1 H8 hy1
                have R9 := G8.st _ _ R8
                have E18 := E17.trans G8.ext
                have F8 := F7.trans G8.ext.w.f
                obtain ⟨n8, e8⟩ := keepD G8.ext n7 e7
                have R10 := R9.wiped vs1
                have ew1 : wipe σ7 vs1 = wipe σ4 vs1 := wipe_eq l7 o7
                rw [ew1] at R10
                refine tg1 t8 _ (wipe σ4 vs1) H8 d1 x1 _ R10 d8 ?_
                rw [lcI] at q7
                cases e9 : f1 d1 { s7 with env := wipeE s7.env vs1 } with
                | none => rw [e9] at q7; exact q7.elim
                | some s9 =>
                  rw [e9] at q7
                  dsimp only at q7
                  intro σ9 l9 hs9 R11
                  have l9 : σ9.length = σ4.length := l9.trans (wipe_length _ _)
                  have o9 : ∀ j, j ∉ vs1 → σ9[j]? = σ4[j]? := fun j hj => (hs9 j fun z => hj (hsl1 j z)).trans (wipe_get hj)
                  refine ⟨wipe_eq l9 o9, ?_⟩
                  refine ⟨t8, s9, R11, ?_⟩
                  cases e10 : c1 s9 with
                  | no => rw [e10] at q7; exact q7
                  | ex _ _ _ => rw [e10] at q7; exact q7.elim
                  | ok k1 s10 =>
                    rw [e10] at q7
                    intro t10 H10 E10 R12
                    obtain ⟨n10, e10'⟩ := keepD E10 n8 e8
                    have E110 := E18.trans E10
                    have F10 := F8.trans E10.w.f
                    have m10 := (G8.ext.trans E10).dats m7
                    cases k1 with
                    | false => exact ⟨kk - 1, by omega, t10, s10, σ9, acc7, av7, E110, F10, R12, l9, o9, n10, e10', m10, len7, by omega, q7⟩
                    | true =>
                      have q7 : Fin (((e s10).bindN fun x st3 => if acc7.length < sizeLine then lcI vs1 f1 c1 e (ds1.drop (j + 1)) (acc7 ++ [x]) st3 else .no).bindN fun acc st4 => lcO vs f c s1 vs1 f1 c1 e (ds.drop (i + 1)) acc st4) := q7
                      refine ⟨t10, s10, R12, ?_⟩
                      cases e11 : e s10 with
                      | no => rw [e11] at q7; exact q7
                      | ex _ _ _ => rw [e11] at q7; exact q7.elim
                      | ok x11 s11 =>
                        rw [e11] at q7
                        have q7 : Fin ((if acc7.length < sizeLine then lcI vs1 f1 c1 e (ds1.drop (j + 1)) (acc7 ++ [x11]) s11 else .no).bindN fun acc st4 => lcO vs f c s1 vs1 f1 c1 e (ds.drop (i + 1)) acc st4) := q7
                        split at q7
                        · rename_i hz
                          intro t11 H11 y11 E11 R13 p11
                          obtain ⟨n11, e11'⟩ := keepD E11 n10 e10'
                          refine ⟨av7, e11', by omega, ?_⟩
                          have R14 := R13.updNon (o := .lst (av7 ++ [y11])) n11
                          have le11 : Le (fz t11 H11) (fz t11 (upd H11 D (.lst (av7 ++ [y11])))) := fun b u h => by
                            obtain ⟨h1, h2⟩ := of_fz h
                            have ne : b ≠ D := fun e => by rw [e, n11] at h1; cases h1
                            rw [fz_of h1, upd_ne ne]; exact h2
                          have E111 := E110.trans E11
                          have F11 := F10.trans E11.w.f
                          refine ⟨kk - 1, by omega, t11, s11, σ9, acc7 ++ [x11], av7 ++ [y11], ⟨fun b hb => ?_, E111.cel, fun b u hb e => ?_, fun b j u hb e => ?_⟩, ⟨fun b hb => ?_, F11.cel⟩, R14, l9, o9, n11, upd_same, ((E11.dats m10).append (Dats.cons p11 Dats.nil)).mono le11 fun _ _ h => h, by simp [len7], by omega, q7⟩
                          · obtain ⟨h1, h2⟩ := E111.frz b hb
                            have ne : b ≠ D := fun e => by rw [e, nD] at hb; cases hb
                            exact ⟨h1, by rw [upd_ne ne]; exact h2⟩
                          · obtain ⟨h1, h2⟩ := E111.oth b u hb e
                            have ne : b ≠ D := fun z => by rw [z, hD] at e; cases e
                            exact ⟨h1, by rw [upd_ne ne]; exact h2⟩
                          · obtain ⟨h1, h2⟩ := E111.slt b j u hb e
                            have ne : b ≠ D := fun z => by rw [z, hD] at e; cases e
                            exact ⟨by rw [upd_ne ne]; exact h1, h2⟩
                          · obtain ⟨h1, h2⟩ := F11.frz b hb
                            have ne : b ≠ D := fun e => by rw [e, n6] at hb; cases hb
                            exact ⟨h1, by rw [upd_ne ne]; exact h2⟩
                        · exact q7.elim
section
variable {X : Cx} {W : WX} {pos : Pos}
theorem lc2 {elt tg iter tg1 iter1 : Expr} {ifs ifs1 : List Expr} {scope : Scope} (own : List (Str × Nat)) (vs1 : List Nat) {s s1 : DL} {g g1 : TG} {f f1 : GT} {c c1 : DT} {ze : DZ} {sl sl1 : List Nat} (hc : X.calm = true) (hN : X.N.Nodup) (hi : PI X tg iter (tI X.K W s)) (tk : TgOk X.K g f sl) (tk1 : TgOk X.K g1 f1 sl1)
    (hg : ∀ (s : Shared) (H : Hp) (C : Addr) (cl : List (Str × Addr)) (fp : List Addr), PG (X.blk s H scope (compEnvC scope cl C X.env) fp) tg g) (ht : ∀ (s : Shared) (H : Hp) (C : Addr) (cl : List (Str × Addr)) (fp : List Addr), PTs (X.blk s H scope (compEnvC scope cl C X.env) fp) ifs (tT X.K W0 c))
    (hi1 : ∀ (s : Shared) (H : Hp) (C : Addr) (cl : List (Str × Addr)) (fp : List Addr), PI (X.blk s H scope (compEnvC scope cl C X.env) fp) tg1 iter1 (tI X.K W0 s1))
    (hg1 : ∀ (s : Shared) (H : Hp) (C : Addr) (cl : List (Str × Addr)) (fp : List Addr), PG (X.blk s H scope (compEnvC scope cl C X.env) fp) tg1 g1) (ht1 : ∀ (s : Shared) (H : Hp) (C : Addr) (cl : List (Str × Addr)) (fp : List Addr), PTs (X.blk s H scope (compEnvC scope cl C X.env) fp) ifs1 (tT X.K W0 c1))
    (he : ∀ (s : Shared) (H : Hp) (C : Addr) (cl : List (Str × Addr)) (fp : List Addr), PE (X.blk s H scope (compEnvC scope cl C X.env) fp) elt (tZ X.K W0 ze))
    (ok : blkC X.N X.env.scope scope own = true := by kernel_rfl) (hsl : ∀ j ∈ sl, j ∈ own.map (·.2) := by decide) (hsl1 : ∀ j ∈ sl1, j ∈ vs1 := by decide) (hv : ∀ j ∈ vs1, j ∈ own.map (·.2) := by decide) (hs : ∀ x, foldedSetIterable iter X.env x = pure x := by intro _; rfl) (hs1 : ∀ env x, foldedSetIterable iter1 env x = pure x := by intro _ _; rfl) :
    PE X (.ListComp elt [⟨tg, iter, ifs, 0⟩, ⟨tg1, iter1, ifs1, 0⟩] scope pos) (tD X.K W (gLc2 s (own.map (·.2)) f c s1 vs1 f1 c1 ze)) :=
  PE.imp (pe_lc2 hc hN hi (blkOk_by ok) hv hg ht hi1 hg1 ht1 he hs hs1) fun _ _ _ q => lc2_of tk hsl tk1 hsl1 hv q
theorem sSetLc2 (i : Nat) {elt tg iter tg1 iter1 : Expr} {ifs ifs1 : List Expr} {scope : Scope} {y : Str} {py spos : Pos} (own : List (Str × Nat)) (vs1 : List Nat) {s s1 : DL} {g g1 : TG} {f f1 : GT} {c c1 : DT} {ze : DZ} {sl sl1 : List Nat} (hc : X.calm = true) (hN : X.N.Nodup) (hi : PI X tg iter (tI X.K W s)) (tk : TgOk X.K g f sl) (tk1 : TgOk X.K g1 f1 sl1)
    (hg : ∀ (s : Shared) (H : Hp) (C : Addr) (cl : List (Str × Addr)) (fp : List Addr), PG (X.blk s H scope (compEnvC scope cl C X.env) fp) tg g) (ht : ∀ (s : Shared) (H : Hp) (C : Addr) (cl : List (Str × Addr)) (fp : List Addr), PTs (X.blk s H scope (compEnvC scope cl C X.env) fp) ifs (tT X.K W0 c))
    (hi1 : ∀ (s : Shared) (H : Hp) (C : Addr) (cl : List (Str × Addr)) (fp : List Addr), PI (X.blk s H scope (compEnvC scope cl C X.env) fp) tg1 iter1 (tI X.K W0 s1))
    (hg1 : ∀ (s : Shared) (H : Hp) (C : Addr) (cl : List (Str × Addr)) (fp : List Addr), PG (X.blk s H scope (compEnvC scope cl C X.env) fp) tg1 g1) (ht1 : ∀ (s : Shared) (H : Hp) (C : Addr) (cl : List (Str × Addr)) (fp : List Addr), PTs (X.blk s H scope (compEnvC scope cl C X.env) fp) ifs1 (tT X.K W0 c1))
    (he : ∀ (s : Shared) (H : Hp) (C : Addr) (cl : List (Str × Addr)) (fp : List Addr), PE (X.blk s H scope (compEnvC scope cl C X.env) fp) elt (tZ X.K W0 ze))
    (hy : X.N[i]? = some y := by rfl) (hyl : X.env.scope.names.lookup y = some .local := by rfl) (hsw : swapsWith (.ListComp elt [⟨tg, iter, ifs, 0⟩, ⟨tg1, iter1, ifs1, 0⟩] scope pos) (some (.Name y py)) spos.line X.env = pure true := by rfl)
    (ok : blkC X.N X.env.scope scope own = true := by kernel_rfl) (hsl : ∀ j ∈ sl, j ∈ own.map (·.2) := by decide) (hsl1 : ∀ j ∈ sl1, j ∈ vs1 := by decide) (hv : ∀ j ∈ vs1, j ∈ own.map (·.2) := by decide) (hs : ∀ x, foldedSetIterable iter X.env x = pure x := by intro _; rfl) (hs1 : ∀ env x, foldedSetIterable iter1 env x = pure x := by intro _ _; rfl) :
    PS X (.Assign [.Name y py] (.ListComp elt [⟨tg, iter, ifs, 0⟩, ⟨tg1, iter1, ifs1, 0⟩] scope pos) spos) (tS X.K W (gSet i (gLc2 s (own.map (·.2)) f c s1 vs1 f1 c1 ze))) :=
  PS.imp (ps_setLc2 hc hN hy hyl hsw hi (blkOk_by ok) hv hg ht hi1 hg1 ht1 he hs hs1) fun D σ H q => lc2_of (W := W) tk hsl tk1 hsl1 hv (set_of q)
end
end Dn
end

section
set_option maxHeartbeats 4000000
-- De7
/-! De7: set(a list), sorted, for ints -/
namespace SetL
open PySem PySem.Spec PyProof.Rows L2
abbrev fresh (w : World) : Obj := { cls := .type "set", dict := none, data := .set #[] 0 (.fresh 0 0 (!w.params.followText "set-order")) }
/-- how a set is filled from what is walked: what is then true of it -/
def Fills (P : Program) (w : World) (n : Nat) (item : Nat → Value → Prop) (G : Addr → Heap → Prop) : Prop :=
  ∀ (A : Around) (I S : Addr) (fp wr : List Addr) (Gn : Array GenState → Array GenState → Prop) (Pv : Nat → Value → Prop) (St : Nat → Shared → Prop) (R : Result → Shared → Prop) (s : Shared), WalksS P w A.in1 I fp wr Gn n Pv St → (∀ i v, Pv i v → item i v) → S ∉ fp → St 0 s →
    s.heap.get? S = some (fresh w) → (∀ s', Moved (S :: wr) Gn s s' → G S s'.heap → R (.ok (.ret .none)) s') → codeAny (model P w) A (.builtin "set.update.loop" ⟨[.ref S, .ref I], []⟩) R s
theorem fills_ints {P : Program} {w : World} (ns : List Int) (hb : ns.length + 1 < scanBound) : Fills P w ns.length (fun i v => ∃ k t, ns[i]? = some k ∧ v = .int k t) (fun S h => ∃ c, c ≤ ns.length ∧ SetR w h S (fun j => decide (j ∈ ns)) c) :=
  fun A I S fp wr Gn Pv St R s W hv hS st hf hR =>
    set_update_ints W S hS ns rfl hb hv ns.length 0 s rfl (Nat.zero_le _) st ⟨0, Nat.le_refl _, setR_new_at hf⟩ fun s' c m hc h => hR s' m ⟨c, hc, h⟩
section
variable {P : Program} {w : World} {A : Around} {E : Value → Shared → Prop} {s : Shared}
/-- set.__init__ of a new set and a list -/
theorem init_list {l S : Addr} {items : Array Value} {G : Addr → Heap → Prop} {item : Nat → Value → Prop} (hh : A.handled = none) (hl : s.heap.IsList l items) (hS : s.heap.get? S = some (fresh w)) (ne : l ≠ S) (F : Fills P w items.size item G) (hi : ∀ i v, items[i]? = some v → item i v)
    {R : Result → Shared → Prop} (fin : ∀ h' tk, G S h' → (∀ b o, b ≠ S → s.heap.get? b = some o → h'.get? b = some o) → R (.ok (.ret .none)) { s with heap := h', toks := tk }) :
    wpAny (model P w) A.in1 (Builtin.«set.__init__» ⟨[.ref S, .ref l], []⟩) (fun fin s' => match fin with
      | .done f => R (.ok f) s'
      | .again c' => c'.quiet = true ∧ codeAny (model P w) A c' R s') (fun e s' => R (.error e) s') s := by
  have hT : s.TypeIs (.ref S) "set" := ⟨_, hS, rfl⟩
  obtain ⟨⟨lc, ld, ldat, lsl⟩, g1, g2, nl, g3⟩ := id hl
  obtain rfl : lc = Value.type "list" := g2
  simp only at g3
  subst g3
  have q1 := PySem.F.sub_list_set
  have q2 := PySem.F.sub_list_frozenset
  have q3 : (Value.type "list" == Value.type "dict") = false := by decide
  unfold Builtin.«set.__init__» noKeywords Builtin.Frozenset.updateFrom
  generalize hPI : pyIter = PI
  wp_walk
  subst hPI
  refine wpAny_pyIter_list hl (wpAny_bind (wpAny_runValue ?_))
  have lS : S < s.heap.objs.size := Heap.lt_size hS
  have ll : l < s.heap.objs.size := Heap.lt_size g1
  have nI : l ≠ s.heap.objs.size := Nat.ne_of_lt ll
  have out : S ∉ [s.heap.objs.size, l] := fun z => by
    rcases List.mem_cons.mp z with z | z
    · exact Nat.ne_of_lt lS z
    · exact ne (List.mem_singleton.mp z).symm
  have hd3 : A.in1.in1.handled = none := hh
  refine F _ _ S _ _ _ _ _ _ _ (Walks.list hd3 _ l nI items).toS hi out ⟨⟨_, Heap.get?_push_size _ rfl, rfl, rfl⟩, hl.push _⟩ (Heap.get?_push_of_some _ hS) fun s' hm hg => ?_
  obtain ⟨h', g2, d', tk', os'⟩ := s'
  obtain rfl : g2 = s.gens := hm.gens
  obtain rfl : d' = s.drawn := hm.drawn
  obtain rfl : os' = s.os := hm.os
  refine wpAny_pure (show wpAny _ _ (ret Value.none) _ _ _ from wpAny_pure (fin h' tk' hg fun b o nb e => hm.heap b o (fun z => ?_) (Heap.get?_push_of_some _ e)))
  rcases List.mem_cons.mp z with z | z
  · exact nb z
  · exact Nat.ne_of_lt (Heap.lt_size e) (List.mem_singleton.mp z)
/-- set(l), l a list -/
theorem call_list {l : Addr} {items : Array Value} {Q : Value → Shared → Prop} {G : Addr → Heap → Prop} {item : Nat → Value → Prop} (hh : A.handled = none) (hl : s.heap.IsList l items) (F : Fills P w items.size item G) (hi : ∀ i v, items[i]? = some v → item i v)
    (h : ∀ (h' : Heap) (tk : Nat), G s.heap.objs.size h' → (∀ b o, s.heap.get? b = some o → h'.get? b = some o) → Q (.ref s.heap.objs.size) { s with heap := h', toks := tk }) : wpAny (model P w) A (call (.type "set") [.ref l]) Q E s := by
  have ll : l < s.heap.objs.size := by
    obtain ⟨o, e, _⟩ := id hl
    exact Heap.lt_size e
  obtain ⟨cc, rest, z1⟩ := PySem.F.called_set.mro
  have z2 := PySem.F.called_set.made
  have z3 := PySem.F.called_set.sub
  have z4 := PySem.F.called_set.notType
  have z5 := PySem.F.called_set.canCreate
  have z6 := PySem.F.typeCall_set_1 (.ref l)
  refine wpAny_call (codeAny_of_tree (show wpAny _ _ (callAny (.type "set") _) _ _ _ from wpAny_pure ⟨Code.quiet_builtin _ (by decide +kernel), codeAny_builtin PySem.F.entry_type_call ?_⟩))
  rw [Around.under_plain (weight_type_call_type "set" [.ref l] []) rfl]
  repeat (any_goals (first | assumption | wp_step))
  refine codeAny_mono (code_set_led1 (.ref l) (E := E) (Q₁ := fun obj s₁ => obj = .ref s.heap.objs.size ∧ s₁ = { s with heap := s.heap.push (fresh w) }) ⟨rfl, rfl⟩) fun r s₁ hr => ?_
  match r, hr with
  | .error e, hr => exact hr
  | .ok .next, hr => exact False.elim hr
  | .ok .brk, hr => exact False.elim hr
  | .ok .cont, hr => exact False.elim hr
  | .ok (.ret obj), ⟨e1, e2⟩ =>
    subst e1 e2
    have new : (s.heap.push (fresh w)).get? s.heap.objs.size = some (fresh w) := Heap.get?_push_size _ rfl
    have hT : Shared.TypeIs { s with heap := s.heap.push (fresh w) } (.ref s.heap.objs.size) "set" := ⟨_, new, rfl⟩
    have y1 := PySem.F.called_set.init.lookup
    have y2 := PySem.F.called_set.init.bind (.ref s.heap.objs.size)
    repeat (any_goals (first | assumption | wp_step))
    refine codeAny_mono (codeAny_call_builtin (R := wants (fun r s₂ => r = .none ∧ Q (.ref s.heap.objs.size) s₂) E) PySem.F.called_set.init.plain PySem.F.entry_set_init (check_set_init_1 hT ?_)) fun r₂ s₂ hr₂ => ?_
    · refine init_list (s := { s with heap := s.heap.push (fresh w) }) (by simp [hh]) (hl.push _) new (Nat.ne_of_lt ll) F hi fun h' tk hg k => ?_
      exact ⟨rfl, h h' tk hg fun b o e => k b o (Nat.ne_of_lt (Heap.lt_size e)) (Heap.get?_push_of_some _ e)⟩
    · match r₂, hr₂ with
      | .error e, hr => exact hr
      | .ok .next, hr => exact False.elim hr
      | .ok .brk, hr => exact False.elim hr
      | .ok .cont, hr => exact False.elim hr
      | .ok (.ret r), ⟨e1, hq⟩ =>
        subst e1
        repeat (any_goals (first | assumption | wp_step))
end
end SetL
end

section
set_option maxHeartbeats 4000000
-- De8
/-! De8: sorted(list of ints), sorted(set(list of ints)), len(set(..)) -/
namespace Dn
open PySem PySem.Spec L2
/-! the plain side -/
def insI (x : Int) : List Int → List Int
  | [] => [x]
  | y :: ys => if x ≤ y then x :: y :: ys else y :: insI x ys
def srtI : List Int → List Int
  | [] => []
  | x :: xs => insI x (srtI xs)
/-- ascending, each once -/
def insU (x : Int) : List Int → List Int
  | [] => [x]
  | y :: ys => if x < y then x :: y :: ys else if x = y then y :: ys else y :: insU x ys
def srtU : List Int → List Int
  | [] => []
  | x :: xs => insU x (srtU xs)
theorem insI_perm (x : Int) : ∀ l, (insI x l).Perm (x :: l)
  | [] => .refl _
  | y :: ys => by
    unfold insI
    split
    · exact .refl _
    · exact ((insI_perm x ys).cons y).trans (.swap x y ys)
theorem srtI_perm : ∀ l, (srtI l).Perm l
  | [] => .refl _
  | x :: xs => (insI_perm x _).trans ((srtI_perm xs).cons x)
theorem insI_le (x : Int) : ∀ l, l.Pairwise (· ≤ ·) → (insI x l).Pairwise (· ≤ ·)
  | [], _ => List.pairwise_singleton _ _
  | y :: ys, h => by
    obtain ⟨h1, h2⟩ := List.pairwise_cons.mp h
    unfold insI
    split
    · rename_i hx
      exact List.pairwise_cons.mpr ⟨fun z hz => by
        rcases List.mem_cons.mp hz with e | e
        · omega
        · have := h1 z e; omega, h⟩
    · rename_i hx
      refine List.pairwise_cons.mpr ⟨fun z hz => ?_, insI_le x ys h2⟩
      rcases List.mem_cons.mp ((insI_perm x ys).mem_iff.mp hz) with e | e
      · omega
      · exact h1 z e
theorem srtI_le : ∀ l, (srtI l).Pairwise (· ≤ ·)
  | [] => .nil
  | x :: xs => insI_le x _ (srtI_le xs)
theorem sorted_uniq : ∀ {l m : List Int}, l.Perm m → l.Pairwise (· ≤ ·) → m.Pairwise (· ≤ ·) → l = m
  | l, m, p, hl, hm => List.Perm.eq_of_pairwise (le := (· ≤ ·)) (fun a b _ _ h1 h2 => by omega) hl hm p
theorem insU_mem (x : Int) : ∀ l k, k ∈ insU x l ↔ k = x ∨ k ∈ l
  | [], k => by simp [insU]
  | y :: ys, k => by
    unfold insU
    split
    · simp
    · split
      · rename_i e
        subst e
        simp
      · rw [List.mem_cons, insU_mem x ys k, List.mem_cons]
        constructor
        · rintro (h | h | h)
          · exact .inr (.inl h)
          · exact .inl h
          · exact .inr (.inr h)
        · rintro (h | h | h)
          · exact .inr (.inl h)
          · exact .inl h
          · exact .inr (.inr h)
theorem srtU_mem : ∀ l k, k ∈ srtU l ↔ k ∈ l
  | [], k => .rfl
  | x :: xs, k => by
    show k ∈ insU x (srtU xs) ↔ _
    rw [insU_mem, srtU_mem xs k, List.mem_cons]
theorem insU_lt (x : Int) : ∀ l, l.Pairwise (· < ·) → (insU x l).Pairwise (· < ·)
  | [], _ => List.pairwise_singleton _ _
  | y :: ys, h => by
    obtain ⟨h1, h2⟩ := List.pairwise_cons.mp h
    unfold insU
    split
    · rename_i hx
      exact List.pairwise_cons.mpr ⟨fun z hz => by
        rcases List.mem_cons.mp hz with e | e
        · omega
        · have := h1 z e; omega, h⟩
    · split
      · exact h
      · refine List.pairwise_cons.mpr ⟨fun z hz => ?_, insU_lt x ys h2⟩
        rcases (insU_mem x ys z).mp hz with e | e
        · omega
        · exact h1 z e
theorem srtU_lt : ∀ l, (srtU l).Pairwise (· < ·)
  | [] => .nil
  | x :: xs => insU_lt x _ (srtU_lt xs)
theorem strict_uniq : ∀ {l m : List Int}, l.Pairwise (· < ·) → m.Pairwise (· < ·) → (∀ k, k ∈ l ↔ k ∈ m) → l = m
  | [], [], _, _, _ => rfl
  | [], y :: ys, _, _, h => absurd ((h y).mpr List.mem_cons_self) (by simp)
  | x :: xs, [], _, _, h => absurd ((h x).mp List.mem_cons_self) (by simp)
  | x :: xs, y :: ys, hl, hm, h => by
    obtain ⟨a1, a2⟩ := List.pairwise_cons.mp hl
    obtain ⟨b1, b2⟩ := List.pairwise_cons.mp hm
    have e : x = y := by
      rcases List.mem_cons.mp ((h x).mp List.mem_cons_self) with e | e
      · exact e
      · rcases List.mem_cons.mp ((h y).mpr List.mem_cons_self) with q | q
        · exact q.symm
        · have := a1 y q; have := b1 x e; omega
    subst e
    refine congrArg (x :: ·) (strict_uniq a2 b2 fun k => ?_)
    constructor
    · intro hk
      rcases List.mem_cons.mp ((h k).mp (List.mem_cons_of_mem _ hk)) with e | e
      · have := a1 k hk; omega
      · exact e
    · intro hk
      rcases List.mem_cons.mp ((h k).mpr (List.mem_cons_of_mem _ hk)) with e | e
      · have := b1 k hk; omega
      · exact e
def intsOf : List D → Option (List Int)
  | [] => some []
  | .int i :: ds => (intsOf ds).map (i :: ·)
  | _ :: _ => none
def intL (ns : List Int) : List D := ns.map D.int
theorem ints_v {K : PySem.W.Frag} {F : Hp} {r : Nat → Addr → Prop} : ∀ {ds : List D} {vs : List V} {ns : List Int}, intsOf ds = some ns → Dats K F r ds vs → vs = ns.map V.int
  | [], vs, ns, e, h => by cases e; rw [Dats] at h; exact h
  | d :: ds, vs, ns, e, h => by
    rw [Dats] at h
    obtain ⟨v, us, rfl, h1, h2⟩ := h
    cases d with
    | int i =>
      have e : (intsOf ds).map (i :: ·) = some ns := e
      obtain ⟨ms, e1, rfl⟩ := Option.map_eq_some_iff.mp e
      rw [Dat] at h1
      subst h1
      rw [ints_v e1 h2]
      rfl
    | _ => cases e
theorem dats_ints {K : PySem.W.Frag} {F : Hp} {r : Nat → Addr → Prop} : ∀ ns : List Int, Dats K F r (intL ns) (ns.map V.int)
  | [] => Dats.nil
  | n :: ns => Dats.cons (by rw [Dat]) (dats_ints ns)
def sortedSetD : List D → Option RV
  | [.lst xs] => match intsOf xs with
    | some ns => if ns.length < 64 then some (.ow (.lst (intL (srtU ns)))) else none
    | none => none
  | _ => none
def rSetL (K : PySem.W.Frag) (w : World) : List V → Hp → VK → Prop := fun xs H Q => ∃ (l : Addr) (ns : List Int), xs = [V.ref l] ∧ SqL K H l (ns.map V.int) ∧ ns.length + 1 < scanBound ∧ ∀ p c, H p = none → c ≤ ns.length → Q (.ref p) (upd H p (SetO w p (fun j => decide (j ∈ ns)) c))
section
variable {X : Cx} {W : WX} {a : Expr} {z : DZ} {p p2 q pos : Pos}
theorem cr_setL (hc : X.calm = true) : CallR X (.type "set") (rSetL X.K X.w) := by
  intro pins s σ H xs us Q I r h
  obtain ⟨l, ns, rfl, hs, hb, k⟩ := h
  obtain ⟨its, rv, hl, hz⟩ := I.list hs
  rw [Vals.ref1 r]
  have hi := rv.ints
  have hlen : its.toArray.size = ns.length := by
    have := rv.length
    simp at this
    simp [this]
  refine SetL.call_list (I.ok.hd hc) hl.isList (G := fun S h => ∃ c, c ≤ ns.length ∧ SetR X.w h S (fun j => decide (j ∈ ns)) c) (item := fun i v => ∃ k t, ns[i]? = some k ∧ v = .int k t) (by rw [hlen]; exact SetL.fills_ints ns hb) (fun i v hv => ?_) fun h' tk ⟨c, hcn, R⟩ kp => ?_
  · have hiL : i < ns.length := by rw [← hlen]; exact (Array.getElem?_eq_some_iff.mp hv).1
    obtain ⟨t, e⟩ := PyProof.Rows.IntsAre.int_at hi i v (by simpa using hv)
    exact ⟨ns[i], t, List.getElem?_eq_getElem hiL, by rw [e, List.getD_eq_getElem?_getD, List.getElem?_eq_getElem hiL]; rfl⟩
  · exact ⟨.ref s.heap.objs.size, _, I.laid (t' := tk) kp (Nat.le_refl _) (setO_new R), rfl, k _ c (I.hok.fresh (Nat.le_refl _)) hcn⟩
/-- sorted(set(e)) -/
theorem de_sortedSet (hc : X.calm = true) (hms : X.mg "sorted" = none) (hmt : X.mg "set" = none) (ha : PE X a (tV X.K W z)) (hgs : Gl X "sorted" := by rfl) (hgt : Gl X "set" := by rfl)
    (h1 : starEach [a] X.env = (false, eval a X.env) :: starEach [] X.env := by rfl) (h2 : starEach [Expr.Call (.Name "set" p2) [a] [] q] X.env = (false, eval (Expr.Call (.Name "set" p2) [a] [] q) X.env) :: starEach [] X.env := by rfl)
    (hp1 : (backTo q (starEach [] X.env)).any (·.1) = false := by rfl) (hp2 : (backTo pos (starEach [] X.env)).any (·.1) = false := by rfl) :
    PE X (.Call (.Name "sorted" p) [.Call (.Name "set" p2) [a] [] q] [] pos) (tD X.K W (gCall sortedSetD (gConsA z gNilA))) := by
  have set_ := pe_callTy (x := "set") (p := p2) (pos := q) (cr_setL (X := X) hc) hgt hmt (by decide +kernel) (pa_cons ha pa_nil h1) (by decide) (by decide) h1 hp1
  refine PE.imp (pe_callB (cr_sortedSet hc) hgs hms (by decide +kernel) (pa_cons set_ pa_nil h2) (by decide) (by decide) h2 hp2) fun σ H Q ⟨t, st, r, k⟩ => ?_
  have k : Res X.K W σ Q (IsRV X.K) t H ((z st).bind fun d st => opt (sortedSetD [d]) st) := by
    unfold gCall gConsA gNilA at k
    rw [bind_bind] at k
    exact k
  refine tG_at r k fun t1 st1 H1 d v E1 R1 p1 k1 => ?_
  have k2 := res_opt R1 (Res.step0 E1 k1)
  unfold sortedSetD at k2
  split at k2
  · rename_i xs e0
    cases e0
    cases e1 : intsOf xs with
    | none => rw [e1] at k2; exact k2.elim
    | some ns =>
      rw [e1] at k2
      dsimp only at k2
      split at k2
      · rename_i h64
        obtain ⟨l, vs, rfl, sl, _, m⟩ := p1
        have ev := ints_v e1 m
        subst ev
        refine ⟨l, ns, rfl, SqL.of sl, ?_, fun p c np hcn => ?_⟩
        · unfold scanBound; omega
        · refine ⟨p, _, c, rfl, upd_same, by omega, fun ms p' hlt hm _ np' => ?_⟩
          have e : ms = srtU ns := strict_uniq hlt (srtU_lt ns) fun k => by rw [hm k, decide_eq_true_eq, srtU_mem]
          subst e
          obtain ⟨G1, n1⟩ := grow_upd (K := X.K) (o := SetO X.w p (fun j => decide (j ∈ ns)) c) R1.tagOk np
          have R2 := G1.st _ _ R1
          have np0 : H1 p' = none := by
            have ne : p' ≠ p := fun e => by rw [e, upd_same] at np'; cases np'
            rw [upd_ne ne] at np'; exact np'
          obtain ⟨G2, n2⟩ := grow_upd (K := X.K) (o := .lst ((srtU ns).map V.int)) R2.tagOk np'
          exact k2 t1 _ (.ref p') (G1.trans G2) ⟨p', rfl, fun _ => np0, n2, _, upd_same, dats_ints _⟩
      · exact k2.elim
  · exact k2.elim
/-- sorted(l) -/
def sortedD : List D → Option RV
  | [.lst xs] => match intsOf xs with
    | some ns => some (.ow (.lst (intL (srtI ns))))
    | none => none
  | _ => none
theorem cr_sortedD : CallR X (.builtin "sorted") (rC X.K sortedD) := by
  intro pins s σ H vs us Q I r ⟨t, ds, tg, m, h⟩
  unfold sortedD at h
  split at h
  · rename_i xs
    obtain ⟨v, rfl, dv⟩ := vws1 m
    cases e1 : intsOf xs with
    | none => rw [e1] at h; exact h.elim
    | some ns =>
      rw [e1] at h
      obtain ⟨l, vs, rfl, sl, _, mm⟩ := dv
      have ev := ints_v e1 mm
      subst ev
      refine cr_sortedI pins s σ H _ us Q I r ⟨l, ns, rfl, SqL.of sl, fun ms p hp hle np => ?_⟩
      have e : ms = srtI ns := sorted_uniq (hp.trans (srtI_perm ns).symm) hle (srtI_le ns)
      subst e
      exact h.newL tg (dats_ints _) p np
  · exact h.elim
end
end Dn
end

section
set_option maxHeartbeats 4000000
-- De9
/-! De9: dicts with texts and ints as keys -/
namespace Dn
open PySem PySem.Spec L2
def keyD : D → Option Key
  | .int i => some (.inl i)
  | .str x => some (.inr x)
  | _ => none
def getKD : List (D × D) → Key → Option D
  | [], _ => none
  | (a, d) :: r, k => if keyD a = some k then some d else getKD r k
def putKD : List (D × D) → D → Key → D → List (D × D)
  | [], a, _, d => [(a, d)]
  | (b, x) :: r, a, k, d => if keyD b = some k then (b, d) :: r else (b, x) :: putKD r a k d
section
variable {K : PySem.W.Frag} {F : Hp} {r : Nat → Addr → Prop}
theorem keyD_of {a : D} {k : Key} (h : Dat K F r a (kV k)) : keyD a = some k := by
  cases k with
  | inl i =>
    cases a with
    | int j => rw [Dat] at h; have h : V.int i = V.int j := h; cases h; rfl
    | non => rw [Dat] at h; cases h
    | bl _ => rw [Dat] at h; cases h
    | str _ => rw [Dat] at h; cases h
    | tup _ => rw [Dat] at h; obtain ⟨_, _, e, _⟩ := h; cases e
    | lst _ => rw [Dat] at h; obtain ⟨_, _, e, _⟩ := h; cases e
    | dct _ => rw [Dat] at h; obtain ⟨_, _, e, _⟩ := h; cases e
    | ins _ _ => rw [Dat] at h; obtain ⟨_, _, _, e, _⟩ := h; cases e
    | slt _ _ => rw [Dat] at h; obtain ⟨_, _, _, e, _⟩ := h; cases e
    | nul => rw [Dat] at h; exact h.elim
    | exc _ _ => rw [Dat] at h; obtain ⟨_, _, _, e, _⟩ := h; cases e
    | cell _ => rw [Dat] at h; obtain ⟨_, e, _⟩ := h; cases e
    | scr _ => rw [Dat] at h; obtain ⟨_, e, _⟩ := h; cases e
  | inr x =>
    cases a with
    | str j => rw [Dat] at h; have h : V.str x = V.str j := h; cases h; rfl
    | non => rw [Dat] at h; cases h
    | bl _ => rw [Dat] at h; cases h
    | int _ => rw [Dat] at h; cases h
    | tup _ => rw [Dat] at h; obtain ⟨_, _, e, _⟩ := h; cases e
    | lst _ => rw [Dat] at h; obtain ⟨_, _, e, _⟩ := h; cases e
    | dct _ => rw [Dat] at h; obtain ⟨_, _, e, _⟩ := h; cases e
    | ins _ _ => rw [Dat] at h; obtain ⟨_, _, _, e, _⟩ := h; cases e
    | slt _ _ => rw [Dat] at h; obtain ⟨_, _, _, e, _⟩ := h; cases e
    | nul => rw [Dat] at h; exact h.elim
    | exc _ _ => rw [Dat] at h; obtain ⟨_, _, _, e, _⟩ := h; cases e
    | cell _ => rw [Dat] at h; obtain ⟨_, e, _⟩ := h; cases e
    | scr _ => rw [Dat] at h; obtain ⟨_, e, _⟩ := h; cases e
theorem kV_of {a : D} {k : Key} {v : V} (e : keyD a = some k) (h : Dat K F r a v) : v = kV k := by
  cases a with
  | int i => cases e; rw [Dat] at h; exact h
  | str x => cases e; rw [Dat] at h; exact h
  | _ => cases e
theorem Datk.val {k : Key} : ∀ {kvs : List (D × D)} {ks : List (Key × V)}, Datk K F r kvs ks → (∀ d, getKD kvs k = some d → ∃ v, valV ks k = some v ∧ Dat K F r d v) ∧ (getKD kvs k = none → valV ks k = none)
  | [], ks, m => by rw [Datk] at m; subst m; exact ⟨nofun, fun _ => rfl⟩
  | (a, d) :: kvs, ks, m => by
    rw [Datk] at m
    obtain ⟨kk, v, us, rfl, m1, m2, m3⟩ := m
    have ka := keyD_of m1
    unfold getKD
    by_cases e : kk = k
    · subst e
      rw [if_pos ka]
      exact ⟨fun d' h => by cases h; exact ⟨v, valV_pos rfl, m2⟩, nofun⟩
    · have ne : keyD a ≠ some k := by rw [ka]; intro z; injection z with z; exact e z
      rw [if_neg ne, valV_neg e]
      exact Datk.val m3
theorem Datk.isSome {k : Key} {kvs : List (D × D)} {ks : List (Key × V)} (m : Datk K F r kvs ks) : (getKD kvs k).isSome = (valV ks k).isSome := by
  obtain ⟨h1, h2⟩ := m.val (k := k)
  cases e : getKD kvs k with
  | none => rw [h2 e]; rfl
  | some d => obtain ⟨v, ev, _⟩ := h1 d e; rw [ev]; rfl
theorem Datk.length : ∀ {kvs : List (D × D)} {ks : List (Key × V)}, Datk K F r kvs ks → kvs.length = ks.length
  | [], ks, m => by rw [Datk] at m; rw [m]; rfl
  | (a, d) :: kvs, ks, m => by
    rw [Datk] at m
    obtain ⟨kk, v, us, rfl, m1, m2, m3⟩ := m
    simp [Datk.length m3]
def KeysOnce : List (D × D) → Prop := fun kvs => (kvs.map fun p => keyD p.1).Nodup
theorem putKD_snoc {a : D} {k : Key} {d : D} : ∀ {kvs : List (D × D)}, getKD kvs k = none → putKD kvs a k d = kvs ++ [(a, d)]
  | [], _ => rfl
  | (b, x) :: r, h => by
    unfold getKD at h
    by_cases e : keyD b = some k
    · rw [if_pos e] at h; cases h
    · rw [if_neg e] at h
      unfold putKD
      rw [if_neg e, putKD_snoc h]
      rfl
theorem Datk.snoc {a d : D} {k : Key} {v : V} (ha : Dat K F r a (kV k)) (hd : Dat K F r d v) : ∀ {kvs : List (D × D)} {ks : List (Key × V)}, Datk K F r kvs ks → Datk K F r (kvs ++ [(a, d)]) (ks ++ [(k, v)])
  | [], ks, m => by
    rw [Datk] at m; subst m
    show Datk K F r [(a, d)] [(k, v)]
    rw [Datk]
    exact ⟨k, v, [], rfl, ha, hd, by rw [Datk]⟩
  | (b, x) :: kvs, ks, m => by
    rw [Datk] at m
    obtain ⟨kk, v', us, rfl, m1, m2, m3⟩ := m
    show Datk K F r ((b, x) :: (kvs ++ [(a, d)])) ((kk, v') :: (us ++ [(k, v)]))
    rw [Datk]
    exact ⟨kk, v', _, rfl, m1, m2, Datk.snoc ha hd m3⟩
theorem Datk.repl {d : D} {k : Key} {v : V} (hd : Dat K F r d v) : ∀ {kvs : List (D × D)} {ks : List (Key × V)}, Datk K F r kvs ks → Datk K F r (kvs.map fun p => if keyD p.1 = some k then (p.1, d) else p) (ks.map fun kv => if kv.1 = k then (kv.1, v) else kv)
  | [], ks, m => by rw [Datk] at m; subst m; show Datk K F r [] []; rw [Datk]
  | (b, x) :: kvs, ks, m => by
    rw [Datk] at m
    obtain ⟨kk, v', us, rfl, m1, m2, m3⟩ := m
    have kb := keyD_of m1
    rw [List.map_cons, List.map_cons]
    have ih := Datk.repl (k := k) hd m3
    by_cases e : kk = k
    · subst e
      rw [if_pos kb, if_pos rfl, Datk]
      exact ⟨kk, v, _, rfl, m1, hd, ih⟩
    · have ne : keyD b ≠ some k := by rw [kb]; intro z; injection z with z; exact e z
      rw [if_neg ne, if_neg e, Datk]
      exact ⟨kk, v', _, rfl, m1, m2, ih⟩
/-- as Python stores -/
def storeD (kvs : List (D × D)) (a : D) (k : Key) (d : D) : List (D × D) := if (getKD kvs k).isSome then kvs.map fun p => if keyD p.1 = some k then (p.1, d) else p else kvs ++ [(a, d)]
theorem Datk.put {a d : D} {k : Key} {v : V} (ha : Dat K F r a (kV k)) (hd : Dat K F r d v) {kvs : List (D × D)} {ks : List (Key × V)} (m : Datk K F r kvs ks) : Datk K F r (storeD kvs a k d) (putK ks k v) := by
  unfold storeD putK
  have e := m.isSome (k := k)
  have e2 := valV_any k ks
  by_cases h : (getKD kvs k).isSome = true
  · rw [if_pos h, if_pos (by rw [e2, ← e]; exact h)]
    exact m.repl hd
  · rw [if_neg h, if_neg (by rw [e2, ← e]; exact h)]
    exact m.snoc ha hd
end
/-! d[k], k in d -/
def dixD (a b : D) : Option RV := match a with
  | .dct kvs => (keyD b).bind fun k => (getKD kvs k).map .sh
  | _ => none
def inKD (a b : D) : Option RV := match b with
  | .dct kvs => (keyD a).map fun k => .sh (.bl (getKD kvs k).isSome)
  | _ => inD a b
def notInKD (a b : D) : Option RV := match b with
  | .dct kvs => (keyD a).map fun k => .sh (.bl (!(getKD kvs k).isSome))
  | _ => notInD a b
theorem vw_key {K : PySem.W.Frag} {t : Tags} {H : Hp} {b : D} {y : V} {k : Key} (h : Vw K t H b y) (e : keyD b = some k) : y = kV k := by
  cases b with
  | int i => cases e; exact h
  | str x => cases e; exact h
  | _ => cases e
section
variable {X : Cx} {W : WX} {o i e : Expr} {zo zi z : DZ} {p pos : Pos}
theorem dct_get {t : Tags} {H : Hp} {kvs : List (D × D)} {a : V} (h : Vw X.K t H (.dct kvs) a) : ∃ p ks, a = .ref p ∧ Rd H p (.dK ks) ∧ Datk X.K (fz t H) (rho t) kvs ks := by
  obtain ⟨p, ks, e, r, _, m⟩ := h
  exact ⟨p, ks, e, r, m⟩
theorem de_dix (hu : X.A.units + 1 < cLine) (ho : PE X o (tV X.K W zo)) (hi : PE X i (tV X.K W zi)) (hs : NoSl i := by intro o i; rfl) : PE X (.Subscript o i pos) (tD X.K W (gBin dixD zo zi)) := by
  refine PE.imp (pe_dget hu ho hi hs) fun σ H Q ⟨t, st, r, h⟩ => ?_
  refine tG_at r h fun t1 st1 H1 a x E1 R1 p1 q1 => ?_
  refine tG_at R1 (q1.step sta_rv E1) fun t2 st2 H2 b y E2 R2 p2 q2 => ?_
  have q3 := res_opt R2 (Res.step0 E2 q2)
  cases a with
  | dct kvs =>
    obtain ⟨pp, ks, rfl, rd, m⟩ := dct_get (Vw.step E2 p1)
    unfold dixD at q3
    dsimp only at q3
    cases ek : keyD b with
    | none => rw [ek] at q3; exact q3.elim
    | some k =>
      rw [ek] at q3
      have q3 : RO X.K t2 H2 Q ((getKD kvs k).map .sh) := q3
      cases eg : getKD kvs k with
      | none => rw [eg] at q3; exact q3.elim
      | some d =>
        rw [eg] at q3
        obtain ⟨v, ev, dv⟩ := (m.val (k := k)).1 d eg
        refine ⟨pp, v, rfl, .inl ⟨ks, k, rd, vw_key p2 ek, ev.symm⟩, q3.val dv⟩
  | _ => exact q3.elim
theorem op_inKD (hu : X.A.units + 1 < cLine) : OpR X (compareOp .In) (rF X.K inKD) := by
  intro pins s σ H x y v u Q I rx ry ⟨t, a, b, tg, da, db, h⟩
  cases b with
  | dct kvs =>
    obtain ⟨pp, ks, rfl, rd, m⟩ := dct_get db
    have h : RO X.K t H Q ((keyD a).map fun k => .sh (.bl (getKD kvs k).isSome)) := h
    cases ek : keyD a with
    | none => rw [ek] at h; exact h.elim
    | some k =>
      rw [ek] at h
      have ex := vw_key da ek
      subst ex
      obtain rfl : u = Value.ref pp := ry
      have h : RO X.K t H Q (some (.sh (.bl (getKD kvs k).isSome))) := h
      rw [m.isSome] at h
      exact d_in hu I (.inl ⟨ks, k, rd, rfl, rfl⟩) rx fun s3 I3 => ⟨.bl (valV ks k).isSome, H, I3, rfl, RO.bl h⟩
  | _ => exact op_inD pins s σ H x y v u Q I rx ry ⟨t, a, _, tg, da, db, h⟩
theorem op_notInKD (hu : X.A.units + 1 < cLine) : OpR X (compareOp .NotIn) (rF X.K notInKD) := by
  intro pins s σ H x y v u Q I rx ry ⟨t, a, b, tg, da, db, h⟩
  cases b with
  | dct kvs =>
    obtain ⟨pp, ks, rfl, rd, m⟩ := dct_get db
    have h : RO X.K t H Q ((keyD a).map fun k => .sh (.bl (!(getKD kvs k).isSome))) := h
    cases ek : keyD a with
    | none => rw [ek] at h; exact h.elim
    | some k =>
      rw [ek] at h
      have ex := vw_key da ek
      subst ex
      obtain rfl : u = Value.ref pp := ry
      have h : RO X.K t H Q (some (.sh (.bl (!(getKD kvs k).isSome)))) := h
      rw [m.isSome] at h
      exact d_notIn hu I (.inl ⟨ks, k, rd, rfl, rfl⟩) rx fun s3 I3 => ⟨.bl (!(valV ks k).isSome), H, I3, rfl, RO.bl h⟩
  | _ => exact op_notInD pins s σ H x y v u Q I rx ry ⟨t, a, _, tg, da, db, h⟩
/-! dict(d) -/
def dictD : List D → Option RV
  | [.dct kvs] => some (.ow (.dct kvs))
  | _ => none
theorem cr_dictD : CallR X (.type "dict") (rC X.K dictD) := by
  intro pins s σ H vs us Q I r ⟨t, ds, tg, m, h⟩
  unfold dictD at h
  split at h
  · rename_i kvs
    obtain ⟨v, rfl, dv⟩ := vws1 m
    obtain ⟨pp, ks, rfl, rd, mm⟩ := dct_get dv
    rw [Vals.ref1 r]
    refine d_copyOf I rd fun p s' np I' => ?_
    obtain ⟨G, n⟩ := grow_upd (K := X.K) (o := .dK ks) tg np
    exact ⟨.ref p, _, I', rfl, h t _ (.ref p) G ⟨p, rfl, fun _ => np, n, ks, upd_same, mm.mono G.ext.le G.ext.rh⟩⟩
  · exact h.elim
/-! displays -/
def gPairs : List (DZ × DZ) → DSt → Out (List (D × D))
  | [], st => .ok [] st
  | (zk, zv) :: r, st => (zk st).bind fun k st => (zv st).bind fun v st => (gPairs r st).bind fun ps st => .ok ((k, v) :: ps) st
def mergeD : List (D × D) → List (D × D) → Option (List (D × D))
  | acc, [] => some acc
  | acc, (a, d) :: r => match keyD a with
    | some k => mergeD (storeD acc a k d) r
    | none => none
def gDisp (ps : List (DZ × DZ)) : DE := fun st => (gPairs ps st).bind fun kvs st => if kvs.length ≤ 15 then (match mergeD [] kvs with
  | some m => .ok (.ow (.dct m)) st
  | none => .no) else .no
inductive PPl (X : Cx) (W : WX) (pos : Pos) : List (Option Expr) → List Expr → List (DZ × DZ) → Prop where
  | nil : PPl X W pos [] [] []
  | cons {k v : Expr} {ks : List (Option Expr)} {vs : List Expr} {zk zv : DZ} {r : List (DZ × DZ)} (hk : PE X k (tZ X.K W zk)) (hv : PE X v (tZ X.K W zv)) (h : PPl X W pos ks vs r) : PPl X W pos (some k :: ks) (v :: vs) ((zk, zv) :: r)
theorem PPl.pps {ks : List (Option Expr)} {vs : List Expr} {zs : List (DZ × DZ)} (h : PPl X W pos ks vs zs) : PPs X pos ks vs (zs.map fun p => (tZ X.K W p.1, tZ X.K W p.2)) := by
  induction h with
  | nil => exact pps_nil
  | cons hk hv _ ih => exact pps_cons hk hv ih
def Datp (K : PySem.W.Frag) (F : Hp) (r : Nat → Addr → Prop) : List (D × D) → List (V × V) → Prop
  | [], vs => vs = []
  | (a, d) :: ps, vs => ∃ x y r', vs = (x, y) :: r' ∧ Dat K F r a x ∧ Dat K F r d y ∧ Datp K F r ps r'
theorem tG_atE {α : Type} {K : PySem.W.Frag} {σ : L2.St} {t0 t : Tags} {H0 H : Hp} {Q Q1 : VK} {P1 : RP α} {st : DSt} {g : DSt → Out α} {f : α → DSt → Out RV} (E0 : Ext t0 H0 t H) (r : R K t st σ H) (h : Res K W σ Q (IsRV K) t0 H0 ((g st).bind f))
    (k : ∀ t1 st1 H1 a v, Ext t H t1 H1 → R K t1 st1 σ H1 → P1 t H t1 H1 a v → Res K W σ Q (IsRV K) t0 H0 (f a st1) → Q1 v H1) : tG K W g P1 σ H Q1 := by
  refine ⟨t, st, r, ?_⟩
  cases e : g st with
  | no => rw [e] at h; exact h
  | ex c x st' => rw [e] at h; exact fun t' H' d E' R' p => h t' H' d (E0.trans E') R' p
  | ok a st' =>
    rw [e] at h
    exact fun t1 H1 v E1 R1 p1 => k t1 st' H1 a v E1 R1 p1 h
theorem pairs_at {σ : L2.St} {t0 : Tags} {H0 : Hp} {Q : VK} {Qp : List (V × V) → Hp → Prop} : ∀ {zs : List (DZ × DZ)} {t : Tags} {st : DSt} {H : Hp} {f : List (D × D) → DSt → Out RV}, Ext t0 H0 t H → R X.K t st σ H → Res X.K W σ Q (IsRV X.K) t0 H0 ((gPairs zs st).bind f) →
    (∀ t1 st1 H1 ps vs, Ext t H t1 H1 → R X.K t1 st1 σ H1 → Datp X.K (fz t1 H1) (rho t1) ps vs → Res X.K W σ Q (IsRV X.K) t0 H0 (f ps st1) → Qp vs H1) → tPairs (zs.map fun p => (tZ X.K W p.1, tZ X.K W p.2)) σ H Qp
  | [], t, st, H, f, E0, r, q, k => k t st H [] [] (Ext.refl t H) r rfl q
  | (zk, zv) :: zs, t, st, H, f, E0, r, q, k => by
    have q : Res X.K W σ Q (IsRV X.K) t0 H0 ((zk st).bind fun a st => (((zv st).bind fun v st => (gPairs zs st).bind fun ps st => .ok ((a, v) :: ps) st).bind f)) := by
      have q' : Res X.K W σ Q (IsRV X.K) t0 H0 (((zk st).bind fun k st => (zv st).bind fun v st => (gPairs zs st).bind fun ps st => .ok ((k, v) :: ps) st).bind f) := q
      rw [bind_bind] at q'
      exact q'
    refine tG_atE E0 r q fun t1 st1 H1 a x E1 R1 p1 q1 => ?_
    have q1 : Res X.K W σ Q (IsRV X.K) t0 H0 ((zv st1).bind fun v st => ((gPairs zs st).bind fun ps st => .ok ((a, v) :: ps) st).bind f) := by
      rw [bind_bind] at q1
      exact q1
    refine tG_atE (E0.trans E1) R1 q1 fun t2 st2 H2 d y E2 R2 p2 q2 => ?_
    have q2 : Res X.K W σ Q (IsRV X.K) t0 H0 ((gPairs zs st2).bind fun ps st => f ((a, d) :: ps) st) := by
      rw [bind_bind] at q2
      exact q2
    refine pairs_at ((E0.trans E1).trans E2) R2 q2 fun t3 st3 H3 ps vs E3 R3 p3 q3 => ?_
    exact k t3 st3 H3 ((a, d) :: ps) ((x, y) :: vs) ((E1.trans E2).trans E3) R3 ⟨x, y, vs, rfl, (E2.trans E3).dat p1, E3.dat p2, p3⟩ q3
/-- what is no one's is written -/
theorem fz_non {t : Tags} {H : Hp} {p : Addr} {o : HO} (n : t p = .non) : fz t (upd H p o) = fz t H := by
  funext a
  unfold fz
  by_cases e : a = p
  · subst e; rw [if_neg (by rw [n]; exact nofun), if_neg (by rw [n]; exact nofun)]
  · rw [upd_ne e]
theorem R0.wNon {K : PySem.W.Frag} {t : Tags} {S : List OD} {H : Hp} {p : Addr} {o : HO} (r : R0 K t S H) (n : t p = .non) : R0 K t S (upd H p o) where
  tag := fun a h => by rw [upd_ne (fun e => h (by rw [e]; exact n))]; exact r.tag a h
  cel := fun k u h => by
    obtain ⟨b, h1, h2, h3⟩ := r.cel k u h
    have ne : b ≠ p := fun e => by rw [e, n] at h1; cases h1
    refine ⟨b, h1, h2, ?_⟩
    rw [fz_non n]
    exact h3.mono (Le.refl _) (fun _ _ h => h) fun o h => by rw [upd_ne ne]; exact h
  lt := r.lt
  one := r.one
theorem R.wNon {K : PySem.W.Frag} {t : Tags} {st : DSt} {σ : L2.St} {H : Hp} {p : Addr} {o : HO} (r : R K t st σ H) (n : t p = .non) : R K t st σ (upd H p o) where
  r0 := r.r0.wNon n
  len := r.len
  env := fun i x h => by
    obtain ⟨v, e, q⟩ := r.env i x h
    refine ⟨v, e, ?_⟩
    cases x with
    | sh d => show Dat K _ _ _ _; rw [fz_non n]; exact q
    | ow u =>
      obtain ⟨b, e, h1, h2⟩ := q
      have ne : b ≠ p := fun e => by rw [e, n] at h1; cases h1
      refine ⟨b, e, h1, ?_⟩
      rw [fz_non n]
      exact h2.mono (Le.refl _) (fun _ _ h => h) fun o h => by rw [upd_ne ne]; exact h
    | me u =>
      obtain ⟨b, e, h1, h2, hi⟩ := q
      have ne : b ≠ p := fun e => by rw [e, n] at h1; cases h1
      refine ⟨b, e, h1, ?_, hi⟩
      rw [fz_non n]
      exact h2.mono (Le.refl _) (fun _ _ h => h) fun o h => by rw [upd_ne ne]; exact h
theorem mergeD_dat {K : PySem.W.Frag} {F : Hp} {r : Nat → Addr → Prop} : ∀ {ps : List (D × D)} {acc m : List (D × D)} {ka : List (Key × V)} {vs : List (V × V)}, mergeD acc ps = some m → Datk K F r acc ka → Datp K F r ps vs → ∃ kvs : List (Key × V), vs = kvs.map (fun kv => (kV kv.1, kv.2)) ∧ kvs.length = ps.length ∧ Datk K F r m (mergeK ka kvs)
  | [], acc, m, ka, vs, e, h, p => by
    cases e
    obtain rfl : vs = [] := p
    exact ⟨[], rfl, rfl, h⟩
  | (a, d) :: ps, acc, m, ka, vs, e, h, p => by
    obtain ⟨x, y, r', rfl, h1, h2, h3⟩ := p
    unfold mergeD at e
    cases ek : keyD a with
    | none => rw [ek] at e; cases e
    | some k =>
      rw [ek] at e
      have ex := kV_of ek h1
      subst ex
      obtain ⟨kvs, rfl, hl, hm⟩ := mergeD_dat e (h.put h1 h2) h3
      exact ⟨(k, y) :: kvs, rfl, by simp [hl], hm⟩
theorem de_disp {pos : Pos} {ks : List (Option Expr)} {vs : List Expr} {zs : List (DZ × DZ)} (h : PPl X W pos ks vs zs) (hall : ks.all (·.isSome) = true) (hl : ks.length = vs.length) (h0 : ks ≠ []) (h15 : ks.length ≤ 15) : PE X (.Dict ks vs pos) (tD X.K W (gDisp zs)) := by
  refine PE.imp (pe_disp h.pps hall hl h0 h15) fun σ H Q ⟨t, st, r, q⟩ => ?_
  intro p hp
  obtain ⟨E1, R1, n1⟩ := r.laid (o := .dK []) hp
  refine pairs_at E1 R1 q fun t3 st3 H3 ps us E3 R3 m3 q3 => ?_
  obtain ⟨n3, g3⟩ := E3.oth p _ n1 upd_same
  refine ⟨g3, ?_⟩
  split at q3
  · rename_i hlen
    cases em : mergeD [] ps with
    | none => rw [em] at q3; exact q3.elim
    | some m =>
      rw [em] at q3
      obtain ⟨kvs, rfl, hk, hm⟩ := mergeD_dat em (ka := []) (by rw [Datk]) m3
      refine ⟨kvs, rfl, by omega, ?_⟩
      have E4 := E1.trans E3
      refine q3 t3 _ (.ref p) ⟨fun a ha => ?_, E4.cel, fun a o ha e => ?_, fun a i o ha e => ?_⟩ (R3.wNon n3) ?_
      · obtain ⟨f1, f2⟩ := E4.frz a ha
        refine ⟨f1, ?_⟩
        rw [upd_ne (fun e => by rw [e, n3] at f1; cases f1)]
        exact f2
      · obtain ⟨f1, f2⟩ := E4.oth a o ha e
        exact ⟨f1, by rw [upd_ne (ne_of_none e hp)]; exact f2⟩
      · obtain ⟨f1, f2⟩ := E4.slt a i o ha e
        exact ⟨by rw [upd_ne (ne_of_none e hp)]; exact f1, f2⟩
      · refine ⟨p, rfl, fun _ => hp, n3, _, upd_same, ?_⟩
        rw [fz_non n3]
        exact hm
  · exact q3.elim
end
end Dn
end

section
set_option maxHeartbeats 4000000
-- De10
/-! De10: == and repr of data with dicts within; isinstance of own exceptions -/
namespace Dn
open PySem PySem.Spec L2
mutual
def toQ : D → Option PyData
  | .non => some .none
  | .bl b => some (.bool b)
  | .int i => some (.int i)
  | .str x => some (.str x)
  | .lst xs => (toQs xs).map .list
  | .tup xs => (toQs xs).map .tuple
  | .dct kvs => (toQk kvs).map .dict
  | _ => none
def toQs : List D → Option (List PyData)
  | [] => some []
  | d :: ds => match toQ d, toQs ds with
    | some p, some ps => some (p :: ps)
    | _, _ => none
def toQk : List (D × D) → Option (List (PyData × PyData))
  | [] => some []
  | (a, d) :: ds => match toQ a, toQ d, toQk ds with
    | some k, some p, some ps => some ((k, p) :: ps)
    | _, _, _ => none
end
mutual
def eqq : D → D → Bool
  | .non, .non => true
  | .bl a, .bl b => a == b
  | .int a, .int b => a == b
  | .str a, .str b => a == b
  | .tup xs, .tup ys => eqqs xs ys
  | .lst xs, .lst ys => eqqs xs ys
  | .dct ks, .dct ls => ks.length == ls.length && eqqk ks ls
  | _, _ => false
def eqqs : List D → List D → Bool
  | [], [] => true
  | d :: ds, e :: es => eqq d e && eqqs ds es
  | _, _ => false
def eqqk : List (D × D) → List (D × D) → Bool
  | [], _ => true
  | (a, d) :: r, ls => (match keyD a with
    | some k => (match getKD ls k with
      | some e => eqq d e
      | none => false)
    | none => false) && eqqk r ls
end
mutual
def dep : D → Nat
  | .tup xs => deps xs + 1
  | .lst xs => deps xs + 1
  | .dct ks => depk ks + 1
  | _ => 0
def deps : List D → Nat
  | [] => 0
  | d :: ds => max (dep d) (deps ds)
def depk : List (D × D) → Nat
  | [] => 0
  | (_, d) :: r => max (dep d) (depk r)
end
def boxD : D → Bool
  | .tup _ => true
  | .lst _ => true
  | .dct _ => true
  | _ => false
def eqB2 (a b : D) : Option Bool := match eqB a b with
  | some k => some k
  | none => if boxD a = true ∧ dep a ≤ 50 ∧ eqq a b = true then some true else none
def eqD2 (a b : D) : Option RV := (eqB2 a b).map fun k => .sh (.bl k)
def encK : Key → PyData
  | .inl i => .int i
  | .inr x => .str x
theorem toQ_key {a : D} {k : Key} (e : keyD a = some k) : toQ a = some (encK k) := by
  cases a with
  | int i => cases e; rw [toQ]; rfl
  | str x => cases e; rw [toQ]; rfl
  | _ => cases e
theorem encK_reads {P : Program} {w : World} {h : Heap} : ∀ k key, (mixKind P w).is k key = true → Reads h key (encK k) [] := fun k key e => by
  rcases keyIs_shape (k := k) (v := key) e with ⟨i, t, rfl, rfl⟩ | ⟨x, t, rfl, rfl⟩
  · exact .int i t
  · exact .str x t
section
variable {X : Cx} {pins : List (Addr × Obj)} {σ : L2.St} {H F : Hp} {s : Shared} {r : Nat → Addr → Prop}
def SysD (K : PySem.W.Frag) : Prop := ∃ o, K.lookup sysModules = some o ∧ o.cls = .type "dict"
theorem reads_lst (I : Inv X pins σ H s) (S : SysD X.K) {a : Addr} {vs : List V} {u : Value} (sq : SqL X.K H a vs) (rv : RelV (.ref a) u) {ps : List PyData} (h : ∀ us, Vals vs us → ∃ as, ReadsAll s.heap us ps as ∧ sysModules ∉ as) : ∃ as, Reads s.heap u (.list ps) as ∧ sysModules ∉ as := by
  cases (show u = Value.ref a from rv)
  obtain ⟨its, ri, ⟨o, n, ho, hc, _, hd⟩, _⟩ := I.list sq
  obtain ⟨as, hr, hn⟩ := h its ri
  refine ⟨_, Reads.list ho hc hd hr, fun hm => ?_⟩
  rcases List.mem_cons.mp hm with e | hm
  · obtain ⟨o', e1, e2⟩ := S
    have q := I.kIn _ _ e1
    rw [e, ho] at q
    cases q
    rw [hc] at e2
    injection e2 with e2
    exact absurd e2 (by decide)
  · exact hn hm
theorem reads_tup (I : Inv X pins σ H s) {a : Addr} {vs : List V} {u : Value} (sq : SqT X.K H a vs) (rv : RelV (.ref a) u) {ps : List PyData} (h : ∀ us, Vals vs us → ∃ as, ReadsAll s.heap us ps as ∧ sysModules ∉ as) : ∃ as, Reads s.heap u (.tuple ps) as ∧ sysModules ∉ as := by
  cases (show u = Value.ref a from rv)
  obtain ⟨its, ri, ⟨o, ho, hc, n, hd⟩, _⟩ := I.tuple sq
  obtain ⟨as, hr, hn⟩ := h its ri
  exact ⟨_, Reads.tuple ho hc hd hr, hn⟩
theorem reads_dct (I : Inv X pins σ H s) {a : Addr} {ks : List (Key × V)} {u : Value} (sq : Rd H a (.dK ks)) (rv : RelV (.ref a) u) {ps : List (PyData × PyData)} (h : ∀ us, KV ks us → ∃ as, PyProof.V.PairsRead s.heap encK us ps as ∧ sysModules ∉ as) : ∃ as, Reads s.heap u (.dict ps) as ∧ sysModules ∉ as := by
  cases (show u = Value.ref a from rv)
  obtain ⟨_, y, vs, rk, dd⟩ := dk_rd I.hok sq
  obtain ⟨as, hr, hn⟩ := h vs rk
  refine ⟨_, PyProof.V.reads_dictOf encK_reads dd hr, fun hm => ?_⟩
  rcases List.mem_cons.mp hm with e | hm
  · rw [← e] at y; simp at y
  · exact hn hm
mutual
theorem reads_dat (I : Inv X pins σ H s) (S : SysD X.K) (l : Le F H) : ∀ {d : D} {v : V} {u : Value} {p : PyData}, Dat X.K F r d v → RelV v u → toQ d = some p → ∃ as, Reads s.heap u p as ∧ sysModules ∉ as
  | .non, v, u, p, h, rv, e => by rw [Dat] at h; subst h; rw [toQ] at e; cases e; cases (show u = Value.none from rv); exact ⟨_, .none, nofun⟩
  | .bl b, v, u, p, h, rv, e => by rw [Dat] at h; subst h; rw [toQ] at e; cases e; cases (show u = Value.bool b from rv); exact ⟨_, .bool b, nofun⟩
  | .int i, v, u, p, h, rv, e => by rw [Dat] at h; subst h; rw [toQ] at e; cases e; obtain ⟨t, rfl⟩ := (show ∃ t, u = Value.int i t from rv); exact ⟨_, .int i t, nofun⟩
  | .str i, v, u, p, h, rv, e => by rw [Dat] at h; subst h; rw [toQ] at e; cases e; obtain ⟨t, rfl⟩ := (show ∃ t, u = Value.str i t from rv); exact ⟨_, .str i t, nofun⟩
  | .tup xs, v, u, p, h, rv, e => by
    rw [Dat] at h
    obtain ⟨a, vs, rfl, sq, m⟩ := h
    rw [toQ] at e
    obtain ⟨ps, e1, rfl⟩ := Option.map_eq_some_iff.mp e
    exact reads_tup I (l.sqT sq) rv fun us ru => reads_dats I S l m ru e1
  | .lst xs, v, u, p, h, rv, e => by
    rw [Dat] at h
    obtain ⟨a, vs, rfl, sq, m⟩ := h
    rw [toQ] at e
    obtain ⟨ps, e1, rfl⟩ := Option.map_eq_some_iff.mp e
    exact reads_lst I S (SqL.of (l _ _ sq)) rv fun us ru => reads_dats I S l m ru e1
  | .dct kvs, v, u, p, h, rv, e => by
    rw [Dat] at h
    obtain ⟨a, ks, rfl, sq, m⟩ := h
    rw [toQ] at e
    obtain ⟨ps, e1, rfl⟩ := Option.map_eq_some_iff.mp e
    exact reads_dct I (l.rd sq) rv fun us ru => reads_datk I S l m ru e1
  | .ins _ _, _, _, _, _, _, e => by rw [toQ] at e <;> first | cases e | exact nofun
  | .slt _ _, _, _, _, _, _, e => by rw [toQ] at e <;> first | cases e | exact nofun
  | .nul, _, _, _, _, _, e => by rw [toQ] at e <;> first | cases e | exact nofun
  | .exc _ _, _, _, _, _, _, e => by rw [toQ] at e <;> first | cases e | exact nofun
  | .cell _, _, _, _, _, _, e => by rw [toQ] at e <;> first | cases e | exact nofun
  | .scr _, _, _, _, _, _, e => by rw [toQ] at e <;> first | cases e | exact nofun
theorem reads_dats (I : Inv X pins σ H s) (S : SysD X.K) (l : Le F H) : ∀ {ds : List D} {vs : List V} {us : List Value} {ps : List PyData}, Dats X.K F r ds vs → Vals vs us → toQs ds = some ps → ∃ as, ReadsAll s.heap us ps as ∧ sysModules ∉ as
  | [], vs, us, ps, h, rv, e => by
    rw [Dats] at h
    rw [toQs] at e
    subst h
    cases e
    cases rv
    exact ⟨_, .nil, nofun⟩
  | d :: ds, vs, us, ps, h, rv, e => by
    rw [Dats] at h
    obtain ⟨v, vs', rfl, h1, h2⟩ := h
    cases rv with
    | cons r1 r2 =>
      rw [toQs] at e
      cases e1 : toQ d with
      | none => rw [e1] at e; cases e
      | some p =>
        cases e2 : toQs ds with
        | none => rw [e1, e2] at e; cases e
        | some qs =>
          rw [e1, e2] at e
          cases e
          obtain ⟨as, q1, n1⟩ := reads_dat I S l h1 r1 e1
          obtain ⟨bs, q2, n2⟩ := reads_dats I S l h2 r2 e2
          exact ⟨_, .cons q1 q2, fun hm => (List.mem_append.mp hm).elim n1 n2⟩
theorem reads_datk (I : Inv X pins σ H s) (S : SysD X.K) (l : Le F H) : ∀ {ds : List (D × D)} {ks : List (Key × V)} {us : List (Key × Value)} {ps : List (PyData × PyData)}, Datk X.K F r ds ks → KV ks us → toQk ds = some ps → ∃ as, PyProof.V.PairsRead s.heap encK us ps as ∧ sysModules ∉ as
  | [], ks, us, ps, h, rv, e => by
    rw [Datk] at h
    rw [toQk] at e
    subst h
    cases e
    cases rv
    exact ⟨_, .nil, nofun⟩
  | (a, d) :: ds, ks, us, ps, h, rv, e => by
    rw [Datk] at h
    obtain ⟨k, v, vs', rfl, h0, h1, h2⟩ := h
    cases rv with
    | @cons _ q _ qs r1 r2 =>
      obtain ⟨q1, q2⟩ := q
      obtain ⟨ek, rv⟩ := r1
      have ek : k = q1 := ek
      subst ek
      have rv : RelV v q2 := rv
      rw [toQk, toQ_key (keyD_of h0)] at e
      cases e1 : toQ d with
      | none => rw [e1] at e; cases e
      | some p =>
        cases e2 : toQk ds with
        | none => rw [e1, e2] at e; cases e
        | some qs =>
          rw [e1, e2] at e
          cases e
          obtain ⟨as, q1, n1⟩ := reads_dat I S l h1 rv e1
          obtain ⟨bs, q2, n2⟩ := reads_datk I S l h2 r2 e2
          exact ⟨_, .cons q1 q2, fun hm => (List.mem_append.mp hm).elim n1 n2⟩
end
theorem reads_vw (I : Inv X pins σ H s) (S : SysD X.K) {t : Tags} {d : D} {v : V} {u : Value} {p : PyData} (h : Vw X.K t H d v) (rv : RelV v u) (e : toQ d = some p) : ∃ as, Reads s.heap u p as ∧ sysModules ∉ as := by
  cases d with
  | lst xs =>
    obtain ⟨a, vs, rfl, sq, _, m⟩ := h
    rw [toQ] at e
    obtain ⟨ps, e1, rfl⟩ := Option.map_eq_some_iff.mp e
    exact reads_lst I S (SqL.of sq) rv fun us ru => reads_dats I S fz_le m ru e1
  | dct kvs =>
    obtain ⟨a, ks, rfl, sq, _, m⟩ := h
    rw [toQ] at e
    obtain ⟨ps, e1, rfl⟩ := Option.map_eq_some_iff.mp e
    exact reads_dct I sq rv fun us ru => reads_datk I S fz_le m ru e1
  | ins _ _ => rw [toQ] at e <;> first | cases e | exact nofun
  | slt _ _ => rw [toQ] at e <;> first | cases e | exact nofun
  | nul => rw [toQ] at e <;> first | cases e | exact nofun
  | exc _ _ => rw [toQ] at e <;> first | cases e | exact nofun
  | cell _ => rw [toQ] at e <;> first | cases e | exact nofun
  | scr _ => rw [toQ] at e <;> first | cases e | exact nofun
  | _ => exact reads_dat I S (F := fz t H) (r := rho t) fz_le (by rw [Dat]; exact h) rv e
end
/-! repr -/
def shownQ (d : D) : Option Str := match toQ d with
  | some p => if p.showable = true ∧ p.depth < 60 ∧ p.shown.length ≤ sizeLine then some p.shown else none
  | none => none
def reprQ : List D → Option RV
  | [d] => (shownQ d).map fun x => .sh (.str x)
  | _ => none
section
variable {X : Cx}
theorem cr_reprQ (S : SysD X.K) (gd : X.A.guards = some []) (hu : X.A.units + 64 < cLine) : CallR X (.builtin "repr") (rC X.K reprQ) := by
  intro pins s σ H vs us Q I r ⟨t, ds, tg, m, h⟩
  unfold reprQ shownQ at h
  split at h
  · rename_i d
    obtain ⟨v, rfl, dv⟩ := vws1 m
    obtain ⟨u, rfl, rx⟩ := vals1 r
    split at h
    · rename_i p e
      split at h
      · rename_i hc
        have h := RO.str h
        obtain ⟨as, rd, ns⟩ := reads_vw I S dv rx e
        have fin : ∀ (h' : Heap) (tk tk' : Nat), (∀ b o, s.heap.get? b = some o → h'.get? b = some o) → EP X pins σ Q (.str p.shown tk) { s with heap := h', toks := tk' } := fun h' tk tk' k => ⟨.str p.shown, H, I.kept k, ⟨_, rfl⟩, h⟩
        cases rd with
        | none => exact PySem.P.repr_of_none (fin s.heap _ _ fun _ _ e => e)
        | bool b => exact PySem.P.repr_of_bool (fin s.heap _ _ fun _ _ e => e)
        | int i tk => exact PySem.P.repr_of_int (by simpa [PyData.showable] using hc.1) (fin s.heap _ _ fun _ _ e => e)
        | str x tk => exact PySem.P.repr_of_str (fin s.heap _ _ fun _ _ e => e) (by simpa [PyData.shown] using hc.2.2)
        | list h1 h2 h3 h4 => exact repr_of_reads' (.list h1 h2 h3 h4) hc.1 (fun _ => ns) gd (by have := hc.2.1; omega) (fun _ _ e => e) (fun h' tk tk' k => fin h' tk tk' k) hc.2.2
        | tuple h1 h2 h3 h4 => exact repr_of_reads' (.tuple h1 h2 h3 h4) hc.1 (fun _ => ns) gd (by have := hc.2.1; omega) (fun _ _ e => e) (fun h' tk tk' k => fin h' tk tk' k) hc.2.2
        | dict h1 h2 h3 h4 h5 => exact repr_of_reads' (.dict h1 h2 h3 h4 h5) hc.1 (fun _ => ns) gd (by have := hc.2.1; omega) (fun _ _ e => e) (fun h' tk tk' k => fin h' tk tk' k) hc.2.2
      · exact h.elim
    · exact h.elim
  · exact h.elim
end
/-! == -/
section
variable {X : Cx} {pins : List (Addr × Obj)} {σ : L2.St} {H F : Hp} {s : Shared} {r r' : Nat → Addr → Prop}
theorem eqBool_here {A : Around} {v u : Value} {X : Cx} {I : Nat → Shared → Prop} {i : Nat} {E : Value → Shared → Prop} (h : SeqAt.EqP X.prog X.w A s v u true) (q : I (i + 1) s) : wpAny (model X.prog X.w) A (eqBool v u) (fun r s' => r = true ∧ I (i + 1) s') E s := h E _ ⟨rfl, q⟩
theorem same_lst (I : Inv X pins σ H s) {A : Around} (hu : A.units < cLine) {a b : Addr} {xs ys : List V} (ha : SqL X.K H a xs) (hb : SqL X.K H b ys) (hl : xs.length = ys.length)
    (h : ∀ us ws, Vals xs us → Vals ys ws → ∀ j (h1 : j < us.length) (h2 : j < ws.length), SeqAt.EqP X.prog X.w A.in1 s us[j] ws[j] true) (E Q : Value → Shared → Prop) (q : Q (.bool true) s) : wpAny (model X.prog X.w) A (richCompare .Eq (.ref a) (.ref b)) Q E s := by
  obtain ⟨us, r1, p1, _⟩ := I.list ha
  obtain ⟨ws, r2, p2, _⟩ := I.list hb
  have hsz : us.toArray.size = ws.toArray.size := by
    rw [List.size_toArray, List.size_toArray, ← r1.length, ← r2.length]
    exact hl
  refine SeqAt.rcP_lists (e := fun _ => true) p1.isList p2.isList hsz hu (fun j h1 h2 => ?_) E Q ?_
  · have k := h us ws r1 r2 j (by simpa using h1) (by simpa using h2)
    simpa using k
  · rw [show ((List.range us.toArray.size).all fun _ => true) = true from List.all_eq_true.mpr fun _ _ => rfl]
    exact q
theorem same_tup (I : Inv X pins σ H s) {A : Around} (hu : A.units < cLine) {a b : Addr} {xs ys : List V} (ha : SqT X.K H a xs) (hb : SqT X.K H b ys) (hl : xs.length = ys.length)
    (h : ∀ us ws, Vals xs us → Vals ys ws → ∀ j (h1 : j < us.length) (h2 : j < ws.length), SeqAt.EqP X.prog X.w A.in1 s us[j] ws[j] true) (E Q : Value → Shared → Prop) (q : Q (.bool true) s) : wpAny (model X.prog X.w) A (richCompare .Eq (.ref a) (.ref b)) Q E s := by
  obtain ⟨us, r1, p1, _⟩ := I.tuple ha
  obtain ⟨ws, r2, p2, _⟩ := I.tuple hb
  have hsz : us.toArray.size = ws.toArray.size := by
    rw [List.size_toArray, List.size_toArray, ← r1.length, ← r2.length]
    exact hl
  refine GQ.rc_tupG hsz hu (fun _ s' => s' = s) p1 p2 (fun j h1 h2 s' es => ?_) (fun s' es => by subst es; exact q) rfl
  subst es
  have k := h us ws r1 r2 j (by simpa using h1) (by simpa using h2)
  have k : SeqAt.EqP X.prog X.w A.in1 s' us.toArray[j] ws.toArray[j] true := by simpa using k
  exact k _ _ ⟨rfl, rfl⟩
theorem same_dct (I : Inv X pins σ H s) {A : Around} (hu : A.units < cLine) {a b : Addr} {ks ls : List (Key × V)} (ha : Rd H a (.dK ks)) (hb : Rd H b (.dK ls)) (hl : ks.length = ls.length)
    (h : ∀ va vb, KV ks va → KV ls vb → PySem.W.KeqHitsP X.prog X.w A.in1 s vb va true) (E Q : Value → Shared → Prop) (q : Q (.bool true) s) : wpAny (model X.prog X.w) A (richCompare .Eq (.ref a) (.ref b)) Q E s := by
  obtain ⟨_, ya, va, ra, da⟩ := dk_rd I.hok ha
  obtain ⟨_, yb, vb, rb, db⟩ := dk_rd I.hok hb
  refine PySem.W.rcP_dicts (knd := mixKind X.prog X.w) (r := true) ya yb da db hu (fun _ => h va vb ra rb) E Q ?_
  have e : va.length = vb.length := by rw [← ra.length, ← rb.length]; exact hl
  rw [show (va.length == vb.length && true) = true from by rw [e]; simp]
  exact q
theorem eqP_at {A : Around} {v u : Value} {a b : Addr} (rv : RelV (.ref a) v) (ru : RelV (.ref b) u) (h : ∀ (E Q : Value → Shared → Prop), Q (.bool true) s → wpAny (model X.prog X.w) A (richCompare .Eq (.ref a) (.ref b)) Q E s) : SeqAt.EqP X.prog X.w A s v u true := by
  cases (show v = Value.ref a from rv)
  cases (show u = Value.ref b from ru)
  by_cases e : a = b
  · subst e
    exact (SeqAt.EqAt.same _).eqP
  · exact SeqAt.eqP_refs e h
theorem eqqs_len : ∀ {ds es : List D}, eqqs ds es = true → ds.length = es.length
  | [], [], _ => rfl
  | d :: ds, e :: es, h => by
    rw [eqqs, Bool.and_eq_true] at h
    simp [eqqs_len h.2]
  | [], _ :: _, h => by rw [eqqs] at h <;> first | cases h | exact nofun
  | _ :: _, [], h => by rw [eqqs] at h <;> first | cases h | exact nofun
theorem dats_len {K : PySem.W.Frag} : ∀ {ds : List D} {vs : List V}, Dats K F r ds vs → ds.length = vs.length
  | [], vs, h => by rw [Dats] at h; rw [h]; rfl
  | d :: ds, vs, h => by
    rw [Dats] at h
    obtain ⟨v, us, rfl, _, h2⟩ := h
    simp [dats_len h2]
mutual
theorem eqq_run (I : Inv X pins σ H s) {F' : Hp} (l : Le F H) (l' : Le F' H) : ∀ {d e : D} {A : Around} {x y : V} {v u : Value}, eqq d e = true → A.units + dep d < cLine → Dat X.K F r d x → Dat X.K F' r' e y → RelV x v → RelV y u → SeqAt.EqP X.prog X.w A s v u true
  | .non, e, A, x, y, v, u, h, hu, h1, h2, rv, ru => by
    cases e with
    | non => rw [Dat] at h1 h2; subst h1 h2; exact (eqAt_same rv ru rfl).eqP
    | _ => rw [eqq] at h <;> first | cases h | exact nofun
  | .bl b, e, A, x, y, v, u, h, hu, h1, h2, rv, ru => by
    cases e with
    | bl b' => rw [Dat] at h1 h2; rw [eqq] at h; cases eq_of_beq h; subst h1 h2; exact (eqAt_same rv ru rfl).eqP
    | _ => rw [eqq] at h <;> first | cases h | exact nofun
  | .int b, e, A, x, y, v, u, h, hu, h1, h2, rv, ru => by
    cases e with
    | int b' => rw [Dat] at h1 h2; rw [eqq] at h; cases eq_of_beq h; subst h1 h2; exact (eqAt_same rv ru rfl).eqP
    | _ => rw [eqq] at h <;> first | cases h | exact nofun
  | .str b, e, A, x, y, v, u, h, hu, h1, h2, rv, ru => by
    cases e with
    | str b' => rw [Dat] at h1 h2; rw [eqq] at h; cases eq_of_beq h; subst h1 h2; exact (eqAt_same rv ru rfl).eqP
    | _ => rw [eqq] at h <;> first | cases h | exact nofun
  | .tup xs, e, A, x, y, v, u, h, hu, h1, h2, rv, ru => by
    cases e with
    | tup ys =>
      rw [Dat] at h1 h2
      obtain ⟨a, vs, rfl, s1, m1⟩ := h1
      obtain ⟨b, ws, rfl, s2, m2⟩ := h2
      rw [eqq] at h
      rw [dep] at hu
      exact eqP_at rv ru fun E Q q => same_tup I (by omega) (l.sqT s1) (l'.sqT s2) (by rw [← dats_len m1, ← dats_len m2]; exact eqqs_len h) (eqqs_run I l l' (A := A.in1) h (by show A.units + 1 + deps xs < cLine; omega) m1 m2) E Q q
    | _ => rw [eqq] at h <;> first | cases h | exact nofun
  | .lst xs, e, A, x, y, v, u, h, hu, h1, h2, rv, ru => by
    cases e with
    | lst ys =>
      rw [Dat] at h1 h2
      obtain ⟨a, vs, rfl, s1, m1⟩ := h1
      obtain ⟨b, ws, rfl, s2, m2⟩ := h2
      rw [eqq] at h
      rw [dep] at hu
      exact eqP_at rv ru fun E Q q => same_lst I (by omega) (SqL.of (l _ _ s1)) (SqL.of (l' _ _ s2)) (by rw [← dats_len m1, ← dats_len m2]; exact eqqs_len h) (eqqs_run I l l' (A := A.in1) h (by show A.units + 1 + deps xs < cLine; omega) m1 m2) E Q q
    | _ => rw [eqq] at h <;> first | cases h | exact nofun
  | .dct xs, e, A, x, y, v, u, h, hu, h1, h2, rv, ru => by
    cases e with
    | dct ys =>
      rw [Dat] at h1 h2
      obtain ⟨a, vs, rfl, s1, m1⟩ := h1
      obtain ⟨b, ws, rfl, s2, m2⟩ := h2
      rw [eqq, Bool.and_eq_true] at h
      rw [dep] at hu
      exact eqP_at rv ru fun E Q q => same_dct I (by omega) (l.rd s1) (l'.rd s2) (by rw [← m1.length, ← m2.length]; exact eq_of_beq h.1) (fun va vb ra rb => eqqk_run I l l' (A := A.in1) h.2 (by show A.units + 1 + depk xs < cLine; omega) m1 m2 ra rb) E Q q
    | _ => rw [eqq] at h <;> first | cases h | exact nofun
  | .ins _ _, e, _, _, _, _, _, h, _, _, _, _, _ => by cases e <;> (rw [eqq] at h <;> first | cases h | exact nofun)
  | .slt _ _, e, _, _, _, _, _, h, _, _, _, _, _ => by cases e <;> (rw [eqq] at h <;> first | cases h | exact nofun)
  | .nul, e, _, _, _, _, _, h, _, _, _, _, _ => by cases e <;> (rw [eqq] at h <;> first | cases h | exact nofun)
  | .exc _ _, e, _, _, _, _, _, h, _, _, _, _, _ => by cases e <;> (rw [eqq] at h <;> first | cases h | exact nofun)
  | .cell _, e, _, _, _, _, _, h, _, _, _, _, _ => by cases e <;> (rw [eqq] at h <;> first | cases h | exact nofun)
  | .scr _, e, _, _, _, _, _, h, _, _, _, _, _ => by cases e <;> (rw [eqq] at h <;> first | cases h | exact nofun)
theorem eqqs_run (I : Inv X pins σ H s) {F' : Hp} (l : Le F H) (l' : Le F' H) : ∀ {ds es : List D} {A : Around} {xs ys : List V}, eqqs ds es = true → A.units + deps ds < cLine → Dats X.K F r ds xs → Dats X.K F' r' es ys → ∀ us ws, Vals xs us → Vals ys ws → ∀ j (h1 : j < us.length) (h2 : j < ws.length), SeqAt.EqP X.prog X.w A s us[j] ws[j] true
  | [], _, _, _, _, h, _, h1, h2, us, ws, r1, r2, j, k1, k2 => by
    rw [Dats] at h1
    subst h1
    cases r1
    exact absurd k1 (Nat.not_lt_zero _)
  | d :: ds, [], _, _, _, h, _, h1, h2, us, ws, r1, r2, j, k1, k2 => by rw [eqqs] at h <;> first | cases h | exact nofun
  | d :: ds, e :: es, A, xs, ys, h, hu, h1, h2, us, ws, r1, r2, j, k1, k2 => by
    rw [Dats] at h1 h2
    obtain ⟨x, xs', rfl, a1, a2⟩ := h1
    obtain ⟨y, ys', rfl, b1, b2⟩ := h2
    rw [eqqs, Bool.and_eq_true] at h
    rw [deps] at hu
    cases r1 with
    | cons p1 p2 =>
      cases r2 with
      | cons q1 q2 =>
        cases j with
        | zero => exact eqq_run I l l' h.1 (by omega) a1 b1 p1 q1
        | succ j => exact eqqs_run I l l' h.2 (by omega) a2 b2 _ _ p2 q2 j (Nat.lt_of_succ_lt_succ k1) (Nat.lt_of_succ_lt_succ k2)
theorem eqqk_run (I : Inv X pins σ H s) {F' : Hp} (l : Le F H) (l' : Le F' H) : ∀ {ds ls : List (D × D)} {A : Around} {xs ys : List (Key × V)}, eqqk ds ls = true → A.units + depk ds < cLine → Datk X.K F r ds xs → Datk X.K F' r' ls ys → ∀ {va vb : List (Key × Value)}, KV xs va → KV ys vb → PySem.W.KeqHitsP X.prog X.w A s vb va true
  | [], _, _, _, _, h, _, h1, h2, va, vb, r1, r2 => by
    rw [Datk] at h1
    subst h1
    cases r1
    exact .nil
  | (a, d) :: ds, ls, A, xs, ys, h, hu, h1, h2, va, vb, r1, r2 => by
    rw [Datk] at h1
    obtain ⟨k, v, vs', rfl, a0, a1, a2⟩ := h1
    rw [eqqk, Bool.and_eq_true, keyD_of a0] at h
    rw [depk] at hu
    obtain ⟨hd, ht⟩ := h
    dsimp only at hd
    cases eg : getKD ls k with
    | none => rw [eg] at hd; cases hd
    | some e =>
      rw [eg] at hd
      obtain ⟨y, ey, dy⟩ := (h2.val (k := k)).1 e eg
      have rr : RelO (some y) (valueAt vb k) := by rw [← ey]; exact r2.val k
      obtain ⟨y', hy, ry⟩ := rr.some_of
      cases r1 with
      | @cons _ q _ qs p1 p2 =>
        obtain ⟨q1, q2⟩ := q
        obtain ⟨ek, rv⟩ := p1
        have ek : k = q1 := ek
        subst ek
        have rv : RelV v q2 := rv
        show PySem.W.KeqHitsP X.prog X.w A s vb ((k, q2) :: qs) (true && true)
        exact .hit hy (eqq_run I l l' hd (by omega) a1 dy rv ry) (eqqk_run I l l' ht (by omega) a2 h2 p2 r2)
end
theorem eqq_top (I : Inv X pins σ H s) {t : Tags} {d e : D} {A : Around} {x y : V} {v u : Value} (hb : boxD d = true) (h : eqq d e = true) (hu : A.units + dep d < cLine) (h1 : Vw X.K t H d x) (h2 : Vw X.K t H e y) (rv : RelV x v) (ru : RelV y u) (E Q : Value → Shared → Prop) (q : Q (.bool true) s) : wpAny (model X.prog X.w) A (richCompare .Eq v u) Q E s := by
  cases d with
  | tup xs =>
    cases e with
    | tup ys =>
      obtain ⟨a, vs, rfl, s1, m1⟩ := h1
      obtain ⟨b, ws, rfl, s2, m2⟩ := h2
      cases (show v = Value.ref a from rv)
      cases (show u = Value.ref b from ru)
      rw [eqq] at h
      rw [dep] at hu
      exact same_tup I (by omega) (fz_le.sqT s1) (fz_le.sqT s2) (by rw [← dats_len m1, ← dats_len m2]; exact eqqs_len h) (eqqs_run I fz_le fz_le (A := A.in1) h (by show A.units + 1 + deps xs < cLine; omega) m1 m2) E Q q
    | _ => rw [eqq] at h <;> first | cases h | exact nofun
  | lst xs =>
    cases e with
    | lst ys =>
      obtain ⟨a, vs, rfl, s1, _, m1⟩ := h1
      obtain ⟨b, ws, rfl, s2, _, m2⟩ := h2
      cases (show v = Value.ref a from rv)
      cases (show u = Value.ref b from ru)
      rw [eqq] at h
      rw [dep] at hu
      exact same_lst I (by omega) (SqL.of s1) (SqL.of s2) (by rw [← dats_len m1, ← dats_len m2]; exact eqqs_len h) (eqqs_run I fz_le fz_le (A := A.in1) h (by show A.units + 1 + deps xs < cLine; omega) m1 m2) E Q q
    | _ => rw [eqq] at h <;> first | cases h | exact nofun
  | dct xs =>
    cases e with
    | dct ys =>
      obtain ⟨a, vs, rfl, s1, _, m1⟩ := h1
      obtain ⟨b, ws, rfl, s2, _, m2⟩ := h2
      cases (show v = Value.ref a from rv)
      cases (show u = Value.ref b from ru)
      rw [eqq, Bool.and_eq_true] at h
      rw [dep] at hu
      exact same_dct I (by omega) s1 s2 (by rw [← m1.length, ← m2.length]; exact eq_of_beq h.1) (fun va vb ra rb => eqqk_run I fz_le fz_le (A := A.in1) h.2 (by show A.units + 1 + depk xs < cLine; omega) m1 m2 ra rb) E Q q
    | _ => rw [eqq] at h <;> first | cases h | exact nofun
  | _ => cases hb
theorem op_eqD2 {X : Cx} (hu : X.A.units + 64 < cLine) : OpR X (compareOp .Eq) (rF X.K eqD2) := by
  intro pins s σ H x y v u Q I rx ry ⟨t, a, b, tg, da, db, h⟩
  unfold eqD2 eqB2 at h
  cases e : eqB a b with
  | some k => exact op_eqDD hu pins s σ H x y v u Q I rx ry ⟨t, a, b, tg, da, db, by unfold eqD; rw [e] at h ⊢; exact h⟩
  | none =>
    rw [e] at h
    dsimp only at h
    split at h
    · rename_i hc
      exact eqq_top I hc.1 hc.2.2 (by have := hc.2.1; omega) da db rx ry _ _ ⟨.bl true, H, I, rfl, RO.bl h⟩
    · exact h.elim
end
/-! isinstance of own exceptions -/
structure XisC (K : PySem.W.Frag) (C : Addr) : Prop where
  xf : XfC K C
  cl : (PySem.W.clsIn K C).isSome = true
  hc : PySem.W.findIn K (.ref C) "__class__" = some (some (.builtin "object.__class__"))
  hn : PySem.W.specialIn K (.builtin "object.__class__") "__get__" = some (some (.builtin "getset_descriptor.__get__"))
  tk : PySem.W.takesIn K (.builtin "object.__class__") = some true
  hm : PySem.W.mroIn K C (.type "object") = some true
open He in
def xisB (K : PySem.W.Frag) (C : Addr) : Bool := xfB K C && ((PySem.W.clsIn K C).isSome && (eqO (PySem.W.findIn K (.ref C) "__class__") (some (some (.builtin "object.__class__"))) && (eqO (PySem.W.specialIn K (.builtin "object.__class__") "__get__") (some (some (.builtin "getset_descriptor.__get__"))) && (decide (PySem.W.takesIn K (.builtin "object.__class__") = some true) && decide (PySem.W.mroIn K C (.type "object") = some true)))))
open He in
theorem xisB_ok {K : PySem.W.Frag} {C : Addr} (h : xisB K C = true) : XisC K C := by
  obtain ⟨h1, h⟩ := ba h
  obtain ⟨h2, h⟩ := ba h
  obtain ⟨h3, h⟩ := ba h
  obtain ⟨h4, h⟩ := ba h
  obtain ⟨h5, h6⟩ := ba h
  exact ⟨xfB_ok h1, h2, eqO_ok h3, eqO_ok h4, of_decide_eq_true h5, of_decide_eq_true h6⟩
section
variable {X : Cx} {W : WX}
def gIsiX (cs : List Str) (m : Str → Bool) (z : DZ) : DE := fun st => (z st).bind fun d st => match d with
  | .exc c _ => if c ∈ cs then .ok (.sh (.bl (m c))) st else .no
  | _ => .no
theorem call_isiX {T : Value} : CallR X (.builtin "isinstance") (fun xs H Q => ∃ (a d : Addr) (c : Str) (u w : V) (b : Bool), xs = [.ref a, w] ∧ ClsV w T ∧ H a = some (ExH (.ref (He.ga X.K c)) d a) ∧ H d = some (.xd [("value", u)]) ∧ XisC X.K (He.ga X.K c) ∧ PySem.W.kitOne X.K (.ref (He.ga X.K c)) T = some b ∧ Q (.bl b) H) := by
  intro pins s σ H xs us Q I r h
  obtain ⟨a, d, c, u, w, b, rfl, k, ea, ed, T1, e, q⟩ := h
  obtain ⟨u1, u2, rfl, r1, r2⟩ := vals2 r
  have e2 := k.eq r2
  subst e2
  cases (show u1 = Value.ref a from r1)
  have hx : ObjOk X.prog X.w H s.heap a (ExH (.ref (He.ga X.K c)) d a) := I.hok a _ ea
  obtain ⟨⟨oe, vs, g1, g2, g3, g4⟩, _⟩ := hx
  have hy : ObjOk X.prog X.w H s.heap d (.xd [("value", u)]) := I.hok d _ ed
  obtain ⟨mA, hns, hr⟩ := hy
  obtain ⟨od, ho, hl⟩ := lookIn_ns hns
  have J : PySem.W.InstAt s.heap a oe (He.ga X.K c) (some od) := ⟨g1, g2, by unfold PySem.W.notCls; rw [g4] <;> rfl, by rw [g3]; exact ho⟩
  exact PySem.W.kia_one (PySem.W.kitx_exc T1.cl T1.xf.ga T1.xf.gg T1.xf.exC T1.hc T1.hn T1.tk T1.hm) I.kIn J e (fun z => nomatch z) fun tk => ⟨.bl b, H, I.tok tk, rfl, q⟩
theorem de_isiX {e e2 : Expr} {z : DZ} {T : Value} {w : V} {cs : List Str} {m : Str → Bool} {p pos : Pos} (hT : ∀ c ∈ cs, XisC X.K (He.ga X.K c) ∧ PySem.W.kitOne X.K (.ref (He.ga X.K c)) T = some (m c)) (hw : ClsV w T) (ha : PE X e (tV X.K W z)) (hx : PE X e2 (tC w)) (hm : X.mg "isinstance" = none) (hg : Gl X "isinstance" := by rfl)
    (hs : starEach [e, e2] X.env = (false, eval e X.env) :: starEach [e2] X.env := by rfl) (hs2 : starEach [e2] X.env = (false, eval e2 X.env) :: starEach [] X.env := by rfl) (hpl : (backTo pos (starEach [e2] X.env)).any (·.1) = false := by rfl) :
    PE X (.Call (.Name "isinstance" p) [e, e2] [] pos) (tD X.K W (gIsiX cs m z)) := by
  refine PE.imp (pe_callB (call_isiX (T := T)) hg hm (by decide +kernel) (pa_cons ha (pa_cons hx pa_nil hs2) hs) (by decide) (by decide) hs hpl) fun σ H Q ⟨t, st, r, q⟩ => ?_
  refine tG_at r q fun t1 st1 H1 d v E1 R1 p1 q1 => ?_
  cases d with
  | exc c x =>
    have q2 := Res.step0 E1 q1
    dsimp only at q2
    split at q2
    · rename_i hc
      have p1 : Dat X.K (fz t1 H1) (rho t1) (.exc c x) v := p1
      rw [Dat] at p1
      obtain ⟨a, dd, u, rfl, e1, e2, e3⟩ := p1
      exact ⟨a, dd, c, u, w, m c, rfl, hw, (of_fz e1).2, (of_fz e2).2, (hT c hc).1, (hT c hc).2, q2 t1 H1 (.bl (m c)) (Ext.refl _ _) R1 (by show Dat _ _ _ _ _; rw [Dat])⟩
    · exact q2.elim
  | _ => exact q1.elim
end
end Dn
end

section
set_option maxHeartbeats 4000000
-- De11
/-! De11: the head's hook, with the table of modules; facts about own exceptions -/
namespace Dn
open PySem PySem.Spec L2 He
open PySem.W (Frag)
def asY (g : Addr → Option Obj) (n : Nat) : List Addr := asX g n ++ [sysModules]
def obsYG (n : Nat) (fa : List Fa) (fx : List (Frag → Bool)) (fn : List DefD) (D : Str) (g : Addr → Option Obj) : AlX := obsX fa fx fn D (frG g (asY g n))
def hookY (n : Nat) (fa : List Fa) (fx : List (Frag → Bool)) (fn : List DefD) (D : Str) (v : IniW) : PySem.W.Hook where
  α := AlX
  obs := fun s => obsYG n fa fx fn D s.heap.get?
  val := fun _ => valX fn v
  says := fun _ h => ∃ K : Frag, K.In h ∧ SaysX fa fx fn D v K
  of := fun _ _ e => ⟨_, frG_in, e⟩
  keeps := fun _ _ _ ⟨K, hK, c⟩ k => ⟨K, Frag.In.keeps hK k, c⟩
theorem obsYG_eq {n : Nat} {fa : List Fa} {fx : List (Frag → Bool)} {fn : List DefD} {D : Str} {v : IniW} {g : Addr → Option Obj} {s : Shared} (h : ∀ a, g a = s.heap.get? a) : obsYG n fa fx fn D g = (hookY n fa fx fn D v).obs s := by
  obtain rfl : g = s.heap.get? := funext h
  rfl
def sysB (K : Frag) : Bool := match K.lookup sysModules with
  | some o => decide (o.cls = .type "dict")
  | none => false
theorem sysB_ok {K : Frag} (h : sysB K = true) : SysD K := by
  unfold sysB at h
  split at h
  · rename_i o e
    exact ⟨o, e, of_decide_eq_true h⟩
  · cases h
/-- which of the classes cs are T -/
def isaB (cs : List Str) (T : Str) (m : Str → Bool) (K : Frag) : Bool := cs.all fun c => decide (PySem.W.kitOne K (.ref (ga K c)) (.ref (ga K T)) = some (m c))
def isaTB (cs : List Str) (T : String) (m : Str → Bool) (K : Frag) : Bool := cs.all fun c => decide (PySem.W.kitOne K (.ref (ga K c)) (.type T) = some (m c))
theorem isaB_ok {cs : List Str} {T : Str} {m : Str → Bool} {K : Frag} (h : isaB cs T m K = true) {c : Str} (hc : c ∈ cs) : PySem.W.kitOne K (.ref (ga K c)) (.ref (ga K T)) = some (m c) := of_decide_eq_true (List.all_eq_true.mp h c hc)
theorem isaTB_ok {cs : List Str} {T : String} {m : Str → Bool} {K : Frag} (h : isaTB cs T m K = true) {c : Str} (hc : c ∈ cs) : PySem.W.kitOne K (.ref (ga K c)) (.type T) = some (m c) := of_decide_eq_true (List.all_eq_true.mp h c hc)
def xisAll (cs : List Str) (K : Frag) : Bool := cs.all fun c => xisB K (ga K c)
theorem xisAll_ok {cs : List Str} {K : Frag} (h : xisAll cs K = true) {c : Str} (hc : c ∈ cs) : XisC K (ga K c) := xisB_ok (List.all_eq_true.mp h c hc)
def noVal (cs : List Str) (K : Frag) : Bool := cs.all fun c => eqO (PySem.W.findIn K (.ref (ga K c)) "value") (some none)
theorem noVal_ok {cs : List Str} {K : Frag} (h : noVal cs K = true) {c : Str} (hc : c ∈ cs) : PySem.W.findIn K (.ref (ga K c)) "value" = some none := eqO_ok (List.all_eq_true.mp h c hc)
section
variable {X : Cx} {W : WX} {x T : Str} {cs : List Str} {m : Str → Bool} {e : Expr} {z : DZ} {p pos p2 : Pos}
/-- isinstance(e, C), C an own exception class -/
theorem isx (T : Str) (hc : ∀ c ∈ cs, XisC X.K (ga X.K c)) (hT : ∀ c ∈ cs, PySem.W.kitOne X.K (.ref (ga X.K c)) (.ref (ga X.K T)) = some (m c)) (ha : PE X e (tV X.K W z)) (hm : X.mg "isinstance" = none) (hx : X.mg T = some (.ref (ga X.K T))) (hg : Gl X "isinstance" := by rfl) (hg2 : Gl X T := by rfl) (hd : (T == ("__debug__" : Str)) = false := by decide)
    (hs : starEach [e, .Name T p2] X.env = (false, eval e X.env) :: starEach [.Name T p2] X.env := by rfl) (hs2 : starEach [.Name T p2] X.env = (false, eval (.Name T p2) X.env) :: starEach [] X.env := by rfl) (hpl : (backTo pos (starEach [.Name T p2] X.env)).any (·.1) = false := by rfl) :
    PE X (.Call (.Name "isinstance" p) [e, .Name T p2] [] pos) (tD X.K W (gIsiX cs m z)) := de_isiX (T := .ref (ga X.K T)) (w := .ref (ga X.K T)) (fun c h => ⟨hc c h, hT c h⟩) (.own _) ha (pe_glob hg2 hx rfl hd) hm hg hs hs2 hpl
/-- isinstance(e, ValueError) -/
theorem isxT {T : String} {y : Str} (hc : ∀ c ∈ cs, XisC X.K (ga X.K c)) (hT : ∀ c ∈ cs, PySem.W.kitOne X.K (.ref (ga X.K c)) (.type T) = some (m c)) (ha : PE X e (tV X.K W z)) (hm : X.mg "isinstance" = none) (hmT : X.mg y = none) (hg : Gl X "isinstance" := by rfl) (hgT : Gl X y := by rfl) (hvT : bootBuiltins y = some (.type T) := by decide +kernel) (hnT : y ≠ "__name__" := by decide) (hdT : (y == ("__debug__" : Str)) = false := by decide)
    (hs : starEach [e, .Name y p2] X.env = (false, eval e X.env) :: starEach [.Name y p2] X.env := by rfl) (hs2 : starEach [.Name y p2] X.env = (false, eval (.Name y p2) X.env) :: starEach [] X.env := by rfl) (hpl : (backTo pos (starEach [.Name y p2] X.env)).any (·.1) = false := by rfl) :
    PE X (.Call (.Name "isinstance" p) [e, .Name y p2] [] pos) (tD X.K W (gIsiX cs m z)) := de_isiX (T := .type T) (w := .ty T) (fun c h => ⟨hc c h, hT c h⟩) (.ty T) ha (pe_bltn hgT hmT hvT rfl hnT hdT) hm hg hs hs2 hpl
/-- {k: v, ..} -/
theorem dsp {ks : List (Option Expr)} {vs : List Expr} {zs : List (DZ × DZ)} (h : PPl X W pos ks vs zs) (hall : ks.all (·.isSome) = true := by rfl) (hl : ks.length = vs.length := by rfl) (h0 : ks ≠ [] := by simp) (h15 : ks.length ≤ 15 := by decide) : PE X (.Dict ks vs pos) (tD X.K W (gDisp zs)) := de_disp h hall hl h0 h15
end
end Dn
end

section
set_option maxHeartbeats 400000
-- G00
/-! printed by gen.py from the text of the law -/
namespace K00
open PySem PySem.Spec L2 Dn
abbrev top (i : Nat) : Stmt := PySem.Challenge.pw_treadplans_k00_errors_keep_their_value.main.body.getD i (.Pass ⟨0, 0, 0, 0⟩)
def xcs : List Str := ["WeaveError", "BadPlan", "BadPlace", "BadNumber", "BadDraft", "BadEnd", "BadPick", "BadName", "BadRow", "BadThread", "BadBy", "BadPairs", "TooMany", "BadSort", "BadSide", "BadPicture", "NotNow", "BadPicks", "NotWhole", "NothingToUndo", "NothingToRedo", "BadText", "BadJournal", "BadLine"]
def isa (T c : Str) : Bool := c == T || T == "WeaveError"
def isaT (_ : Str) : Bool := true
def nbs : List Str := ["ValueError", "abs", "all", "enumerate", "int", "isinstance", "len", "max", "min", "range", "repr"]
section
variable {P : Program} {w : World} {K : PySem.W.Frag} {mg : Str → Option Value} {base : Heap} {D fI : Addr} {bI : List Stmt}
def g_law_take : DS := (gSeq (gIfS (gTest asB (frz (gBin gtD (frz (gCix (gN 0) (frz (gC (.int 0))))) (frz (gC (.int 0)))))) (gSeq (gSet 4 (gBin modD (frz (gCall intD (gConsA (frz (gCix (gN 0) (frz (gC (.int 0))))) gNilA))) (gN 1)))
 (gSeq (gSetAt 0 (frz (gBin fdivD (frz (gCix (gN 0) (frz (gC (.int 0))))) (gN 1))) (frz (gC (.int 0))))
 (gSeq (gRetV 4)
 gNil))) gNil)
 (gSeq (gSetAt 0 (frz (gBin addD (frz (gCix (gN 0) (frz (gC (.int 2))))) (frz (gC (.int 1))))) (frz (gC (.int 2))))
 (gSeq (gSet 2 (gBin ixD (frz (gLst (gConsA (frz (gC (.int 2147483647))) (gConsA (frz (gC (.int 2147483629))) (gConsA (frz (gC (.int 2147483587))) (gConsA (frz (gC (.int 2147483579))) (gConsA (frz (gC (.int 2147483563))) gNilA))))))) (frz (gBin modD (frz (gCall intD (gConsA (frz (gCix (gN 0) (frz (gC (.int 2))))) gNilA))) (frz (gC (.int 5)))))))
 (gSeq (gSet 3 (gBin modD (frz (gCall intD (gConsA (frz (gBin powD (frz (gCall intD (gConsA (frz (gBin addD (frz (gBin addD (frz (gCix (gN 0) (frz (gC (.int 1))))) (frz (gBin mulD (frz (gBin mulD (frz (gC (.int 100151))) (frz (gCix (gN 0) (frz (gC (.int 2))))))) (frz (gCix (gN 0) (frz (gC (.int 2))))))))) (frz (gC (.int 47))))) gNilA))) (frz (gC (.int 3))))) gNilA))) (gN 2)))
 (gSeq (gSet 3 (gBin modD (frz (gCall intD (gConsA (frz (gBin mulD (gN 3) (frz (gBin addD (frz (gBin modD (frz (gCall intD (gConsA (gN 3) gNilA))) (frz (gC (.int 10037))))) (frz (gBin mulD (frz (gC (.int 89))) (frz (gCix (gN 0) (frz (gC (.int 2))))))))))) gNilA))) (frz (gC (.int 2305843009213693907)))))
 (gSeq (gRet (gBin modD (frz (gCall intD (gConsA (frz (gBin fdivD (gN 3) (frz (gC (.int 127))))) gNilA))) (gN 1)))
 gNil))))))
def m__law_take : Fm := fm (List.length (["pot", "upto", "prime", "stirred", "digit"] : List Str)) g_law_take
theorem ok__law_take {f : Addr} {fd : FuncData} (F : FunD K "_law_take" "_law_take" (defArgs (top 27)) (defBody (top 27)) (defScope (top 27)) [] [] f fd) (hf : mg "_law_take" = some (.ref f)) (nb : ∀ x : Str, x ∈ nbs → mg x = none) : Fn P w K mg base 1 "_law_take" ["pot", "upto"] m__law_take := by
  have S : FnScope ["pot", "upto", "prime", "stirred", "digit"] ["pot", "upto"] (defScope (top 27)) := ⟨rfl, rfl, rfl, by decide +kernel, rfl, by decide +kernel, by decide +kernel⟩
  have hN := S.nd
  refine ⟨f, fd, hf, F.kp, F.bindsN (ps := ["pot", "upto"]) (fun _ _ _ _ _ _ us hl => match us, hl with | [_, _], _ => rfl), fnG_of (k := 0) (N := ["pot", "upto", "prime", "stirred", "digit"]) (ps := ["pot", "upto"]) (g := g_law_take) F S fun cdv A outer s H E W eW B => ?_⟩
  exact (dss_cons (ds_if (tst op_gtD (peV (cix (vN 0) (peV de_int))) (peV de_int)) (dss_cons (sSet 4 hN (de_bin op_modD (peV (cT cr_int (nb "int" (by decide)) (bC (peV (cix (vN 0) (peV de_int))) bN))) (vN 1)))
 (dss_cons (sSetAt 0 (peZ (de_bin op_fdivD (peV (cix (vN 0) (peV de_int))) (vN 1))) (peV de_int))
 (dss_cons (sRetV 4)
 dss_nil))) dss_nil)
 (dss_cons (sSetAt 0 (peZ (de_bin op_addD (peV (cix (vN 0) (peV de_int))) (peV de_int))) (peV de_int))
 (dss_cons (sSet 2 hN (sub (peV (de_lst (aC (peZ de_int) (aC (peZ de_int) (aC (peZ de_int) (aC (peZ de_int) (aC (peZ de_int) aN))))))) (peV (de_bin op_modD (peV (cT cr_int (nb "int" (by decide)) (bC (peV (cix (vN 0) (peV de_int))) bN))) (peV de_int)))))
 (dss_cons (sSet 3 hN (de_bin op_modD (peV (cT cr_int (nb "int" (by decide)) (bC (peV (de_bin op_powD (peV (cT cr_int (nb "int" (by decide)) (bC (peV (de_bin op_addD (peV (de_bin op_addD (peV (cix (vN 0) (peV de_int))) (peV (de_bin op_mulD (peV (de_bin op_mulD (peV de_int) (peV (cix (vN 0) (peV de_int))))) (peV (cix (vN 0) (peV de_int))))))) (peV de_int))) bN))) (peV de_int))) bN))) (vN 2)))
 (dss_cons (sSet 3 hN (de_bin op_modD (peV (cT cr_int (nb "int" (by decide)) (bC (peV (de_bin op_mulD (vN 3) (peV (de_bin op_addD (peV (de_bin op_modD (peV (cT cr_int (nb "int" (by decide)) (bC (vN 3) bN))) (peV de_int))) (peV (de_bin op_mulD (peV de_int) (peV (cix (vN 0) (peV de_int))))))))) bN))) (peV de_int)))
 (dss_cons (ds_ret (de_bin op_modD (peV (cT cr_int (nb "int" (by decide)) (bC (peV (de_bin op_fdivD (vN 3) (peV de_int))) bN))) (vN 1)))
 dss_nil))))))
def g_law_of : DS := (gSeq (gRet (gBin ixD (gN 1) (frz (gFn m__law_take (gLen 2 (gConsA (frz (gV 0)) (gConsA (frz (gCall lenD (gConsA (gN 1) gNilA))) gNilA)))))))
 gNil)
def m__law_of : Fm := fm (List.length (["pot", "some"] : List Str)) g_law_of
theorem ok__law_of {f : Addr} {fd : FuncData} (F : FunD K "_law_of" "_law_of" (defArgs (top 28)) (defBody (top 28)) (defScope (top 28)) [] [] f fd) (hf : mg "_law_of" = some (.ref f)) (G__law_take : Fn P w K mg base 1 "_law_take" ["pot", "upto"] m__law_take) (nb : ∀ x : Str, x ∈ nbs → mg x = none) : Fn P w K mg base 2 "_law_of" ["pot", "some"] m__law_of := by
  have S : FnScope ["pot", "some"] ["pot", "some"] (defScope (top 28)) := ⟨rfl, rfl, rfl, by decide +kernel, rfl, by decide +kernel, by decide +kernel⟩
  have hN := S.nd
  refine ⟨f, fd, hf, F.kp, F.bindsN (ps := ["pot", "some"]) (fun _ _ _ _ _ _ us hl => match us, hl with | [_, _], _ => rfl), fnG_of (k := 1) (N := ["pot", "some"]) (ps := ["pot", "some"]) (g := g_law_of) F S fun cdv A outer s H E W eW B => ?_⟩
  exact (dss_cons (ds_ret (sub (vN 1) (peV (cF G__law_take B.cal (aC (peZ (eN 0)) (aC (peZ (cB cr_len (nb "len" (by decide)) (bC (vN 1) bN))) aN))))))
 dss_nil)
def g_law_odd : DS := (gSeq (gSet 1 (gLst (gConsA (frz (gC .non)) (gConsA (frz (gC (.bl true))) (gConsA (frz (gC (.bl false))) (gConsA (frz (gC (.int 0))) (gConsA (frz (gC (.int 1))) (gConsA (frz (gNeg (frz (gC (.int 1))))) (gConsA (frz (gC (.int 10))) (gConsA (frz (gC (.str ""))) (gConsA (frz (gC (.str "A"))) (gConsA (frz (gC (.str "#"))) (gConsA (frz (gC (.str "."))) (gConsA (frz (gC (.str "a b"))) (gConsA (frz (gC (.str "a"))) (gConsA (frz (gTup gNilA)) (gConsA (frz (gLst gNilA)) (gConsA (frz gDict0) (gConsA (frz (gTup (gConsA (frz (gTup gNilA)) gNilA))) (gConsA (frz (gTup (gConsA (frz (gC (.int 0))) gNilA))) (gConsA (frz (gLst (gConsA (frz (gC (.int 0))) gNilA))) (gConsA (frz (gTup (gConsA (frz (gC (.str "a"))) gNilA))) gNilA))))))))))))))))))))))
 (gSeq (gRet (gFn m__law_of (gLen 2 (gConsA (frz (gV 0)) (gConsA (frz (gBin addD (gN 1) (frz (gLst (gConsA (frz (gTup (gConsA (frz (gC (.bl true))) gNilA))) (gConsA (frz (gTup (gConsA (frz (gC (.str "a"))) (gConsA (frz (gC (.int 1))) gNilA)))) (gConsA (frz (gC (.str "end"))) (gConsA (frz (gTup (gConsA (frz (gC (.str "end"))) (gConsA (frz (gC (.int 0))) gNilA)))) (gConsA (frz (gDisp (((frz (gC (.str "a"))), (frz (gC (.int 0)))) :: []))) (gConsA (frz (gLst (gConsA (frz (gC (.str "a"))) gNilA))) (gConsA (frz (gC (.str "( a )"))) (gConsA (frz (gBin powD (frz (gC (.int 10))) (frz (gC (.int 8))))) gNilA)))))))))))) gNilA)))))
 gNil))
def m__law_odd : Fm := fm (List.length (["pot", "some"] : List Str)) g_law_odd
theorem ok__law_odd {f : Addr} {fd : FuncData} (F : FunD K "_law_odd" "_law_odd" (defArgs (top 29)) (defBody (top 29)) (defScope (top 29)) [] [] f fd) (hf : mg "_law_odd" = some (.ref f)) (G__law_of : Fn P w K mg base 2 "_law_of" ["pot", "some"] m__law_of) : Fn P w K mg base 3 "_law_odd" ["pot"] m__law_odd := by
  have S : FnScope ["pot", "some"] ["pot"] (defScope (top 29)) := ⟨rfl, rfl, rfl, by decide +kernel, rfl, by decide +kernel, by decide +kernel⟩
  have hN := S.nd
  refine ⟨f, fd, hf, F.kp, F.bindsN (ps := ["pot"]) (fun _ _ _ _ _ _ us hl => match us, hl with | [_], _ => rfl), fnG_of (k := 2) (N := ["pot", "some"]) (ps := ["pot"]) (g := g_law_odd) F S fun cdv A outer s H E W eW B => ?_⟩
  exact (dss_cons (sSet 1 hN (de_lst (aC (peZ de_non) (aC (peZ de_bl) (aC (peZ de_bl) (aC (peZ de_int) (aC (peZ de_int) (aC (peZ (de_neg (peV de_int))) (aC (peZ de_int) (aC (peZ de_str) (aC (peZ de_str) (aC (peZ de_str) (aC (peZ de_str) (aC (peZ de_str) (aC (peZ de_str) (aC (peZ (de_tup aN)) (aC (peZ (de_lst aN)) (aC (peZ de_dict0) (aC (peZ (de_tup (aC (peZ (de_tup aN)) aN))) (aC (peZ (de_tup (aC (peZ de_int) aN))) (aC (peZ (de_lst (aC (peZ de_int) aN))) (aC (peZ (de_tup (aC (peZ de_str) aN))) aN))))))))))))))))))))))
 (dss_cons (ds_ret (cF G__law_of B.cal (aC (peZ (eN 0)) (aC (peZ (de_bin op_addD (vN 1) (peV (de_lst (aC (peZ (de_tup (aC (peZ de_bl) aN))) (aC (peZ (de_tup (aC (peZ de_str) (aC (peZ de_int) aN)))) (aC (peZ de_str) (aC (peZ (de_tup (aC (peZ de_str) (aC (peZ de_int) aN)))) (aC (peZ (dsp (.cons (peZ de_str) (peZ de_int) .nil))) (aC (peZ (de_lst (aC (peZ de_str) aN))) (aC (peZ de_str) (aC (peZ (de_bin op_powD (peV de_int) (peV de_int))) aN)))))))))))) aN))))
 dss_nil))
def g_law_all_of : DS := (gSeq (gSet 1 (gLst (gConsA (frz (gNewX "BadPlan" (frz (gV 0)))) (gConsA (frz (gNewX "BadPlace" (frz (gV 0)))) (gConsA (frz (gNewX "BadNumber" (frz (gV 0)))) (gConsA (frz (gNewX "BadDraft" (frz (gV 0)))) gNilA))))))
 (gSeq (gExt 1 (frz (gLst (gConsA (frz (gNewX "BadEnd" (frz (gV 0)))) (gConsA (frz (gNewX "BadPick" (frz (gV 0)))) (gConsA (frz (gNewX "BadName" (frz (gV 0)))) (gConsA (frz (gNewX "BadRow" (frz (gV 0)))) gNilA)))))))
 (gSeq (gExt 1 (frz (gLst (gConsA (frz (gNewX "BadThread" (frz (gV 0)))) (gConsA (frz (gNewX "BadBy" (frz (gV 0)))) (gConsA (frz (gNewX "BadPairs" (frz (gV 0)))) (gConsA (frz (gNewX "TooMany" (frz (gV 0)))) gNilA)))))))
 (gSeq (gExt 1 (frz (gLst (gConsA (frz (gNewX "BadSort" (frz (gV 0)))) (gConsA (frz (gNewX "BadSide" (frz (gV 0)))) (gConsA (frz (gNewX "BadPicture" (frz (gV 0)))) (gConsA (frz (gNewX "NotNow" (frz (gV 0)))) gNilA)))))))
 (gSeq (gExt 1 (frz (gLst (gConsA (frz (gNewX "BadPicks" (frz (gV 0)))) (gConsA (frz (gNewX "NotWhole" (frz (gV 0)))) (gConsA (frz (gNewX "NothingToUndo" (frz (gV 0)))) (gConsA (frz (gNewX "NothingToRedo" (frz (gV 0)))) gNilA)))))))
 (gSeq (gExt 1 (frz (gLst (gConsA (frz (gNewX "BadText" (frz (gV 0)))) (gConsA (frz (gNewX "BadJournal" (frz (gV 0)))) (gConsA (frz (gNewX "BadLine" (frz (gV 0)))) gNilA))))))
 (gSeq (gRetV 1)
 gNil)))))))
def m__law_all_of : Fm := fm (List.length (["one", "found"] : List Str)) g_law_all_of
theorem ok__law_all_of {f : Addr} {fd : FuncData} (F : FunD K "_law_all_of" "_law_all_of" (defArgs (top 30)) (defBody (top 30)) (defScope (top 30)) [] [] f fd) (hf : mg "_law_all_of" = some (.ref f)) (ini : XIni P K D fI bI) (x_BadBy : XCls K (He.ga K "BadBy") D fI) (m_BadBy : mg "BadBy" = some (.ref (He.ga K "BadBy"))) (x_BadDraft : XCls K (He.ga K "BadDraft") D fI) (m_BadDraft : mg "BadDraft" = some (.ref (He.ga K "BadDraft"))) (x_BadEnd : XCls K (He.ga K "BadEnd") D fI) (m_BadEnd : mg "BadEnd" = some (.ref (He.ga K "BadEnd"))) (x_BadJournal : XCls K (He.ga K "BadJournal") D fI) (m_BadJournal : mg "BadJournal" = some (.ref (He.ga K "BadJournal"))) (x_BadLine : XCls K (He.ga K "BadLine") D fI) (m_BadLine : mg "BadLine" = some (.ref (He.ga K "BadLine"))) (x_BadName : XCls K (He.ga K "BadName") D fI) (m_BadName : mg "BadName" = some (.ref (He.ga K "BadName"))) (x_BadNumber : XCls K (He.ga K "BadNumber") D fI) (m_BadNumber : mg "BadNumber" = some (.ref (He.ga K "BadNumber"))) (x_BadPairs : XCls K (He.ga K "BadPairs") D fI) (m_BadPairs : mg "BadPairs" = some (.ref (He.ga K "BadPairs"))) (x_BadPick : XCls K (He.ga K "BadPick") D fI) (m_BadPick : mg "BadPick" = some (.ref (He.ga K "BadPick"))) (x_BadPicks : XCls K (He.ga K "BadPicks") D fI) (m_BadPicks : mg "BadPicks" = some (.ref (He.ga K "BadPicks"))) (x_BadPicture : XCls K (He.ga K "BadPicture") D fI) (m_BadPicture : mg "BadPicture" = some (.ref (He.ga K "BadPicture"))) (x_BadPlace : XCls K (He.ga K "BadPlace") D fI) (m_BadPlace : mg "BadPlace" = some (.ref (He.ga K "BadPlace"))) (x_BadPlan : XCls K (He.ga K "BadPlan") D fI) (m_BadPlan : mg "BadPlan" = some (.ref (He.ga K "BadPlan"))) (x_BadRow : XCls K (He.ga K "BadRow") D fI) (m_BadRow : mg "BadRow" = some (.ref (He.ga K "BadRow"))) (x_BadSide : XCls K (He.ga K "BadSide") D fI) (m_BadSide : mg "BadSide" = some (.ref (He.ga K "BadSide"))) (x_BadSort : XCls K (He.ga K "BadSort") D fI) (m_BadSort : mg "BadSort" = some (.ref (He.ga K "BadSort"))) (x_BadText : XCls K (He.ga K "BadText") D fI) (m_BadText : mg "BadText" = some (.ref (He.ga K "BadText"))) (x_BadThread : XCls K (He.ga K "BadThread") D fI) (m_BadThread : mg "BadThread" = some (.ref (He.ga K "BadThread"))) (x_NotNow : XCls K (He.ga K "NotNow") D fI) (m_NotNow : mg "NotNow" = some (.ref (He.ga K "NotNow"))) (x_NotWhole : XCls K (He.ga K "NotWhole") D fI) (m_NotWhole : mg "NotWhole" = some (.ref (He.ga K "NotWhole"))) (x_NothingToRedo : XCls K (He.ga K "NothingToRedo") D fI) (m_NothingToRedo : mg "NothingToRedo" = some (.ref (He.ga K "NothingToRedo"))) (x_NothingToUndo : XCls K (He.ga K "NothingToUndo") D fI) (m_NothingToUndo : mg "NothingToUndo" = some (.ref (He.ga K "NothingToUndo"))) (x_TooMany : XCls K (He.ga K "TooMany") D fI) (m_TooMany : mg "TooMany" = some (.ref (He.ga K "TooMany"))) : Fn P w K mg base 2 "_law_all_of" ["one"] m__law_all_of := by
  have S : FnScope ["one", "found"] ["one"] (defScope (top 30)) := ⟨rfl, rfl, rfl, by decide +kernel, rfl, by decide +kernel, by decide +kernel⟩
  have hN := S.nd
  refine ⟨f, fd, hf, F.kp, F.bindsN (ps := ["one"]) (fun _ _ _ _ _ _ us hl => match us, hl with | [_], _ => rfl), fnG_of (k := 1) (N := ["one", "found"]) (ps := ["one"]) (g := g_law_all_of) F S fun cdv A outer s H E W eW B => ?_⟩
  exact (dss_cons (sSet 1 hN (de_lst (aC (peZ (de_newX ini x_BadPlan (B.cal.room.mono (by decide) : Room 1 _) rfl m_BadPlan (peZ (eN 0)) (by decide) rfl rfl)) (aC (peZ (de_newX ini x_BadPlace (B.cal.room.mono (by decide) : Room 1 _) rfl m_BadPlace (peZ (eN 0)) (by decide) rfl rfl)) (aC (peZ (de_newX ini x_BadNumber (B.cal.room.mono (by decide) : Room 1 _) rfl m_BadNumber (peZ (eN 0)) (by decide) rfl rfl)) (aC (peZ (de_newX ini x_BadDraft (B.cal.room.mono (by decide) : Room 1 _) rfl m_BadDraft (peZ (eN 0)) (by decide) rfl rfl)) aN))))))
 (dss_cons (sExt 1 (peV (de_lst (aC (peZ (de_newX ini x_BadEnd (B.cal.room.mono (by decide) : Room 1 _) rfl m_BadEnd (peZ (eN 0)) (by decide) rfl rfl)) (aC (peZ (de_newX ini x_BadPick (B.cal.room.mono (by decide) : Room 1 _) rfl m_BadPick (peZ (eN 0)) (by decide) rfl rfl)) (aC (peZ (de_newX ini x_BadName (B.cal.room.mono (by decide) : Room 1 _) rfl m_BadName (peZ (eN 0)) (by decide) rfl rfl)) (aC (peZ (de_newX ini x_BadRow (B.cal.room.mono (by decide) : Room 1 _) rfl m_BadRow (peZ (eN 0)) (by decide) rfl rfl)) aN)))))))
 (dss_cons (sExt 1 (peV (de_lst (aC (peZ (de_newX ini x_BadThread (B.cal.room.mono (by decide) : Room 1 _) rfl m_BadThread (peZ (eN 0)) (by decide) rfl rfl)) (aC (peZ (de_newX ini x_BadBy (B.cal.room.mono (by decide) : Room 1 _) rfl m_BadBy (peZ (eN 0)) (by decide) rfl rfl)) (aC (peZ (de_newX ini x_BadPairs (B.cal.room.mono (by decide) : Room 1 _) rfl m_BadPairs (peZ (eN 0)) (by decide) rfl rfl)) (aC (peZ (de_newX ini x_TooMany (B.cal.room.mono (by decide) : Room 1 _) rfl m_TooMany (peZ (eN 0)) (by decide) rfl rfl)) aN)))))))
 (dss_cons (sExt 1 (peV (de_lst (aC (peZ (de_newX ini x_BadSort (B.cal.room.mono (by decide) : Room 1 _) rfl m_BadSort (peZ (eN 0)) (by decide) rfl rfl)) (aC (peZ (de_newX ini x_BadSide (B.cal.room.mono (by decide) : Room 1 _) rfl m_BadSide (peZ (eN 0)) (by decide) rfl rfl)) (aC (peZ (de_newX ini x_BadPicture (B.cal.room.mono (by decide) : Room 1 _) rfl m_BadPicture (peZ (eN 0)) (by decide) rfl rfl)) (aC (peZ (de_newX ini x_NotNow (B.cal.room.mono (by decide) : Room 1 _) rfl m_NotNow (peZ (eN 0)) (by decide) rfl rfl)) aN)))))))
 (dss_cons (sExt 1 (peV (de_lst (aC (peZ (de_newX ini x_BadPicks (B.cal.room.mono (by decide) : Room 1 _) rfl m_BadPicks (peZ (eN 0)) (by decide) rfl rfl)) (aC (peZ (de_newX ini x_NotWhole (B.cal.room.mono (by decide) : Room 1 _) rfl m_NotWhole (peZ (eN 0)) (by decide) rfl rfl)) (aC (peZ (de_newX ini x_NothingToUndo (B.cal.room.mono (by decide) : Room 1 _) rfl m_NothingToUndo (peZ (eN 0)) (by decide) rfl rfl)) (aC (peZ (de_newX ini x_NothingToRedo (B.cal.room.mono (by decide) : Room 1 _) rfl m_NothingToRedo (peZ (eN 0)) (by decide) rfl rfl)) aN)))))))
 (dss_cons (sExt 1 (peV (de_lst (aC (peZ (de_newX ini x_BadText (B.cal.room.mono (by decide) : Room 1 _) rfl m_BadText (peZ (eN 0)) (by decide) rfl rfl)) (aC (peZ (de_newX ini x_BadJournal (B.cal.room.mono (by decide) : Room 1 _) rfl m_BadJournal (peZ (eN 0)) (by decide) rfl rfl)) (aC (peZ (de_newX ini x_BadLine (B.cal.room.mono (by decide) : Room 1 _) rfl m_BadLine (peZ (eN 0)) (by decide) rfl rfl)) aN))))))
 (dss_cons (sRetV 1)
 dss_nil)))))))
def g_law_kinds_of : DS := (gSeq (gSet 1 (gLst (gConsA (frz (gIsiX xcs (isa "BadPlan") (gN 0))) (gConsA (frz (gIsiX xcs (isa "BadPlace") (gN 0))) gNilA))))
 (gSeq (gExt 1 (frz (gLst (gConsA (frz (gIsiX xcs (isa "BadNumber") (gN 0))) (gConsA (frz (gIsiX xcs (isa "BadDraft") (gN 0))) gNilA)))))
 (gSeq (gExt 1 (frz (gLst (gConsA (frz (gIsiX xcs (isa "BadEnd") (gN 0))) (gConsA (frz (gIsiX xcs (isa "BadPick") (gN 0))) gNilA)))))
 (gSeq (gExt 1 (frz (gLst (gConsA (frz (gIsiX xcs (isa "BadName") (gN 0))) (gConsA (frz (gIsiX xcs (isa "BadRow") (gN 0))) gNilA)))))
 (gSeq (gExt 1 (frz (gLst (gConsA (frz (gIsiX xcs (isa "BadThread") (gN 0))) (gConsA (frz (gIsiX xcs (isa "BadBy") (gN 0))) gNilA)))))
 (gSeq (gExt 1 (frz (gLst (gConsA (frz (gIsiX xcs (isa "BadPairs") (gN 0))) (gConsA (frz (gIsiX xcs (isa "TooMany") (gN 0))) gNilA)))))
 (gSeq (gExt 1 (frz (gLst (gConsA (frz (gIsiX xcs (isa "BadSort") (gN 0))) (gConsA (frz (gIsiX xcs (isa "BadSide") (gN 0))) gNilA)))))
 (gSeq (gExt 1 (frz (gLst (gConsA (frz (gIsiX xcs (isa "BadPicture") (gN 0))) (gConsA (frz (gIsiX xcs (isa "NotNow") (gN 0))) gNilA)))))
 (gSeq (gExt 1 (frz (gLst (gConsA (frz (gIsiX xcs (isa "BadPicks") (gN 0))) (gConsA (frz (gIsiX xcs (isa "NotWhole") (gN 0))) gNilA)))))
 (gSeq (gExt 1 (frz (gLst (gConsA (frz (gIsiX xcs (isa "NothingToUndo") (gN 0))) (gConsA (frz (gIsiX xcs (isa "NothingToRedo") (gN 0))) gNilA)))))
 (gSeq (gExt 1 (frz (gLst (gConsA (frz (gIsiX xcs (isa "BadText") (gN 0))) (gConsA (frz (gIsiX xcs (isa "BadJournal") (gN 0))) gNilA)))))
 (gSeq (gExt 1 (frz (gLst (gConsA (frz (gIsiX xcs (isa "BadLine") (gN 0))) gNilA))))
 (gSeq (gRetV 1)
 gNil)))))))))))))
def m__law_kinds_of : Fm := fm (List.length (["error", "found"] : List Str)) g_law_kinds_of
theorem ok__law_kinds_of {f : Addr} {fd : FuncData} (F : FunD K "_law_kinds_of" "_law_kinds_of" (defArgs (top 31)) (defBody (top 31)) (defScope (top 31)) [] [] f fd) (hf : mg "_law_kinds_of" = some (.ref f)) (nb : ∀ x : Str, x ∈ nbs → mg x = none) (xis : ∀ c : Str, c ∈ xcs → XisC K (He.ga K c)) (is_BadBy : ∀ c : Str, c ∈ xcs → PySem.W.kitOne K (.ref (He.ga K c)) (.ref (He.ga K "BadBy")) = some (isa "BadBy" c)) (m_BadBy : mg "BadBy" = some (.ref (He.ga K "BadBy"))) (is_BadDraft : ∀ c : Str, c ∈ xcs → PySem.W.kitOne K (.ref (He.ga K c)) (.ref (He.ga K "BadDraft")) = some (isa "BadDraft" c)) (m_BadDraft : mg "BadDraft" = some (.ref (He.ga K "BadDraft"))) (is_BadEnd : ∀ c : Str, c ∈ xcs → PySem.W.kitOne K (.ref (He.ga K c)) (.ref (He.ga K "BadEnd")) = some (isa "BadEnd" c)) (m_BadEnd : mg "BadEnd" = some (.ref (He.ga K "BadEnd"))) (is_BadJournal : ∀ c : Str, c ∈ xcs → PySem.W.kitOne K (.ref (He.ga K c)) (.ref (He.ga K "BadJournal")) = some (isa "BadJournal" c)) (m_BadJournal : mg "BadJournal" = some (.ref (He.ga K "BadJournal"))) (is_BadLine : ∀ c : Str, c ∈ xcs → PySem.W.kitOne K (.ref (He.ga K c)) (.ref (He.ga K "BadLine")) = some (isa "BadLine" c)) (m_BadLine : mg "BadLine" = some (.ref (He.ga K "BadLine"))) (is_BadName : ∀ c : Str, c ∈ xcs → PySem.W.kitOne K (.ref (He.ga K c)) (.ref (He.ga K "BadName")) = some (isa "BadName" c)) (m_BadName : mg "BadName" = some (.ref (He.ga K "BadName"))) (is_BadNumber : ∀ c : Str, c ∈ xcs → PySem.W.kitOne K (.ref (He.ga K c)) (.ref (He.ga K "BadNumber")) = some (isa "BadNumber" c)) (m_BadNumber : mg "BadNumber" = some (.ref (He.ga K "BadNumber"))) (is_BadPairs : ∀ c : Str, c ∈ xcs → PySem.W.kitOne K (.ref (He.ga K c)) (.ref (He.ga K "BadPairs")) = some (isa "BadPairs" c)) (m_BadPairs : mg "BadPairs" = some (.ref (He.ga K "BadPairs"))) (is_BadPick : ∀ c : Str, c ∈ xcs → PySem.W.kitOne K (.ref (He.ga K c)) (.ref (He.ga K "BadPick")) = some (isa "BadPick" c)) (m_BadPick : mg "BadPick" = some (.ref (He.ga K "BadPick"))) (is_BadPicks : ∀ c : Str, c ∈ xcs → PySem.W.kitOne K (.ref (He.ga K c)) (.ref (He.ga K "BadPicks")) = some (isa "BadPicks" c)) (m_BadPicks : mg "BadPicks" = some (.ref (He.ga K "BadPicks"))) (is_BadPicture : ∀ c : Str, c ∈ xcs → PySem.W.kitOne K (.ref (He.ga K c)) (.ref (He.ga K "BadPicture")) = some (isa "BadPicture" c)) (m_BadPicture : mg "BadPicture" = some (.ref (He.ga K "BadPicture"))) (is_BadPlace : ∀ c : Str, c ∈ xcs → PySem.W.kitOne K (.ref (He.ga K c)) (.ref (He.ga K "BadPlace")) = some (isa "BadPlace" c)) (m_BadPlace : mg "BadPlace" = some (.ref (He.ga K "BadPlace"))) (is_BadPlan : ∀ c : Str, c ∈ xcs → PySem.W.kitOne K (.ref (He.ga K c)) (.ref (He.ga K "BadPlan")) = some (isa "BadPlan" c)) (m_BadPlan : mg "BadPlan" = some (.ref (He.ga K "BadPlan"))) (is_BadRow : ∀ c : Str, c ∈ xcs → PySem.W.kitOne K (.ref (He.ga K c)) (.ref (He.ga K "BadRow")) = some (isa "BadRow" c)) (m_BadRow : mg "BadRow" = some (.ref (He.ga K "BadRow"))) (is_BadSide : ∀ c : Str, c ∈ xcs → PySem.W.kitOne K (.ref (He.ga K c)) (.ref (He.ga K "BadSide")) = some (isa "BadSide" c)) (m_BadSide : mg "BadSide" = some (.ref (He.ga K "BadSide"))) (is_BadSort : ∀ c : Str, c ∈ xcs → PySem.W.kitOne K (.ref (He.ga K c)) (.ref (He.ga K "BadSort")) = some (isa "BadSort" c)) (m_BadSort : mg "BadSort" = some (.ref (He.ga K "BadSort"))) (is_BadText : ∀ c : Str, c ∈ xcs → PySem.W.kitOne K (.ref (He.ga K c)) (.ref (He.ga K "BadText")) = some (isa "BadText" c)) (m_BadText : mg "BadText" = some (.ref (He.ga K "BadText"))) (is_BadThread : ∀ c : Str, c ∈ xcs → PySem.W.kitOne K (.ref (He.ga K c)) (.ref (He.ga K "BadThread")) = some (isa "BadThread" c)) (m_BadThread : mg "BadThread" = some (.ref (He.ga K "BadThread"))) (is_NotNow : ∀ c : Str, c ∈ xcs → PySem.W.kitOne K (.ref (He.ga K c)) (.ref (He.ga K "NotNow")) = some (isa "NotNow" c)) (m_NotNow : mg "NotNow" = some (.ref (He.ga K "NotNow"))) (is_NotWhole : ∀ c : Str, c ∈ xcs → PySem.W.kitOne K (.ref (He.ga K c)) (.ref (He.ga K "NotWhole")) = some (isa "NotWhole" c)) (m_NotWhole : mg "NotWhole" = some (.ref (He.ga K "NotWhole"))) (is_NothingToRedo : ∀ c : Str, c ∈ xcs → PySem.W.kitOne K (.ref (He.ga K c)) (.ref (He.ga K "NothingToRedo")) = some (isa "NothingToRedo" c)) (m_NothingToRedo : mg "NothingToRedo" = some (.ref (He.ga K "NothingToRedo"))) (is_NothingToUndo : ∀ c : Str, c ∈ xcs → PySem.W.kitOne K (.ref (He.ga K c)) (.ref (He.ga K "NothingToUndo")) = some (isa "NothingToUndo" c)) (m_NothingToUndo : mg "NothingToUndo" = some (.ref (He.ga K "NothingToUndo"))) (is_TooMany : ∀ c : Str, c ∈ xcs → PySem.W.kitOne K (.ref (He.ga K c)) (.ref (He.ga K "TooMany")) = some (isa "TooMany" c)) (m_TooMany : mg "TooMany" = some (.ref (He.ga K "TooMany"))) : Fn P w K mg base 1 "_law_kinds_of" ["error"] m__law_kinds_of := by
  have S : FnScope ["error", "found"] ["error"] (defScope (top 31)) := ⟨rfl, rfl, rfl, by decide +kernel, rfl, by decide +kernel, by decide +kernel⟩
  have hN := S.nd
  refine ⟨f, fd, hf, F.kp, F.bindsN (ps := ["error"]) (fun _ _ _ _ _ _ us hl => match us, hl with | [_], _ => rfl), fnG_of (k := 0) (N := ["error", "found"]) (ps := ["error"]) (g := g_law_kinds_of) F S fun cdv A outer s H E W eW B => ?_⟩
  exact (dss_cons (sSet 1 hN (de_lst (aC (peZ (isx "BadPlan" xis is_BadPlan (vN 0) (nb "isinstance" (by decide)) m_BadPlan)) (aC (peZ (isx "BadPlace" xis is_BadPlace (vN 0) (nb "isinstance" (by decide)) m_BadPlace)) aN))))
 (dss_cons (sExt 1 (peV (de_lst (aC (peZ (isx "BadNumber" xis is_BadNumber (vN 0) (nb "isinstance" (by decide)) m_BadNumber)) (aC (peZ (isx "BadDraft" xis is_BadDraft (vN 0) (nb "isinstance" (by decide)) m_BadDraft)) aN)))))
 (dss_cons (sExt 1 (peV (de_lst (aC (peZ (isx "BadEnd" xis is_BadEnd (vN 0) (nb "isinstance" (by decide)) m_BadEnd)) (aC (peZ (isx "BadPick" xis is_BadPick (vN 0) (nb "isinstance" (by decide)) m_BadPick)) aN)))))
 (dss_cons (sExt 1 (peV (de_lst (aC (peZ (isx "BadName" xis is_BadName (vN 0) (nb "isinstance" (by decide)) m_BadName)) (aC (peZ (isx "BadRow" xis is_BadRow (vN 0) (nb "isinstance" (by decide)) m_BadRow)) aN)))))
 (dss_cons (sExt 1 (peV (de_lst (aC (peZ (isx "BadThread" xis is_BadThread (vN 0) (nb "isinstance" (by decide)) m_BadThread)) (aC (peZ (isx "BadBy" xis is_BadBy (vN 0) (nb "isinstance" (by decide)) m_BadBy)) aN)))))
 (dss_cons (sExt 1 (peV (de_lst (aC (peZ (isx "BadPairs" xis is_BadPairs (vN 0) (nb "isinstance" (by decide)) m_BadPairs)) (aC (peZ (isx "TooMany" xis is_TooMany (vN 0) (nb "isinstance" (by decide)) m_TooMany)) aN)))))
 (dss_cons (sExt 1 (peV (de_lst (aC (peZ (isx "BadSort" xis is_BadSort (vN 0) (nb "isinstance" (by decide)) m_BadSort)) (aC (peZ (isx "BadSide" xis is_BadSide (vN 0) (nb "isinstance" (by decide)) m_BadSide)) aN)))))
 (dss_cons (sExt 1 (peV (de_lst (aC (peZ (isx "BadPicture" xis is_BadPicture (vN 0) (nb "isinstance" (by decide)) m_BadPicture)) (aC (peZ (isx "NotNow" xis is_NotNow (vN 0) (nb "isinstance" (by decide)) m_NotNow)) aN)))))
 (dss_cons (sExt 1 (peV (de_lst (aC (peZ (isx "BadPicks" xis is_BadPicks (vN 0) (nb "isinstance" (by decide)) m_BadPicks)) (aC (peZ (isx "NotWhole" xis is_NotWhole (vN 0) (nb "isinstance" (by decide)) m_NotWhole)) aN)))))
 (dss_cons (sExt 1 (peV (de_lst (aC (peZ (isx "NothingToUndo" xis is_NothingToUndo (vN 0) (nb "isinstance" (by decide)) m_NothingToUndo)) (aC (peZ (isx "NothingToRedo" xis is_NothingToRedo (vN 0) (nb "isinstance" (by decide)) m_NothingToRedo)) aN)))))
 (dss_cons (sExt 1 (peV (de_lst (aC (peZ (isx "BadText" xis is_BadText (vN 0) (nb "isinstance" (by decide)) m_BadText)) (aC (peZ (isx "BadJournal" xis is_BadJournal (vN 0) (nb "isinstance" (by decide)) m_BadJournal)) aN)))))
 (dss_cons (sExt 1 (peV (de_lst (aC (peZ (isx "BadLine" xis is_BadLine (vN 0) (nb "isinstance" (by decide)) m_BadLine)) aN))))
 (dss_cons (sRetV 1)
 dss_nil)))))))))))))
def g_law_right : DS := (gSeq (gSet 1 (gLst (gConsA (frz (gFn m__law_odd (gLen 1 (gConsA (frz (gV 0)) gNilA)))) (gConsA (frz (gTup (gConsA (frz (gFn m__law_odd (gLen 1 (gConsA (frz (gV 0)) gNilA)))) (gConsA (frz (gLst (gConsA (frz (gFn m__law_odd (gLen 1 (gConsA (frz (gV 0)) gNilA)))) gNilA))) gNilA)))) (gConsA (frz (gDisp (((frz (gC (.str "a"))), (frz (gFn m__law_odd (gLen 1 (gConsA (frz (gV 0)) gNilA))))) :: []))) gNilA)))))
 (gSeq (gFor (gI asL (gV 1)) (fName 2) (gSeq (gSet 4 (gFn m__law_all_of (gLen 1 (gConsA (frz (gV 2)) gNilA))))
 (gSeq (gIfS (gNotT (gTest truD (frz (gCall allD (gConsA (frz (gLc (gI asL (gV 4)) [6] (fName 6) gYes (frz (gAndL (gBin eqD2 (frz (gValue xcs (gN 6))) (gN 2)) [(gIsiX xcs isaT (gN 6))])))) gNilA))))) (gSeq (gRet (gC (.bl false)))
 gNil) gNil)
 (gSeq (gFor (gEnum (gConsA (frz (gV 4)) gNilA)) (fTup 2 (fCons (fName 5) (fCons (fName 6) fNil))) (gSeq (gIfS (gOrs (gTest asB (frz (gBin neD (frz (gFn m__law_kinds_of (gLen 1 (gConsA (frz (gV 6)) gNilA)))) (frz (gLc (gRng1 (gConsA (frz (gCall lenD (gConsA (gN 4) gNilA))) gNilA)) [7] (fName 7) gYes (frz (gBin eqD2 (gN 7) (gN 5)))))))) [(gNotT (gTest truD (frz (gIsiX xcs (isa "WeaveError") (gN 6)))))]) (gSeq (gRet (gC (.bl false)))
 gNil) gNil)
 gNil))
 gNil))))
 (gSeq (gSet 3 (gLc (gI asL (gFn m__law_all_of (gLen 1 (gConsA (frz (gBin ixD (gN 1) (frz (gC (.int 0))))) gNilA)))) [6] (fName 6) gYes (frz (gValue xcs (gN 6)))))
 (gSeq (gRet (gAndL (gBin eqD2 (frz (gCall reprQ (gConsA (gN 3) gNilA))) (frz (gCall reprQ (gConsA (frz (gBin mulD (frz (gLst (gConsA (frz (gBin ixD (gN 1) (frz (gC (.int 0))))) gNilA))) (frz (gCall lenD (gConsA (gN 3) gNilA))))) gNilA)))) [(gBin eqD2 (frz (gCall reprQ (gConsA (frz (gValue xcs (frz (gNewX "WeaveError" (frz (gBin ixD (gN 1) (frz (gC (.int 0))))))))) gNilA))) (frz (gCall reprQ (gConsA (frz (gBin ixD (gN 1) (frz (gC (.int 0))))) gNilA))))]))
 gNil))))
def m__law_right : Fm := fm (List.length (["pot", "some", "one", "kept", "errors", "at", "error", "k"] : List Str)) g_law_right
theorem ok__law_right {f : Addr} {fd : FuncData} (F : FunD K "_law_right" "_law_right" (defArgs (top 32)) (defBody (top 32)) (defScope (top 32)) [] [] f fd) (hf : mg "_law_right" = some (.ref f)) (G__law_odd : Fn P w K mg base 3 "_law_odd" ["pot"] m__law_odd) (G__law_all_of : Fn P w K mg base 2 "_law_all_of" ["one"] m__law_all_of) (G__law_kinds_of : Fn P w K mg base 1 "_law_kinds_of" ["error"] m__law_kinds_of) (nb : ∀ x : Str, x ∈ nbs → mg x = none) (ini : XIni P K D fI bI) (x_WeaveError : XCls K (He.ga K "WeaveError") D fI) (m_WeaveError : mg "WeaveError" = some (.ref (He.ga K "WeaveError"))) (xval : ∀ c : Str, c ∈ xcs → XfC K (He.ga K c) ∧ PySem.W.findIn K (.ref (He.ga K c)) "value" = some none) (xis : ∀ c : Str, c ∈ xcs → XisC K (He.ga K c)) (is_WeaveError : ∀ c : Str, c ∈ xcs → PySem.W.kitOne K (.ref (He.ga K c)) (.ref (He.ga K "WeaveError")) = some (isa "WeaveError" c)) (isT_ValueError : ∀ c : Str, c ∈ xcs → PySem.W.kitOne K (.ref (He.ga K c)) (.type "ValueError") = some (isaT c)) (sys : SysD K) : Fn P w K mg base 4 "_law_right" ["pot"] m__law_right := by
  have S : FnScope ["pot", "some", "one", "kept", "errors", "at", "error", "k"] ["pot"] (defScope (top 32)) := ⟨rfl, rfl, rfl, by decide +kernel, rfl, by decide +kernel, by decide +kernel⟩
  have hN := S.nd
  refine ⟨f, fd, hf, F.kp, F.bindsN (ps := ["pot"]) (fun _ _ _ _ _ _ us hl => match us, hl with | [_], _ => rfl), fnG_of (k := 3) (N := ["pot", "some", "one", "kept", "errors", "at", "error", "k"]) (ps := ["pot"]) (g := g_law_right) F S fun cdv A outer s H E W eW B => ?_⟩
  exact (dss_cons (sSet 1 hN (de_lst (aC (peZ (cF G__law_odd B.cal (aC (peZ (eN 0)) aN))) (aC (peZ (de_tup (aC (peZ (cF G__law_odd B.cal (aC (peZ (eN 0)) aN))) (aC (peZ (de_lst (aC (peZ (cF G__law_odd B.cal (aC (peZ (eN 0)) aN))) aN))) aN)))) (aC (peZ (dsp (.cons (peZ de_str) (peZ (cF G__law_odd B.cal (aC (peZ (eN 0)) aN))) .nil))) aN)))))
 (dss_cons (sFor B (di_list (eN 1)) (gNm 2 hN) tg_name (dss_cons (sSet 4 hN (cF G__law_all_of B.cal (aC (peZ (eN 2)) aN)))
 (dss_cons (ds_if (dt_not (tru (peV (cB (cr_allD B.cal.calm) (nb "all" (by decide)) (bC (peV (lc [("error", 6)] rfl hN (di_list (eN 4)) tg_name (fun s3 H3 C3 cl3 fp3 => (gNm 6 hN)) (fun s3 H3 C3 cl3 fp3 => dts_nil) (fun s3 H3 C3 cl3 fp3 => (peZ (de_ands (cmp (op_eqD2 (B.cal.blk s3 H3 _ _ fp3).hu) (peV (de_value (cs := xcs) xval (vN 6) rfl)) (vN 2)) (.cons (isxT (T := "ValueError") xis isT_ValueError (vN 6) (nb "isinstance" (by decide)) (nb "ValueError" (by decide))) .nil)))))) bN))))) (dss_cons (ds_ret de_bl)
 dss_nil) dss_nil)
 (dss_cons (sFor B (enu (nb "enumerate" (by decide)) (aC (peZ (eN 4)) aN)) (pg_tup rfl (pgs_cons (gNm 5 hN) (pgs_cons (gNm 6 hN) pgs_nil))) (tg_tup (tgs_cons tg_name (tgs_cons tg_name tgs_nil))) (dss_cons (ds_if (dw_ors (tst (op_neDD B.cal.hu) (peV (cF G__law_kinds_of B.cal (aC (peZ (eN 6)) aN))) (peV (lc [("k", 7)] rfl hN (rn1 (nb "range" (by decide)) (bC (peV (cB cr_len (nb "len" (by decide)) (bC (vN 4) bN))) bN)) tg_name (fun s2 H2 C2 cl2 fp2 => (gNm 7 hN)) (fun s2 H2 C2 cl2 fp2 => dts_nil) (fun s2 H2 C2 cl2 fp2 => (peZ (cmp (op_eqD2 (B.cal.blk s2 H2 _ _ fp2).hu) (vN 7) (vN 5))))))) (.cons (dt_not (tru (peV (isx "WeaveError" xis is_WeaveError (vN 6) (nb "isinstance" (by decide)) m_WeaveError)))) .nil)).pt (dss_cons (ds_ret de_bl)
 dss_nil) dss_nil)
 dss_nil))
 dss_nil))))
 (dss_cons (sSetLc 3 [("error", 6)] rfl hN (di_list (cF G__law_all_of B.cal (aC (peZ (sub (vN 1) (peV de_int))) aN))) tg_name (fun s1 H1 C1 cl1 fp1 => (gNm 6 hN)) (fun s1 H1 C1 cl1 fp1 => dts_nil) (fun s1 H1 C1 cl1 fp1 => (peZ (de_value (cs := xcs) xval (vN 6) rfl))))
 (dss_cons (ds_ret (de_ands (cmp (op_eqD2 B.cal.hu) (peV (cB (cr_reprQ sys B.cal.gds B.cal.hu) (nb "repr" (by decide)) (bC (vN 3) bN))) (peV (cB (cr_reprQ sys B.cal.gds B.cal.hu) (nb "repr" (by decide)) (bC (peV (de_bin op_mulD (peV (de_lst (aC (peZ (sub (vN 1) (peV de_int))) aN))) (peV (cB cr_len (nb "len" (by decide)) (bC (vN 3) bN))))) bN)))) (.cons (cmp (op_eqD2 B.cal.hu) (peV (cB (cr_reprQ sys B.cal.gds B.cal.hu) (nb "repr" (by decide)) (bC (peV (de_value (cs := xcs) xval (peV (de_newX ini x_WeaveError (B.cal.room.mono (by decide) : Room 1 _) rfl m_WeaveError (peZ (sub (vN 1) (peV de_int))) (by decide) rfl rfl)) rfl)) bN))) (peV (cB (cr_reprQ sys B.cal.gds B.cal.hu) (nb "repr" (by decide)) (bC (peV (sub (vN 1) (peV de_int))) bN)))) .nil)))
 dss_nil))))
def g_law_pot : DS := (gSeq (gSet 2 (gIf (gTest asB (frz (gBin ltD (gN 1) (frz (gCall lenD (gConsA (gN 0) gNilA)))))) (gBin ixD (gN 0) (gN 1)) (gBin addD (frz (gBin mulD (frz (gC (.int 31))) (gN 1))) (frz (gC (.int 17))))))
 (gSeq (gSet 3 (gBin mulD (frz (gBin modD (frz (gCall intD (gConsA (frz (gCall absD (gConsA (gN 2) gNilA))) gNilA))) (frz (gBin powD (frz (gBin powD (frz (gC (.int 10))) (frz (gC (.int 60))))) (frz (gC (.int 5))))))) (frz (gCall intD (gConsA (frz (gBin geD (frz (gCall absD (gConsA (gN 2) gNilA))) (frz (gBin powD (frz (gC (.int 10))) (frz (gC (.int 18))))))) gNilA)))))
 (gSeq (gSet 4 (gBin addD (frz (gBin addD (frz (gBin mulD (frz (gBin modD (frz (gCall intD (gConsA (gN 2) gNilA))) (frz (gC (.int 2305843009213693951))))) (frz (gC (.int 71011))))) (frz (gBin mulD (frz (gBin mulD (frz (gC (.int 6389))) (gN 1))) (gN 1))))) (frz (gC (.int 73)))))
 (gSeq (gRet (gLst (gConsA (frz (gV 3)) (gConsA (frz (gBin modD (frz (gCall intD (gConsA (gN 4) gNilA))) (frz (gC (.int 2305843009213693921))))) (gConsA (frz (gC (.int 0))) gNilA)))))
 gNil))))
def m__law_pot : Fm := fm (List.length (["script", "number", "cell", "own", "stirred"] : List Str)) g_law_pot
theorem ok__law_pot {f : Addr} {fd : FuncData} (F : FunD K "_law_pot" "_law_pot" (defArgs (top 26)) (defBody (top 26)) (defScope (top 26)) [] [] f fd) (hf : mg "_law_pot" = some (.ref f)) (nb : ∀ x : Str, x ∈ nbs → mg x = none) : Fn P w K mg base 1 "_law_pot" ["script", "number"] m__law_pot := by
  have S : FnScope ["script", "number", "cell", "own", "stirred"] ["script", "number"] (defScope (top 26)) := ⟨rfl, rfl, rfl, by decide +kernel, rfl, by decide +kernel, by decide +kernel⟩
  have hN := S.nd
  refine ⟨f, fd, hf, F.kp, F.bindsN (ps := ["script", "number"]) (fun _ _ _ _ _ _ us hl => match us, hl with | [_, _], _ => rfl), fnG_of (k := 0) (N := ["script", "number", "cell", "own", "stirred"]) (ps := ["script", "number"]) (g := g_law_pot) F S fun cdv A outer s H E W eW B => ?_⟩
  exact (dss_cons (sSet 2 hN (de_if (tst op_ltD (vN 1) (peV (cB cr_len (nb "len" (by decide)) (bC (vN 0) bN)))) (sub (vN 0) (vN 1)) (de_bin op_addD (peV (de_bin op_mulD (peV de_int) (vN 1))) (peV de_int))))
 (dss_cons (sSet 3 hN (de_bin op_mulD (peV (de_bin op_modD (peV (cT cr_int (nb "int" (by decide)) (bC (peV (cB cr_abs (nb "abs" (by decide)) (bC (vN 2) bN))) bN))) (peV (de_bin op_powD (peV (de_bin op_powD (peV de_int) (peV de_int))) (peV de_int))))) (peV (cT cr_int (nb "int" (by decide)) (bC (peV (cmp op_geD (peV (cB cr_abs (nb "abs" (by decide)) (bC (vN 2) bN))) (peV (de_bin op_powD (peV de_int) (peV de_int))))) bN)))))
 (dss_cons (sSet 4 hN (de_bin op_addD (peV (de_bin op_addD (peV (de_bin op_mulD (peV (de_bin op_modD (peV (cT cr_int (nb "int" (by decide)) (bC (vN 2) bN))) (peV de_int))) (peV de_int))) (peV (de_bin op_mulD (peV (de_bin op_mulD (peV de_int) (vN 1))) (vN 1))))) (peV de_int)))
 (dss_cons (ds_ret (de_lst (aC (peZ (eN 3)) (aC (peZ (de_bin op_modD (peV (cT cr_int (nb "int" (by decide)) (bC (vN 4) bN))) (peV de_int))) (aC (peZ de_int) aN)))))
 dss_nil))))
def glaw : DS := (gSeq (gRet (gCall allD (gConsA (frz (gLc (gRng1 (gConsA (frz (gCall max2D (gConsA (frz (gC (.int 1))) (gConsA (frz (gCall min2D (gConsA (frz (gC (.int 3))) (gConsA (frz (gCall lenD (gConsA (gN 0) gNilA))) gNilA)))) gNilA)))) gNilA)) [1] (fName 1) gYes (frz (gFn m__law_right (gLen 1 (gConsA (gCell (gFn m__law_pot (gLen 2 (gConsA (frz (gV 0)) (gConsA (frz (gV 1)) gNilA))))) gNilA)))))) gNilA)))
 gNil)
def m_law : Fm := fm (List.length (["script", "number"] : List Str)) glaw
theorem ok_law {f : Addr} {fd : FuncData} (F : FunD K "law" "law" (defArgs (top 33)) (defBody (top 33)) (defScope (top 33)) [] [] f fd) (hf : mg "law" = some (.ref f)) (G__law_right : Fn P w K mg base 4 "_law_right" ["pot"] m__law_right) (G__law_pot : Fn P w K mg base 1 "_law_pot" ["script", "number"] m__law_pot) (nb : ∀ x : Str, x ∈ nbs → mg x = none) : FnG P w K mg base 5 f fd ["script"] m_law := by
  have S : FnScope ["script", "number"] ["script"] (defScope (top 33)) := ⟨rfl, rfl, rfl, by decide +kernel, rfl, by decide +kernel, by decide +kernel⟩
  have hN := S.nd
  refine fnG_of (k := 4) (N := ["script", "number"]) (ps := ["script"]) (g := glaw) F S fun cdv A outer s H E W eW B => ?_
  exact (dss_cons (ds_ret (cB (cr_allD B.cal.calm) (nb "all" (by decide)) (bC (peV (lc [("number", 1)] rfl hN (rn1 (nb "range" (by decide)) (bC (peV (cB (cr_max2 B.cal.calm) (nb "max" (by decide)) (bC (peV de_int) (bC (peV (cB (cr_min2 B.cal.calm) (nb "min" (by decide)) (bC (peV de_int) (bC (peV (cB cr_len (nb "len" (by decide)) (bC (vN 0) bN))) bN)))) bN)))) bN)) tg_name (fun s1 H1 C1 cl1 fp1 => (gNm 1 hN)) (fun s1 H1 C1 cl1 fp1 => dts_nil) (fun s1 H1 C1 cl1 fp1 => (peZ (cF G__law_right (B.cal.blk s1 H1 _ _ fp1) (aC (cC G__law_pot (B.cal.blk s1 H1 _ _ fp1) (aC (peZ (eN 0)) (aC (peZ (eN 1)) aN))) aN)))))) bN)))
 dss_nil)
end
end K00
end

section
set_option maxHeartbeats 4000000
-- Q1
/-! P1: the law's pot -/
namespace Dn
open PySem PySem.Spec L2
/-- the pot at the cell k -/
def Pot (S : List OD) (k : Nat) (a b c : Int) : Prop := S[k]? = some (.lst [.int a, .int b, .int c])
theorem Pot.lt {S : List OD} {k : Nat} {a b c : Int} (h : Pot S k a b c) : k < S.length := (List.getElem?_eq_some_iff.mp h).1
/-- one draw, as numbers -/
def drawA (a b c u : Int) : Int × Int × Int := if 0 < a then (a % u, a / u, c) else
  let c1 := c + 1
  let p := ([2147483647, 2147483629, 2147483587, 2147483579, 2147483563] : List Int).getD (c1 % 5).toNat 0
  let s := (b + 100151 * c1 * c1 + 47) ^ 3 % p
  let s2 := s * (s % 10037 + 89 * c1) % 2305843009213693907
  ((s2 / 127) % u, a, c1)
theorem take_pos {S : List OD} {k : Nat} {a b c u : Int} (h : Pot S k a b c) (ha : 0 < a) (hu : 0 < u) (hu2 : u < 1073741824) :
    K00.m__law_take [.cell k, .int u] S = .ok (.sh (.int (a % u))) (S.set k (.lst [.int (a / u), .int b, .int c])) := by
  have hk := h.lt
  unfold Pot at h
  have hu3 : 0 < u := hu
  simp [K00.m__law_take, K00.g_law_take, fm, outF, gSeq, gIfS, gTest, frz, gBin, gCix, gN, gC, Out.bind, Out.bindS, RV.fz, cellAt, h, opt, ixD, atI, ixN, gtD, bo, asB, gSet, put, gCall, gConsA, gNilA, intD, modD, gSetAt, fdivD, gRetV, ha, hu3, hu2]
theorem five (c : Int) (hc : 0 ≤ c) : ∃ p : Int, atI ([.int 2147483647, .int 2147483629, .int 2147483587, .int 2147483579, .int 2147483563] : List D) (c % 5) = some (.int p) ∧ 0 < p ∧ p < 2147483648 ∧ p = ([2147483647, 2147483629, 2147483587, 2147483579, 2147483563] : List Int).getD (c % 5).toNat 0 := by
  have h : c % 5 = 0 ∨ c % 5 = 1 ∨ c % 5 = 2 ∨ c % 5 = 3 ∨ c % 5 = 4 := by omega
  rcases h with h | h | h | h | h <;> rw [h] <;> exact ⟨_, rfl, by decide, by decide, rfl⟩
theorem take_zero {S : List OD} {k : Nat} {a b c u : Int} (h : Pot S k a b c) (ha : ¬ 0 < a) (hb : 0 ≤ b) (hb2 : b < 2 ^ 61) (hc : 0 ≤ c) (hc2 : c < 1000000) (hu : 0 < u) :
    K00.m__law_take [.cell k, .int u] S = .ok (.sh (.int (drawA a b c u).1)) (S.set k (.lst [.int a, .int b, .int (c + 1)])) := by
  have hk := h.lt
  unfold Pot at h
  obtain ⟨p, hp1, hp2, hp3, hp4⟩ := five (c + 1) (by omega)
  have hx0 : 0 ≤ b + 100151 * (c + 1) * (c + 1) + 47 := by
    have : 0 ≤ (c + 1) * (c + 1) := Int.mul_nonneg (by omega) (by omega)
    rw [Int.mul_assoc]; omega
  have hx1 : b + 100151 * (c + 1) * (c + 1) + 47 < 2 ^ 64 := by
    have : (c + 1) * (c + 1) ≤ 1000000 * 1000000 := Int.mul_le_mul (by omega) (by omega) (by omega) (by omega)
    rw [Int.mul_assoc]; omega
  have hpow : (Builtin.Int.intBits (b + 100151 * (c + 1) * (c + 1) + 47) : Int) * 3 ≤ 2 ^ 27 := by
    have := intBits_le_64 (k := b + 100151 * (c + 1) * (c + 1) + 47) (by omega) hx1
    omega
  have hm1 : 100151 < (2 : Int) ^ 64 := by decide
  generalize hX : b + 100151 * (c + 1) * (c + 1) + 47 = X at *
  have hs0 : 0 ≤ X ^ 3 % p := Int.emod_nonneg _ (by omega)
  have hs1 : X ^ 3 % p < p := Int.emod_lt_of_pos _ hp2
  have hd : drawA a b c u = ((X ^ 3 % p * (X ^ 3 % p % 10037 + 89 * (c + 1)) % 2305843009213693907 / 127) % u, a, c + 1) := by
    unfold drawA
    rw [if_neg ha]
    simp only [hX, ← hp4]
  rw [hd]
  have hz : sizeLine = 16777216 := rfl
  have e0 : ∀ x y z : D, atI [x, y, z] 0 = some x := fun _ _ _ => rfl
  have e1 : ∀ x y z : D, atI [x, y, z] 1 = some y := fun _ _ _ => rfl
  have e2 : ∀ x y z : D, atI [x, y, z] 2 = some z := fun _ _ _ => rfl
  have i2 : ixN 3 2 = some 2 := rfl
  have hset : ∀ x : OD, (S.set k x)[k]? = some x := fun x => List.getElem?_set_self hk
  have hc3 : -18446744073709551616 < c + 1 ∧ c + 1 < 18446744073709551616 := ⟨by omega, by omega⟩
  have hs2 : -18446744073709551616 < X ^ 3 % p ∧ X ^ 3 % p < 18446744073709551616 := ⟨by omega, by omega⟩
  have hpow2 : (Builtin.Int.intBits X : Int) * 3 ≤ 134217728 := by omega
  simp [K00.m__law_take, K00.g_law_take, fm, outF, gSeq, gIfS, gTest, frz, gBin, gCix, gN, gC, Out.bind, Out.bindS, RV.fz, cellAt, h, opt, gtD, bo, asB, gSet, put, gCall, gConsA, gNilA, intD, ha, Dn.gNil, OD.fz, gSetAt, addD, mulD, modD, powD, fdivD, gLst, gRet, ixD, e0, e1, e2, i2, hset, hp1, hz, hX, hpow2, hp2, hc3.1, hc3.2, hs2.1, hs2.2, hu]
/-- what a draw leaves of the pot -/
theorem take_any {S : List OD} {k : Nat} {a b c u : Int} (h : Pot S k a b c) (ha : 0 ≤ a) (hb : 0 ≤ b) (hb2 : b < 2 ^ 61) (hc : 0 ≤ c) (hc2 : c < 1000000) (hu : 0 < u) (hu2 : u < 1073741824) :
    ∃ (r a' c' : Int) (S' : List OD), K00.m__law_take [.cell k, .int u] S = .ok (.sh (.int r)) S' ∧ 0 ≤ r ∧ r < u ∧ Pot S' k a' b c' ∧ 0 ≤ a' ∧ 0 ≤ c' ∧ c' ≤ c + 1 ∧ S'.length = S.length := by
  by_cases h0 : 0 < a
  · exact ⟨_, _, _, _, take_pos h h0 hu hu2, Int.emod_nonneg _ (by omega), Int.emod_lt_of_pos _ hu, List.getElem?_set_self h.lt, Int.ediv_nonneg ha (by omega), hc, by omega, by simp⟩
  · refine ⟨_, _, _, _, take_zero h h0 hb hb2 hc hc2 hu, ?_, ?_, List.getElem?_set_self h.lt, ha, by omega, by omega, by simp⟩
    · unfold drawA
      rw [if_neg h0]
      exact Int.emod_nonneg _ (by omega)
    · unfold drawA
      rw [if_neg h0]
      exact Int.emod_lt_of_pos _ hu
end Dn
end

section
set_option maxHeartbeats 4000000
-- Q2
/-! P2: comprehensions and loops as plain laws; the pot by a bound on its draws -/
namespace Dn
open PySem PySem.Spec L2
theorem keepE_wipe (old : List (Option RV)) : ∀ (vs : List Nat) (env : List (Option RV)), keepE old env vs = keepE old (wipeE env vs) vs := fun vs env => by
  have key : ∀ (vs ws : List Nat) (e1 e2 : List (Option RV)), e1.length = e2.length → (∀ i, i ∉ vs → e1[i]? = e2[i]?) → keepE old e1 vs = keepE old e2 vs := by
    intro vs
    induction vs with
    | nil =>
      intro _ e1 e2 _ h
      exact List.ext_getElem? fun i => h i (by simp)
    | cons v vs ih =>
      intro ws e1 e2 hl h
      rw [keepE, keepE]
      apply List.ext_getElem?
      intro i
      by_cases hv : v = i
      · subst hv
        by_cases hh : v < e1.length
        · rw [List.getElem?_set_self (by rw [keepE_length]; exact hh), List.getElem?_set_self (by rw [keepE_length, ← hl]; exact hh)]
        · rw [List.getElem?_eq_none (by rw [List.length_set, keepE_length]; omega), List.getElem?_eq_none (by rw [List.length_set, keepE_length, ← hl]; omega)]
      · rw [List.getElem?_set_ne hv, List.getElem?_set_ne hv]
        by_cases hi : i ∈ vs
        · have inn : ∀ (ws : List Nat) (e : List (Option RV)), i ∈ ws → (keepE old e ws)[i]? = if i < e.length then some (match old[i]? with
              | some (some (.sh d)) => some (.sh d)
              | _ => none) else none := by
            intro ws
            induction ws with
            | nil => intro e z; cases z
            | cons w ws ih2 =>
              intro e z
              rw [keepE]
              by_cases hw : w = i
              · subst hw
                by_cases hh : w < e.length
                · rw [List.getElem?_set_self (by rw [keepE_length]; exact hh), if_pos hh]
                  all_goals rfl
                · rw [List.getElem?_eq_none (by rw [List.length_set, keepE_length]; omega), if_neg hh]
              · rw [List.getElem?_set_ne hw]
                exact ih2 e ((List.mem_cons.mp z).resolve_left (Ne.symm hw))
          rw [inn vs e1 hi, inn vs e2 hi, hl]
        · have out : ∀ (ws : List Nat) (e : List (Option RV)), i ∉ ws → (keepE old e ws)[i]? = e[i]? := by
            intro ws
            induction ws with
            | nil => intro e _; rfl
            | cons w ws ih2 =>
              intro e z
              rw [keepE, List.getElem?_set_ne (fun q => z (by simp [q]))]
              exact ih2 e fun q => z (by simp [q])
          rw [out vs e1 hi, out vs e2 hi]
          exact h i (by simp [Ne.symm hv, hi])
  refine key vs vs env (wipeE env vs) (wipeE_length env vs).symm fun i hi => ?_
  have out : ∀ (ws : List Nat), i ∉ ws → (wipeE env ws)[i]? = env[i]? := by
    intro ws
    induction ws with
    | nil => intro _; rfl
    | cons w ws ih2 =>
      intro z
      rw [wipeE, List.getElem?_set_ne (fun q => z (by simp [q]))]
      exact ih2 fun q => z (by simp [q])
  exact (out vs hi).symm
/-- two lists, member by member -/
inductive All2 (Q : D → D → Prop) : List D → List D → Prop
  | nil : All2 Q [] []
  | cons {d x : D} {ds xs : List D} : Q d x → All2 Q ds xs → All2 Q (d :: ds) (x :: xs)
theorem All2.length {Q : D → D → Prop} {ds xs : List D} (h : All2 Q ds xs) : xs.length = ds.length := by
  induction h with
  | nil => rfl
  | cons _ _ ih => simp [ih]
theorem All2.mem {Q : D → D → Prop} {ds xs : List D} (h : All2 Q ds xs) {x : D} (hx : x ∈ xs) : ∃ d ∈ ds, Q d x := by
  induction h with
  | nil => cases hx
  | cons q _ ih =>
    rcases List.mem_cons.mp hx with rfl | hx
    · exact ⟨_, List.mem_cons_self, q⟩
    · obtain ⟨d, h1, h2⟩ := ih hx
      exact ⟨d, List.mem_cons_of_mem _ h1, h2⟩
theorem All2.map {h : D → D} {ds xs : List D} (a : All2 (fun d x => x = h d) ds xs) : xs = ds.map h := by
  induction a with
  | nil => rfl
  | cons q _ ih => rw [q, ih]; rfl
theorem lcL_spec {vs : List Nat} {f : GT} {c : DT} {e : DZ} {I : Nat → List (Option RV) → List OD → Prop} {Q : D → D → Prop} : ∀ (ds acc : List D) (n : Nat) (st : DSt), I n (wipeE st.env vs) st.S →
    (∀ i d E S, ds[i]? = some d → I (n + i) E S → ∃ st2 st2' x st3, f d ⟨E, S⟩ = some st2 ∧ c st2 = .ok true st2' ∧ e st2' = .ok x st3 ∧ I (n + i + 1) (wipeE st3.env vs) st3.S ∧ Q d x) →
    ∃ xs st', lcL vs f c e ds acc st = .ok (acc ++ xs) st' ∧ All2 Q ds xs ∧ I (n + ds.length) (wipeE st'.env vs) st'.S
  | [], acc, n, st, hI, _ => ⟨[], st, by rw [lcL, List.append_nil], .nil, hI⟩
  | d :: ds, acc, n, st, hI, step => by
    obtain ⟨st2, st2', x, st3, e1, e2, e3, hI3, q⟩ := step 0 d (wipeE st.env vs) st.S rfl hI
    obtain ⟨xs, st', e4, a4, hI4⟩ := lcL_spec ds (acc ++ [x]) (n + 1) st3 hI3 fun i d' E S hd hi => by
      have := step (i + 1) d' E S hd (by rw [show n + (i + 1) = n + 1 + i by omega]; exact hi)
      rw [show n + (i + 1) + 1 = n + 1 + i + 1 by omega] at this
      exact this
    refine ⟨x :: xs, st', ?_, .cons q a4, by rw [show n + (d :: ds).length = n + 1 + ds.length by simp; omega]; exact hI4⟩
    rw [lcL]
    have eE : ({ st with env := wipeE st.env vs } : DSt) = ⟨wipeE st.env vs, st.S⟩ := rfl
    rw [eE, e1]
    simp only [e2, e3, Out.bindN, if_true]
    rw [e4, List.append_assoc]
    rfl
/-- a comprehension that takes every member -/
theorem lc_spec {s : DL} {vs : List Nat} {f : GT} {c : DT} {e : DZ} (I : Nat → List (Option RV) → List OD → Prop) (Q : D → D → Prop) {st st1 : DSt} {ds : List D} (hs : s st = .ok ds st1) (hl : ds.length ≤ sizeLine) (hI : I 0 (wipeE st1.env vs) st1.S)
    (step : ∀ i d E S, ds[i]? = some d → I i E S → ∃ st2 st2' x st3, f d ⟨E, S⟩ = some st2 ∧ c st2 = .ok true st2' ∧ e st2' = .ok x st3 ∧ I (i + 1) (wipeE st3.env vs) st3.S ∧ Q d x) :
    ∃ xs E S', gLc s vs f c e st = .ok (.ow (.lst xs)) ⟨keepE st1.env E vs, S'⟩ ∧ All2 Q ds xs ∧ I ds.length E S' := by
  obtain ⟨xs, st', e1, a1, i1⟩ := lcL_spec (f := f) (c := c) (e := e) (I := I) (Q := Q) ds [] 0 st1 hI fun i d E S hd hi => by
    rw [Nat.zero_add] at hi ⊢
    exact step i d E S hd hi
  rw [Nat.zero_add] at i1
  refine ⟨xs, wipeE st'.env vs, st'.S, ?_, a1, i1⟩
  unfold gLc
  rw [hs]
  show (if ds.length ≤ sizeLine then _ else _) = _
  rw [if_pos hl, e1]
  show Out.ok _ _ = _
  rw [List.nil_append, keepE_wipe]
/-! ### the pot -/
def PotIn (S : List OD) (k n : Nat) : Prop := ∃ a b c : Int, Pot S k a b c ∧ 0 ≤ a ∧ 0 ≤ b ∧ b < 2 ^ 61 ∧ 0 ≤ c ∧ c ≤ n
theorem PotIn.mono {S : List OD} {k m n : Nat} (h : PotIn S k m) (l : m ≤ n) : PotIn S k n := by
  obtain ⟨a, b, c, h1, h2, h3, h4, h5, h6⟩ := h
  exact ⟨a, b, c, h1, h2, h3, h4, h5, by omega⟩
theorem take_in {S : List OD} {k n : Nat} {u : Int} (h : PotIn S k n) (hn : n < 1000000) (hu : 0 < u) (hu2 : u < 1073741824) : ∃ (r : Int) (S' : List OD), K00.m__law_take [.cell k, .int u] S = .ok (.sh (.int r)) S' ∧ 0 ≤ r ∧ r < u ∧ PotIn S' k (n + 1) := by
  obtain ⟨a, b, c, h1, h2, h3, h4, h5, h6⟩ := h
  obtain ⟨r, a', c', S', e, r1, r2, p, p1, p2, p3, _⟩ := take_any h1 h2 h3 h4 h5 (by omega) hu hu2
  exact ⟨r, S', e, r1, r2, a', b, c', p, p1, h3, h4, p2, by omega⟩
theorem atI_lt {xs : List D} {r : Int} (h0 : 0 ≤ r) (h1 : r < xs.length) : ∃ x, atI xs r = some x ∧ x ∈ xs := by
  have hn : r.toNat < xs.length := by omega
  refine ⟨xs[r.toNat], ?_, List.getElem_mem _⟩
  unfold atI ixN
  rw [if_pos h0, if_pos h1]
  exact List.getElem?_eq_getElem hn
theorem of_in {S : List OD} {k n : Nat} {xs : List D} (h : PotIn S k n) (hn : n < 1000000) (hx : xs ≠ []) (hl : xs.length < 1073741824) : ∃ (x : D) (S' : List OD), K00.m__law_of [.cell k, .lst xs] S = .ok (.sh x) S' ∧ x ∈ xs ∧ PotIn S' k (n + 1) := by
  have hp : 0 < xs.length := List.length_pos_iff.mpr hx
  obtain ⟨r, S', e, r1, r2, p⟩ := take_in (u := (xs.length : Int)) h hn (by omega) (by omega)
  obtain ⟨x, ex, mx⟩ := atI_lt r1 r2
  refine ⟨x, S', ?_, mx, p⟩
  simp [K00.m__law_of, K00.g_law_of, fm, outF, gSeq, gRet, gBin, gN, gV, frz, gFn, gLen, gConsA, gNilA, gCall, lenD, Out.bind, Out.bindS, RV.fz, opt, e, outE, ixD, ex]
theorem upTo_length (lo : Int) (n : Nat) : (upTo lo n).length = n := by simp [upTo]
end Dn
end

section
set_option maxHeartbeats 4000000
-- Q3
/-! P25: _law_pot -/
namespace Dn
open PySem PySem.Spec L2
theorem mulR {i j : Int} (h : -(2 ^ 64) < j ∧ j < 2 ^ 64) : mulD (.int i) (.int j) = some (.sh (.int (i * j))) := by
  unfold mulD
  exact if_pos (.inr h)
theorem mulL {i j : Int} (h : -(2 ^ 64) < i ∧ i < 2 ^ 64) : mulD (.int i) (.int j) = some (.sh (.int (i * j))) := by
  unfold mulD
  exact if_pos (.inl h)
theorem modR {i j : Int} (h : 0 < j) : modD (.int i) (.int j) = some (.sh (.int (i % j))) := by
  unfold modD
  exact if_pos h
theorem powR {i j : Int} (h : 0 ≤ j ∧ (Builtin.Int.intBits i : Int) * j ≤ 2 ^ 27) : powD (.int i) (.int j) = some (.sh (.int (i ^ j.toNat))) := by
  unfold powD
  exact if_pos h
def T60 : Int := 10 ^ (60 : Int).toNat
def T300 : Int := T60 ^ (5 : Int).toNat
def T18 : Int := 10 ^ (18 : Int).toNat
theorem pow60 : powD (.int 10) (.int 60) = some (.sh (.int T60)) := powR (by decide +kernel)
theorem pow300 : powD (.int T60) (.int 5) = some (.sh (.int T300)) := powR (by decide +kernel)
theorem pow18 : powD (.int 10) (.int 18) = some (.sh (.int T18)) := powR (by decide +kernel)
theorem t300 : 0 < T300 := by decide +kernel
theorem pot_cell {ns : List Int} {j : Int} {S : List OD} (h0 : 0 ≤ j) (h1 : j < 1000) : ∃ c : Int, gSet 2 (gIf (gTest asB (frz (gBin ltD (gN 1) (frz (gCall lenD (gConsA (gN 0) gNilA)))))) (gBin ixD (gN 0) (gN 1)) (gBin addD (frz (gBin mulD (frz (gC (.int 31))) (gN 1))) (frz (gC (.int 17))))) ⟨[some (.sh (.scr ns)), some (.sh (.int j)), none, none, none], S⟩
    = .nx ⟨[some (.sh (.scr ns)), some (.sh (.int j)), some (.sh (.int c)), none, none], S⟩ := by
  by_cases hl : j < ns.length
  · have hn : j.toNat < ns.length := by omega
    have ha : atI ns j = some ns[j.toNat] := by
      unfold atI ixN
      rw [if_pos h0, if_pos hl]
      exact List.getElem?_eq_getElem hn
    refine ⟨ns[j.toNat], ?_⟩
    generalize ns[j.toNat] = c at *
    simp [gSet, gIf, gTest, asB, gBin, gN, frz, gCall, gConsA, gNilA, lenD, ltD, bo, opt, Out.bind, Out.bindS, RV.fz, hl, ixD, ha, put]
  · refine ⟨31 * j + 17, ?_⟩
    have m : mulD (.int 31) (.int j) = some (.sh (.int (31 * j))) := mulL (by decide)
    simp [gSet, gIf, gTest, asB, gBin, gN, gC, frz, gCall, gConsA, gNilA, lenD, ltD, bo, opt, Out.bind, Out.bindS, RV.fz, hl, m, addD, put]
theorem pot_ok {ns : List Int} {j : Int} {S : List OD} (h0 : 0 ≤ j) (h1 : j < 1000) : ∃ a b : Int, K00.m__law_pot [.scr ns, .int j] S = .ok (.ow (.lst [.int a, .int b, .int 0])) S ∧ 0 ≤ a ∧ 0 ≤ b ∧ b < 2 ^ 61 := by
  have hz : sizeLine = 16777216 := rfl
  obtain ⟨c, e1⟩ := pot_cell (ns := ns) (S := S) h0 h1
  unfold K00.m__law_pot fm K00.g_law_pot
  show ∃ a b, outF (gSeq _ _ ⟨[some (.sh (.scr ns)), some (.sh (.int j)), none, none, none], S⟩) = _ ∧ _
  rw [gSeq, e1]
  simp only
  have ab : absD [.int c] = some (.sh (.int (if c < 0 then -c else c))) := rfl
  generalize (if c < 0 then -c else c) = u at ab
  have md : modD (.int u) (.int T300) = some (.sh (.int (u % T300))) := modR t300
  have big : geD (.int u) (.int T18) = bo (decide (T18 ≤ u)) := rfl
  have own : ∃ a : Int, mulD (.int (u % T300)) (.int (if decide (T18 ≤ u) = true then 1 else 0)) = some (.sh (.int a)) ∧ 0 ≤ a := by
    have ge := Int.emod_nonneg u (by have := t300; omega : T300 ≠ 0)
    by_cases q : decide (T18 ≤ u) = true
    · rw [if_pos q]
      exact ⟨u % T300 * 1, mulR (by decide), by omega⟩
    · rw [if_neg q]
      exact ⟨u % T300 * 0, mulR (by decide), by omega⟩
  obtain ⟨a, ea, pa⟩ := own
  have m2 : modD (.int c) (.int 2305843009213693951) = some (.sh (.int (c % 2305843009213693951))) := modR (by decide)
  have m3 : mulD (.int (c % 2305843009213693951)) (.int 71011) = some (.sh (.int (c % 2305843009213693951 * 71011))) := mulR (by decide)
  have m4 : mulD (.int 6389) (.int j) = some (.sh (.int (6389 * j))) := mulL (by decide)
  have m5 : mulD (.int (6389 * j)) (.int j) = some (.sh (.int (6389 * j * j))) := mulR (by omega)
  generalize hs : c % 2305843009213693951 * 71011 + 6389 * j * j + 73 = s
  have m6 : modD (.int s) (.int 2305843009213693921) = some (.sh (.int (s % 2305843009213693921))) := modR (by decide)
  have b0 := Int.emod_nonneg s (by decide : (2305843009213693921 : Int) ≠ 0)
  have b1 := Int.emod_lt_of_pos s (by decide : (0 : Int) < 2305843009213693921)
  refine ⟨a, s % 2305843009213693921, ?_, pa, b0, by omega⟩
  subst hs
  generalize hw : (if decide (T18 ≤ u) = true then (1 : Int) else 0) = w at ea
  have ib : intD [.bl (decide (T18 ≤ u))] = some (.sh (.int w)) := by rw [← hw]; rfl
  generalize decide (T18 ≤ u) = bb at *
  have ii : ∀ z : Int, intD [.int z] = some (.sh (.int z)) := fun _ => rfl
  have aa : ∀ y z : Int, addD (.int y) (.int z) = some (.sh (.int (y + z))) := fun _ _ => rfl
  have p60 := pow60
  have p300 := pow300
  have p18 := pow18
  have t18 : bo bb = some (.sh (.bl bb)) := rfl
  generalize T300 = t3 at *
  generalize T60 = t6 at *
  generalize T18 = t8 at *
  simp only [gSeq, gSet, gRet, gBin, gN, gC, gV, frz, gCall, gConsA, gNilA, gLst, Out.bind, Out.bindS, RV.fz, opt, put, List.getElem?_cons_zero, List.getElem?_cons_succ, List.set_cons_zero, List.set_cons_succ, ab, p60, p300, p18, md, big, t18, ib, ea, ii, m2, m3, m4, m5, aa, m6, List.length_cons, List.length_nil, hz, outF, Dn.gNil]
  rfl
end Dn
end

section
set_option maxHeartbeats 4000000
-- Q4
set_option profiler true
set_option profiler.threshold 1000
/-! Q4: what _law_odd draws; all errors of one value; their kinds -/
namespace Dn
open PySem PySem.Spec L2
namespace Q0
def L20 : List D := [.non, .bl true, .bl false, .int 0, .int 1, .int (-1), .int 10, .str "", .str "A", .str "#", .str ".", .str "a b", .str "a", .tup [], .lst [], .dct [], .tup [.tup []], .tup [.int 0], .lst [.int 0], .tup [.str "a"]]
def L8 : List D := [.tup [.bl true], .tup [.str "a", .int 1], .str "end", .tup [.str "end", .int 0], .dct [(.str "a", .int 0)], .lst [.str "a"], .str "( a )", .int 100000000]
def oddL : List D := L20 ++ L8
def xsN : List Str := ["BadPlan", "BadPlace", "BadNumber", "BadDraft", "BadEnd", "BadPick", "BadName", "BadRow", "BadThread", "BadBy", "BadPairs", "TooMany", "BadSort", "BadSide", "BadPicture", "NotNow", "BadPicks", "NotWhole", "NothingToUndo", "NothingToRedo", "BadText", "BadJournal", "BadLine"]
theorem odd_set (k : Nat) (S : List OD) : (gSet 1 (gLst (gConsA (frz (gC .non)) (gConsA (frz (gC (.bl true))) (gConsA (frz (gC (.bl false))) (gConsA (frz (gC (.int 0))) (gConsA (frz (gC (.int 1))) (gConsA (frz (gNeg (frz (gC (.int 1))))) (gConsA (frz (gC (.int 10))) (gConsA (frz (gC (.str ""))) (gConsA (frz (gC (.str "A"))) (gConsA (frz (gC (.str "#"))) (gConsA (frz (gC (.str "."))) (gConsA (frz (gC (.str "a b"))) (gConsA (frz (gC (.str "a"))) (gConsA (frz (Dn.gTup gNilA)) (gConsA (frz (gLst gNilA)) (gConsA (frz gDict0) (gConsA (frz (Dn.gTup (gConsA (frz (Dn.gTup gNilA)) gNilA))) (gConsA (frz (Dn.gTup (gConsA (frz (gC (.int 0))) gNilA))) (gConsA (frz (gLst (gConsA (frz (gC (.int 0))) gNilA))) (gConsA (frz (Dn.gTup (gConsA (frz (gC (.str "a"))) gNilA))) gNilA)))))))))))))))))))))) ⟨[some (.sh (.cell k)), none], S⟩ = .nx ⟨[some (.sh (.cell k)), some (.ow (.lst L20))], S⟩ := rfl
theorem odd_args (k : Nat) (S : List OD) : (gLen 2 (gConsA (frz (gV 0)) (gConsA (frz (gBin addD (gN 1) (frz (gLst (gConsA (frz (Dn.gTup (gConsA (frz (gC (.bl true))) gNilA))) (gConsA (frz (Dn.gTup (gConsA (frz (gC (.str "a"))) (gConsA (frz (gC (.int 1))) gNilA)))) (gConsA (frz (gC (.str "end"))) (gConsA (frz (Dn.gTup (gConsA (frz (gC (.str "end"))) (gConsA (frz (gC (.int 0))) gNilA)))) (gConsA (frz (gDisp (((frz (gC (.str "a"))) , (frz (gC (.int 0)))) :: []))) (gConsA (frz (gLst (gConsA (frz (gC (.str "a"))) gNilA))) (gConsA (frz (gC (.str "( a )"))) (gConsA (frz (gBin powD (frz (gC (.int 10))) (frz (gC (.int 8))))) gNilA)))))))))))) gNilA))) ⟨[some (.sh (.cell k)), some (.ow (.lst L20))], S⟩ = .ok [.cell k, .lst oddL] ⟨[some (.sh (.cell k)), some (.ow (.lst L20))], S⟩ := rfl
theorem odd_in {S : List OD} {k n : Nat} (h : PotIn S k n) (hn : n < 1000000) : ∃ (x : D) (S' : List OD), K00.m__law_odd [.cell k] S = .ok (.sh x) S' ∧ x ∈ oddL ∧ PotIn S' k (n + 1) := by
  obtain ⟨x, S', e, mx, p⟩ := of_in (xs := oddL) h hn (by decide) (by decide)
  refine ⟨x, S', ?_, mx, p⟩
  unfold K00.m__law_odd fm K00.g_law_odd
  show outF (gSeq _ _ ⟨[some (.sh (.cell k)), none], S⟩) = _
  rw [gSeq, odd_set]
  show outF (gSeq _ _ _) = _
  rw [gSeq, gRet, gFn, odd_args]
  simp only [Out.bind, e, outE, Out.bindS]
  rfl
def excs (one : D) : List D := xsN.map fun c => .exc c one
theorem all_of (one : D) (S : List OD) : K00.m__law_all_of [one] S = .ok (.ow (.lst (excs one))) S := rfl
def kinds (c : Str) : List D := xsN.map fun T => .bl (T == c)
theorem kinds_of (one : D) (S : List OD) : ∀ c ∈ xsN, K00.m__law_kinds_of [.exc c one] S = .ok (.ow (.lst (kinds c))) S := by
  intro c hc
  simp only [xsN, List.mem_cons, List.not_mem_nil, or_false] at hc
  rcases hc with rfl | rfl | rfl | rfl | rfl | rfl | rfl | rfl | rfl | rfl | rfl | rfl | rfl | rfl | rfl | rfl | rfl | rfl | rfl | rfl | rfl | rfl | rfl <;> kernel_rfl
theorem same1 : ∀ d ∈ oddL, eqB2 d d = some true := by
  have h : (oddL.all fun d => decide (eqB2 d d = some true)) = true := by decide +kernel
  exact fun d hd => of_decide_eq_true (List.all_eq_true.mp h d hd)
theorem same2 : ∀ a ∈ oddL, ∀ b ∈ oddL, eqB2 (.tup [a, .lst [b]]) (.tup [a, .lst [b]]) = some true := by
  have h : (oddL.all fun a => oddL.all fun b => decide (eqB2 (.tup [a, .lst [b]]) (.tup [a, .lst [b]]) = some true)) = true := by decide +kernel
  exact fun a ha b hb => of_decide_eq_true (List.all_eq_true.mp (List.all_eq_true.mp h a ha) b hb)
theorem same3 : ∀ d ∈ oddL, eqB2 (.dct [(.str "a", d)]) (.dct [(.str "a", d)]) = some true := by
  have h : (oddL.all fun d => decide (eqB2 (.dct [(.str "a", d)]) (.dct [(.str "a", d)]) = some true)) = true := by decide +kernel
  exact fun d hd => of_decide_eq_true (List.all_eq_true.mp h d hd)
theorem shown1 : ∀ d ∈ oddL, (shownQ d).isSome = true := by
  have h : (oddL.all fun d => (shownQ d).isSome) = true := by decide +kernel
  exact fun d hd => List.all_eq_true.mp h d hd
theorem shown23 : ∀ d ∈ oddL, (shownQ (.lst (List.replicate 23 d))).isSome = true := by
  have h : (oddL.all fun d => (shownQ (.lst (List.replicate 23 d))).isSome) = true := by decide +kernel
  exact fun d hd => List.all_eq_true.mp h d hd
end Q0
end Dn
end

section
set_option maxHeartbeats 4000000
-- Q5
/-! Q5: _law_right -/
namespace Dn
open PySem PySem.Spec L2
namespace Q0
theorem for_spec {f : GT} {b : DS} (I : Nat → DSt → Prop) : ∀ (ds : List D) (n : Nat) (st : DSt), I n st → (∀ i d st, ds[i]? = some d → I (n + i) st → ∃ st1 st2, f d st = some st1 ∧ b st1 = .nx st2 ∧ I (n + i + 1) st2) → ∃ st', gForL f b ds st = .nx st' ∧ I (n + ds.length) st'
  | [], n, st, h, _ => ⟨st, rfl, h⟩
  | d :: ds, n, st, h, step => by
    obtain ⟨st1, st2, e1, e2, h2⟩ := step 0 d st rfl h
    obtain ⟨st', e3, h3⟩ := for_spec I ds (n + 1) st2 h2 fun i d' st hd hi => by
      have := step (i + 1) d' st hd (by rw [show n + (i + 1) = n + 1 + i by omega]; exact hi)
      rw [show n + (i + 1) + 1 = n + 1 + i + 1 by omega] at this
      exact this
    refine ⟨st', ?_, by rw [show n + (d :: ds).length = n + 1 + ds.length by simp; omega]; exact h3⟩
    rw [gForL, e1]
    simp only
    rw [e2]
    exact e3
theorem all_true : ∀ {xs : List D}, (∀ x ∈ xs, x = .bl true) → allD [.lst xs] = some (.sh (.bl true)) := by
  intro xs h
  have key : ∀ ys : List D, (∀ x ∈ ys, x = .bl true) → bools ys = some (List.replicate ys.length true) := by
    intro ys
    induction ys with
    | nil => intro _; rfl
    | cons y ys ih =>
      intro h
      have h1 := h y List.mem_cons_self
      subst h1
      have h2 := ih fun x hx => h x (List.mem_cons_of_mem _ hx)
      simp [bools, h2, List.replicate_succ]
  show (bools xs).map _ = _
  rw [key xs h]
  simp
def W6 (x : Option RV) : Prop := x = none ∨ ∃ d, x = some (.sh d)
abbrev Env (k : Nat) (x1 : RV) (d : D) (x3 x4 x5 x6 : Option RV) : List (Option RV) := [some (.sh (.cell k)), some x1, some (.sh d), x3, x4, x5, x6, none]
theorem b1 {k : Nat} {x1 : RV} {d : D} {x4 x5 x6 : Option RV} {S : List OD} : (gSet 4 (gFn K00.m__law_all_of (gLen 1 (gConsA (frz (gV 2)) gNilA)))) ⟨Env k x1 d none x4 x5 x6, S⟩ = .nx ⟨Env k x1 d none (some (.ow (.lst (excs d)))) x5 x6, S⟩ := rfl
theorem comp_all {k : Nat} {x1 : RV} {d : D} {x5 x6 : Option RV} {S : List OD} (hd : eqB2 d d = some true) (w : W6 x6) : ∃ xs, (gLc (gI asL (gV 4)) [6] (fName 6) gYes (frz (gAndL (gBin eqD2 (frz (gValue K00.xcs (gN 6))) (gN 2)) [(gIsiX K00.xcs K00.isaT (gN 6))]))) ⟨Env k x1 d none (some (.ow (.lst (excs d)))) x5 x6, S⟩ = .ok (.ow (.lst xs)) ⟨Env k x1 d none (some (.sh (.lst (excs d)))) x5 x6, S⟩ ∧ ∀ x ∈ xs, x = .bl true := by
  obtain ⟨xs, E, S', e, a, i⟩ := lc_spec (s := (gI asL (gV 4))) (vs := [6]) (f := fName 6) (c := gYes) (e := (frz (gAndL (gBin eqD2 (frz (gValue K00.xcs (gN 6))) (gN 2)) [(gIsiX K00.xcs K00.isaT (gN 6))]))) (st := ⟨Env k x1 d none (some (.ow (.lst (excs d)))) x5 x6, S⟩) (st1 := ⟨Env k x1 d none (some (.sh (.lst (excs d)))) x5 x6, S⟩) (ds := excs d)
    (fun _ E S' => E = Env k x1 d none (some (.sh (.lst (excs d)))) x5 none ∧ S' = S) (fun _ x => x = .bl true) rfl (by rw [excs, List.length_map]; decide) ⟨rfl, rfl⟩ fun i z E S' hz ⟨e1, e2⟩ => by
      subst e1 e2
      obtain ⟨c, hc, rfl⟩ := List.mem_map.mp (List.mem_of_getElem? hz)
      refine ⟨_, _, .bl true, ⟨Env k x1 d none (some (.sh (.lst (excs d)))) x5 (some (.sh (.exc c d))), S'⟩, rfl, rfl, ?_, ⟨rfl, rfl⟩, rfl⟩
      have hx : c ∈ K00.xcs := by
        have hh : ∀ c ∈ xsN, c ∈ K00.xcs := by decide +kernel
        exact hh c hc
      simp [frz, gAndL, gAnd, gBin, gValue, gN, gIsiX, hx, Out.bind, RV.fz, opt, eqD2, hd, K00.isaT, put, Env]
  obtain ⟨rfl, rfl⟩ := i
  refine ⟨xs, ?_, fun x hx => (a.mem hx).choose_spec.2⟩
  rw [e]
  rcases w with rfl | ⟨z, rfl⟩ <;> rfl
theorem b2 {k : Nat} {x1 : RV} {d : D} {x5 x6 : Option RV} {S : List OD} (hd : eqB2 d d = some true) (w : W6 x6) : (gIfS (gNotT (gTest truD (frz (gCall allD (gConsA (frz (gLc (gI asL (gV 4)) [6] (fName 6) gYes (frz (gAndL (gBin eqD2 (frz (gValue K00.xcs (gN 6))) (gN 2)) [(gIsiX K00.xcs K00.isaT (gN 6))])))) gNilA))))) (gSeq (gRet (gC (.bl false))) Dn.gNil) Dn.gNil) ⟨Env k x1 d none (some (.ow (.lst (excs d)))) x5 x6, S⟩ = .nx ⟨Env k x1 d none (some (.sh (.lst (excs d)))) x5 x6, S⟩ := by
  obtain ⟨xs, e, h⟩ := comp_all (k := k) (x1 := x1) (x5 := x5) (S := S) hd w
  simp only [gIfS, gNotT, gTest, frz, gCall, gConsA, gNilA, e, Out.bind, Out.bindS, RV.fz, OD.fz, all_true h, opt, truD]
  rfl
theorem b3 {k : Nat} {x1 : RV} {d : D} {x5 x6 : Option RV} {S : List OD} : (gFor (gEnum (gConsA (frz (gV 4)) gNilA)) (fTup 2 (fCons (fName 5) (fCons (fName 6) fNil))) (gSeq (gIfS (gOrs (gTest asB (frz (gBin neD (frz (gFn K00.m__law_kinds_of (gLen 1 (gConsA (frz (gV 6)) gNilA)))) (frz (gLc (gRng1 (gConsA (frz (gCall lenD (gConsA (gN 4) gNilA))) gNilA)) [7] (fName 7) gYes (frz (gBin eqD2 (gN 7) (gN 5)))))))) [(gNotT (gTest truD (frz (gIsiX K00.xcs (K00.isa "WeaveError") (gN 6)))))]) (gSeq (gRet (gC (.bl false))) Dn.gNil) Dn.gNil) Dn.gNil)) ⟨Env k x1 d none (some (.sh (.lst (excs d)))) x5 x6, S⟩ = .nx ⟨Env k x1 d none (some (.sh (.lst (excs d)))) (some (.sh (.int 22))) (some (.sh (.exc "BadLine" d))), S⟩ := by kernel_rfl
def body : DS := (gSeq (gSet 4 (gFn K00.m__law_all_of (gLen 1 (gConsA (frz (gV 2)) gNilA)))) (gSeq (gIfS (gNotT (gTest truD (frz (gCall allD (gConsA (frz (gLc (gI asL (gV 4)) [6] (fName 6) gYes (frz (gAndL (gBin eqD2 (frz (gValue K00.xcs (gN 6))) (gN 2)) [(gIsiX K00.xcs K00.isaT (gN 6))])))) gNilA))))) (gSeq (gRet (gC (.bl false))) Dn.gNil) Dn.gNil) (gSeq (gFor (gEnum (gConsA (frz (gV 4)) gNilA)) (fTup 2 (fCons (fName 5) (fCons (fName 6) fNil))) (gSeq (gIfS (gOrs (gTest asB (frz (gBin neD (frz (gFn K00.m__law_kinds_of (gLen 1 (gConsA (frz (gV 6)) gNilA)))) (frz (gLc (gRng1 (gConsA (frz (gCall lenD (gConsA (gN 4) gNilA))) gNilA)) [7] (fName 7) gYes (frz (gBin eqD2 (gN 7) (gN 5)))))))) [(gNotT (gTest truD (frz (gIsiX K00.xcs (K00.isa "WeaveError") (gN 6)))))]) (gSeq (gRet (gC (.bl false))) Dn.gNil) Dn.gNil) Dn.gNil)) Dn.gNil)))
theorem body_ok {k : Nat} {x1 : RV} {d : D} {x4 x5 x6 : Option RV} {S : List OD} (hd : eqB2 d d = some true) (w : W6 x6) : body ⟨Env k x1 d none x4 x5 x6, S⟩ = .nx ⟨Env k x1 d none (some (.sh (.lst (excs d)))) (some (.sh (.int 22))) (some (.sh (.exc "BadLine" d))), S⟩ := by
  unfold body
  rw [gSeq, b1]
  show gSeq _ _ _ = _
  rw [gSeq, b2 hd w]
  show gSeq _ _ _ = _
  rw [gSeq, b3]
  rfl
theorem draws {S S1 S2 S3 S4 : List OD} {k : Nat} {o1 o2 o3 o4 : D} (e1 : K00.m__law_odd [.cell k] S = .ok (.sh o1) S1) (e2 : K00.m__law_odd [.cell k] S1 = .ok (.sh o2) S2) (e3 : K00.m__law_odd [.cell k] S2 = .ok (.sh o3) S3) (e4 : K00.m__law_odd [.cell k] S3 = .ok (.sh o4) S4) :
    (gSet 1 (gLst (gConsA (frz (gFn K00.m__law_odd (gLen 1 (gConsA (frz (gV 0)) gNilA)))) (gConsA (frz (Dn.gTup (gConsA (frz (gFn K00.m__law_odd (gLen 1 (gConsA (frz (gV 0)) gNilA)))) (gConsA (frz (gLst (gConsA (frz (gFn K00.m__law_odd (gLen 1 (gConsA (frz (gV 0)) gNilA)))) gNilA))) gNilA)))) (gConsA (frz (gDisp (((frz (gC (.str "a"))) , (frz (gFn K00.m__law_odd (gLen 1 (gConsA (frz (gV 0)) gNilA))))) :: []))) gNilA))))) ⟨[some (.sh (.cell k)), none, none, none, none, none, none, none], S⟩ = .nx ⟨[some (.sh (.cell k)), some (.ow (.lst [o1, .tup [o2, .lst [o3]], .dct [(.str "a", o4)]])), none, none, none, none, none, none], S4⟩ := by
  have hz : sizeLine = 16777216 := rfl
  have m1 : mergeD [] [(D.str "a", o4)] = some [(.str "a", o4)] := rfl
  simp [gSet, gLst, Dn.gTup, gDisp, gPairs, gConsA, gNilA, frz, gFn, gLen, gV, gC, Out.bind, Out.bindS, RV.fz, OD.fz, e1, e2, e3, e4, outE, opt, put, hz, m1]
theorem kept {k : Nat} {o1 t u z : D} {x4 x5 : Option RV} {y : D} {S : List OD} : (gSet 3 (gLc (gI asL (gFn K00.m__law_all_of (gLen 1 (gConsA (frz (gBin ixD (gN 1) (frz (gC (.int 0))))) gNilA)))) [6] (fName 6) gYes (frz (gValue K00.xcs (gN 6))))) ⟨Env k (.sh (.lst [o1, t, u])) z none x4 x5 (some (.sh y)), S⟩ = .nx ⟨Env k (.sh (.lst [o1, t, u])) z (some (.ow (.lst (List.replicate 23 o1)))) x4 x5 (some (.sh y)), S⟩ := by kernel_rfl
theorem last {k : Nat} {o1 t u z : D} {x4 x5 x6 : Option RV} {S : List OD} {s1 s23 : Str} (h1 : shownQ o1 = some s1) (h2 : shownQ (.lst (List.replicate 23 o1)) = some s23) : ∃ st', (gRet (gAndL (gBin eqD2 (frz (gCall reprQ (gConsA (gN 3) gNilA))) (frz (gCall reprQ (gConsA (frz (gBin mulD (frz (gLst (gConsA (frz (gBin ixD (gN 1) (frz (gC (.int 0))))) gNilA))) (frz (gCall lenD (gConsA (gN 3) gNilA))))) gNilA)))) [(gBin eqD2 (frz (gCall reprQ (gConsA (frz (gValue K00.xcs (frz (gNewX "WeaveError" (frz (gBin ixD (gN 1) (frz (gC (.int 0))))))))) gNilA))) (frz (gCall reprQ (gConsA (frz (gBin ixD (gN 1) (frz (gC (.int 0))))) gNilA))))])) ⟨Env k (.sh (.lst [o1, t, u])) z (some (.ow (.lst (List.replicate 23 o1)))) x4 x5 x6, S⟩ = .rt (.sh (.bl true)) st' ∧ st'.S = S := by
  have q1 : reprQ [o1] = some (.sh (.str s1)) := by show (shownQ o1).map _ = _; rw [h1]; rfl
  have q2 : reprQ [.lst (List.replicate 23 o1)] = some (.sh (.str s23)) := by show (shownQ (.lst (List.replicate 23 o1))).map _ = _; rw [h2]; rfl
  have i0 : ixD (.lst [o1, t, u]) (.int 0) = some (.sh o1) := rfl
  have ln : lenD [.lst (List.replicate 23 o1)] = some (.sh (.int 23)) := rfl
  have ml : mulD (.lst [o1]) (.int 23) = some (.ow (.lst (List.replicate 23 o1))) := rfl
  have hz : sizeLine = 16777216 := rfl
  have eqs : ∀ s : Str, eqD2 (.str s) (.str s) = some (.sh (.bl true)) := fun s => by
    have : eqS (.str s) (.str s) = some true := by unfold eqS; simp
    unfold eqD2 eqB2 eqB
    rw [this]
    rfl
  have hx : ("WeaveError" : Str) ∈ K00.xcs := by decide +kernel
  generalize List.replicate 23 o1 = r at *
  refine ⟨⟨Env k (.sh (.lst [o1, t, u])) z (some (.ow (.lst r))) x4 x5 x6, S⟩, ?_, rfl⟩
  · simp only [gRet, gAndL, gAnd, Env, gBin, gCall, gConsA, gNilA, gLst, frz, gN, gC, gNewX, gValue, Out.bind, Out.bindS, RV.fz, OD.fz, opt, List.getElem?_cons_zero, List.getElem?_cons_succ, i0, ln, ml, q1, q2, eqs, hx, List.length_cons, List.length_nil, hz, Nat.reduceAdd, Nat.reduceLeDiff, if_true]
end Q0
end Dn
end

section
set_option maxHeartbeats 0
-- H00
namespace K00
open PySem PySem.Spec PyProof.Rows L2 Dn He
def d0 : He.DefD := ⟨("_law_take", none), "_law_take", "_law_take", defArgs (top 27), defBody (top 27), defScope (top 27), [], []⟩
def d1 : He.DefD := ⟨("_law_of", none), "_law_of", "_law_of", defArgs (top 28), defBody (top 28), defScope (top 28), [], []⟩
def d2 : He.DefD := ⟨("_law_odd", none), "_law_odd", "_law_odd", defArgs (top 29), defBody (top 29), defScope (top 29), [], []⟩
def d3 : He.DefD := ⟨("_law_all_of", none), "_law_all_of", "_law_all_of", defArgs (top 30), defBody (top 30), defScope (top 30), [], []⟩
def d4 : He.DefD := ⟨("_law_kinds_of", none), "_law_kinds_of", "_law_kinds_of", defArgs (top 31), defBody (top 31), defScope (top 31), [], []⟩
def d5 : He.DefD := ⟨("_law_right", none), "_law_right", "_law_right", defArgs (top 32), defBody (top 32), defScope (top 32), [], []⟩
def d6 : He.DefD := ⟨("_law_pot", none), "_law_pot", "_law_pot", defArgs (top 26), defBody (top 26), defScope (top 26), [], []⟩
def d7 : He.DefD := ⟨("law", none), "law", "law", defArgs (top 33), defBody (top 33), defScope (top 33), [], []⟩
def fn : List He.DefD := [d0, d1, d2, d3, d4, d5, d6, d7]
def fa : List He.Fa := [.glo "_law_take", .glo "_law_of", .glo "_law_odd", .glo "_law_all_of", .glo "_law_kinds_of", .glo "_law_right", .glo "_law_pot", .glo "law", .free "ValueError", .free "abs", .free "all", .free "enumerate", .free "int", .free "isinstance", .free "len", .free "max", .free "min", .free "range", .free "repr", .glo "BadBy", .glo "BadDraft", .glo "BadEnd", .glo "BadJournal", .glo "BadLine", .glo "BadName", .glo "BadNumber", .glo "BadPairs", .glo "BadPick", .glo "BadPicks", .glo "BadPicture", .glo "BadPlace", .glo "BadPlan", .glo "BadRow", .glo "BadSide", .glo "BadSort", .glo "BadText", .glo "BadThread", .glo "NotNow", .glo "NotWhole", .glo "NothingToRedo", .glo "NothingToUndo", .glo "TooMany", .glo "WeaveError"]
def fx : List (PySem.W.Frag → Bool) := [fun K => xclsB K (ga K "WeaveError") (ga K "BadBy"), fun K => xclsB K (ga K "WeaveError") (ga K "BadDraft"), fun K => xclsB K (ga K "WeaveError") (ga K "BadEnd"), fun K => xclsB K (ga K "WeaveError") (ga K "BadJournal"), fun K => xclsB K (ga K "WeaveError") (ga K "BadLine"), fun K => xclsB K (ga K "WeaveError") (ga K "BadName"), fun K => xclsB K (ga K "WeaveError") (ga K "BadNumber"), fun K => xclsB K (ga K "WeaveError") (ga K "BadPairs"), fun K => xclsB K (ga K "WeaveError") (ga K "BadPick"), fun K => xclsB K (ga K "WeaveError") (ga K "BadPicks"), fun K => xclsB K (ga K "WeaveError") (ga K "BadPicture"), fun K => xclsB K (ga K "WeaveError") (ga K "BadPlace"), fun K => xclsB K (ga K "WeaveError") (ga K "BadPlan"), fun K => xclsB K (ga K "WeaveError") (ga K "BadRow"), fun K => xclsB K (ga K "WeaveError") (ga K "BadSide"), fun K => xclsB K (ga K "WeaveError") (ga K "BadSort"), fun K => xclsB K (ga K "WeaveError") (ga K "BadText"), fun K => xclsB K (ga K "WeaveError") (ga K "BadThread"), fun K => xclsB K (ga K "WeaveError") (ga K "NotNow"), fun K => xclsB K (ga K "WeaveError") (ga K "NotWhole"), fun K => xclsB K (ga K "WeaveError") (ga K "NothingToRedo"), fun K => xclsB K (ga K "WeaveError") (ga K "NothingToUndo"), fun K => xclsB K (ga K "WeaveError") (ga K "TooMany"), fun K => xclsB K (ga K "WeaveError") (ga K "WeaveError"), fun K => iniB PySem.Challenge.pw_treadplans_k00_errors_keep_their_value K (ga K "WeaveError"), fun K => decide (PySem.W.typeIn K (.ref (ma K (ga K "WeaveError") "__init__")) = some (.type "function")), fun K => eqO (PySem.W.nsIn K cStatics "thirdparty.any") (some none), fun K => eqO (PySem.W.nsIn K mainGlobals "super") (some none), fun K => xisAll xcs K, fun K => isaB xcs "BadBy" (isa "BadBy") K, fun K => isaB xcs "BadDraft" (isa "BadDraft") K, fun K => isaB xcs "BadEnd" (isa "BadEnd") K, fun K => isaB xcs "BadJournal" (isa "BadJournal") K, fun K => isaB xcs "BadLine" (isa "BadLine") K, fun K => isaB xcs "BadName" (isa "BadName") K, fun K => isaB xcs "BadNumber" (isa "BadNumber") K, fun K => isaB xcs "BadPairs" (isa "BadPairs") K, fun K => isaB xcs "BadPick" (isa "BadPick") K, fun K => isaB xcs "BadPicks" (isa "BadPicks") K, fun K => isaB xcs "BadPicture" (isa "BadPicture") K, fun K => isaB xcs "BadPlace" (isa "BadPlace") K, fun K => isaB xcs "BadPlan" (isa "BadPlan") K, fun K => isaB xcs "BadRow" (isa "BadRow") K, fun K => isaB xcs "BadSide" (isa "BadSide") K, fun K => isaB xcs "BadSort" (isa "BadSort") K, fun K => isaB xcs "BadText" (isa "BadText") K, fun K => isaB xcs "BadThread" (isa "BadThread") K, fun K => isaB xcs "NotNow" (isa "NotNow") K, fun K => isaB xcs "NotWhole" (isa "NotWhole") K, fun K => isaB xcs "NothingToRedo" (isa "NothingToRedo") K, fun K => isaB xcs "NothingToUndo" (isa "NothingToUndo") K, fun K => isaB xcs "TooMany" (isa "TooMany") K, fun K => isaB xcs "WeaveError" (isa "WeaveError") K, fun K => isaTB xcs "ValueError" isaT K, fun K => sysB K]
abbrev sI : Stmt := inClass (top 1) 0
def iv : IniW := some ("__init__", "WeaveError.__init__", defArgs sI, .stmts (defBody sI), defScope sI, mainGlobals, builtinsNs)
theorem iT : IniT "__init__" "WeaveError.__init__" (defArgs sI) (defBody sI) (defScope sI) := ⟨fun _ _ _ _ _ _ _ _ _ => rfl, by decide +kernel, rfl, rfl, rfl, rfl, rfl, rfl, rfl, ⟨_, rfl, rfl⟩, ⟨_, _, _, _, _, _, _, _, _, _, rfl, _, fun env => rfl⟩⟩
def nm0 : List PySem.Str := [("WeaveError" : PySem.Str), ("BadPlan" : PySem.Str), ("BadPlace" : PySem.Str), ("BadNumber" : PySem.Str), ("BadDraft" : PySem.Str), ("BadEnd" : PySem.Str), ("BadPick" : PySem.Str), ("BadName" : PySem.Str), ("BadRow" : PySem.Str), ("BadThread" : PySem.Str), ("BadBy" : PySem.Str), ("BadPairs" : PySem.Str), ("TooMany" : PySem.Str), ("BadSort" : PySem.Str), ("BadSide" : PySem.Str), ("BadPicture" : PySem.Str), ("NotNow" : PySem.Str), ("BadPicks" : PySem.Str), ("NotWhole" : PySem.Str), ("NothingToUndo" : PySem.Str), ("NothingToRedo" : PySem.Str), ("BadText" : PySem.Str), ("BadJournal" : PySem.Str), ("BadLine" : PySem.Str), ("_law_pot" : PySem.Str), ("_law_take" : PySem.Str), ("_law_of" : PySem.Str), ("_law_odd" : PySem.Str), ("_law_all_of" : PySem.Str), ("_law_kinds_of" : PySem.Str), ("_law_right" : PySem.Str)]
def names : List PySem.Str := nm0
abbrev R : PySem.W.OpenRow := PySem.W.OpenLaw.row PySem.Challenge.rw_treadplans_k00_errors_keep_their_value
abbrev hk : PySem.W.Hook := hookY 6 fa fx fn "WeaveError" iv
def ob (s : PySem.W.SharedT) : AlX := obsYG 6 fa fx fn "WeaveError" (HandSHeadRun.getT s)
theorem ob_eq (s : PySem.W.SharedT) : ob s = hk.obs s.abs := obsYG_eq (v := iv) (HandSHeadRun.getT_eq s)
theorem run (w : World) : HandSHeadRun.RunEq R (PySem.W.view R.prog [33]) hk ob 20000 names w := by
  intro os
  kernel_rfl
theorem facts {w : World} {K : PySem.W.Frag} {h : Heap} {mg : Str → Option Value} {fL : Addr} (X : K.In h) (G : h.Ns mainGlobals mg) (hfa : mg ("law" : Str) = some (.ref fL)) (c : SaysX fa fx fn "WeaveError" iv K) :
    ∃ fd : FuncData, (∀ (s : Shared) (v : Value), BindsTo s fd ⟨[v], []⟩ [("script", v)]) ∧ ∀ base : Heap, K.In base → base.Ns mainGlobals mg → FnG PySem.Challenge.pw_treadplans_k00_errors_keep_their_value w K mg base 5 fL fd ["script"] m_law := by
  obtain ⟨fd0, F0⟩ := c.def_ 0 (d := d0) rfl
  have h0 : mg "_law_take" = some (.ref (ga K "_law_take")) := glo_ok X G (c.fact 0 (f := .glo "_law_take") rfl)
  obtain ⟨fd1, F1⟩ := c.def_ 1 (d := d1) rfl
  have h1 : mg "_law_of" = some (.ref (ga K "_law_of")) := glo_ok X G (c.fact 1 (f := .glo "_law_of") rfl)
  obtain ⟨fd2, F2⟩ := c.def_ 2 (d := d2) rfl
  have h2 : mg "_law_odd" = some (.ref (ga K "_law_odd")) := glo_ok X G (c.fact 2 (f := .glo "_law_odd") rfl)
  obtain ⟨fd3, F3⟩ := c.def_ 3 (d := d3) rfl
  have h3 : mg "_law_all_of" = some (.ref (ga K "_law_all_of")) := glo_ok X G (c.fact 3 (f := .glo "_law_all_of") rfl)
  obtain ⟨fd4, F4⟩ := c.def_ 4 (d := d4) rfl
  have h4 : mg "_law_kinds_of" = some (.ref (ga K "_law_kinds_of")) := glo_ok X G (c.fact 4 (f := .glo "_law_kinds_of") rfl)
  obtain ⟨fd5, F5⟩ := c.def_ 5 (d := d5) rfl
  have h5 : mg "_law_right" = some (.ref (ga K "_law_right")) := glo_ok X G (c.fact 5 (f := .glo "_law_right") rfl)
  obtain ⟨fd6, F6⟩ := c.def_ 6 (d := d6) rfl
  have h6 : mg "_law_pot" = some (.ref (ga K "_law_pot")) := glo_ok X G (c.fact 6 (f := .glo "_law_pot") rfl)
  obtain ⟨fd7, F7⟩ := c.def_ 7 (d := d7) rfl
  have h7 : mg "law" = some (.ref (ga K "law")) := glo_ok X G (c.fact 7 (f := .glo "law") rfl)
  have nb : ∀ x : Str, x ∈ nbs → mg x = none := by
    intro x hx
    simp only [nbs, List.mem_cons, List.not_mem_nil, or_false] at hx
    rcases hx with rfl | rfl | rfl | rfl | rfl | rfl | rfl | rfl | rfl | rfl | rfl
    · exact free_ok X G (c.fact 8 (f := .free "ValueError") rfl)
    · exact free_ok X G (c.fact 9 (f := .free "abs") rfl)
    · exact free_ok X G (c.fact 10 (f := .free "all") rfl)
    · exact free_ok X G (c.fact 11 (f := .free "enumerate") rfl)
    · exact free_ok X G (c.fact 12 (f := .free "int") rfl)
    · exact free_ok X G (c.fact 13 (f := .free "isinstance") rfl)
    · exact free_ok X G (c.fact 14 (f := .free "len") rfl)
    · exact free_ok X G (c.fact 15 (f := .free "max") rfl)
    · exact free_ok X G (c.fact 16 (f := .free "min") rfl)
    · exact free_ok X G (c.fact 17 (f := .free "range") rfl)
    · exact free_ok X G (c.fact 18 (f := .free "repr") rfl)
  have m_BadBy : mg "BadBy" = some (.ref (ga K "BadBy")) := glo_ok X G (c.fact 19 (f := .glo "BadBy") rfl)
  obtain ⟨x_BadBy, f_BadBy, e_BadBy⟩ := xclsB_ok (c.xfact 0 rfl : xclsB K (ga K "WeaveError") (ga K "BadBy") = true)
  have m_BadDraft : mg "BadDraft" = some (.ref (ga K "BadDraft")) := glo_ok X G (c.fact 20 (f := .glo "BadDraft") rfl)
  obtain ⟨x_BadDraft, f_BadDraft, e_BadDraft⟩ := xclsB_ok (c.xfact 1 rfl : xclsB K (ga K "WeaveError") (ga K "BadDraft") = true)
  have m_BadEnd : mg "BadEnd" = some (.ref (ga K "BadEnd")) := glo_ok X G (c.fact 21 (f := .glo "BadEnd") rfl)
  obtain ⟨x_BadEnd, f_BadEnd, e_BadEnd⟩ := xclsB_ok (c.xfact 2 rfl : xclsB K (ga K "WeaveError") (ga K "BadEnd") = true)
  have m_BadJournal : mg "BadJournal" = some (.ref (ga K "BadJournal")) := glo_ok X G (c.fact 22 (f := .glo "BadJournal") rfl)
  obtain ⟨x_BadJournal, f_BadJournal, e_BadJournal⟩ := xclsB_ok (c.xfact 3 rfl : xclsB K (ga K "WeaveError") (ga K "BadJournal") = true)
  have m_BadLine : mg "BadLine" = some (.ref (ga K "BadLine")) := glo_ok X G (c.fact 23 (f := .glo "BadLine") rfl)
  obtain ⟨x_BadLine, f_BadLine, e_BadLine⟩ := xclsB_ok (c.xfact 4 rfl : xclsB K (ga K "WeaveError") (ga K "BadLine") = true)
  have m_BadName : mg "BadName" = some (.ref (ga K "BadName")) := glo_ok X G (c.fact 24 (f := .glo "BadName") rfl)
  obtain ⟨x_BadName, f_BadName, e_BadName⟩ := xclsB_ok (c.xfact 5 rfl : xclsB K (ga K "WeaveError") (ga K "BadName") = true)
  have m_BadNumber : mg "BadNumber" = some (.ref (ga K "BadNumber")) := glo_ok X G (c.fact 25 (f := .glo "BadNumber") rfl)
  obtain ⟨x_BadNumber, f_BadNumber, e_BadNumber⟩ := xclsB_ok (c.xfact 6 rfl : xclsB K (ga K "WeaveError") (ga K "BadNumber") = true)
  have m_BadPairs : mg "BadPairs" = some (.ref (ga K "BadPairs")) := glo_ok X G (c.fact 26 (f := .glo "BadPairs") rfl)
  obtain ⟨x_BadPairs, f_BadPairs, e_BadPairs⟩ := xclsB_ok (c.xfact 7 rfl : xclsB K (ga K "WeaveError") (ga K "BadPairs") = true)
  have m_BadPick : mg "BadPick" = some (.ref (ga K "BadPick")) := glo_ok X G (c.fact 27 (f := .glo "BadPick") rfl)
  obtain ⟨x_BadPick, f_BadPick, e_BadPick⟩ := xclsB_ok (c.xfact 8 rfl : xclsB K (ga K "WeaveError") (ga K "BadPick") = true)
  have m_BadPicks : mg "BadPicks" = some (.ref (ga K "BadPicks")) := glo_ok X G (c.fact 28 (f := .glo "BadPicks") rfl)
  obtain ⟨x_BadPicks, f_BadPicks, e_BadPicks⟩ := xclsB_ok (c.xfact 9 rfl : xclsB K (ga K "WeaveError") (ga K "BadPicks") = true)
  have m_BadPicture : mg "BadPicture" = some (.ref (ga K "BadPicture")) := glo_ok X G (c.fact 29 (f := .glo "BadPicture") rfl)
  obtain ⟨x_BadPicture, f_BadPicture, e_BadPicture⟩ := xclsB_ok (c.xfact 10 rfl : xclsB K (ga K "WeaveError") (ga K "BadPicture") = true)
  have m_BadPlace : mg "BadPlace" = some (.ref (ga K "BadPlace")) := glo_ok X G (c.fact 30 (f := .glo "BadPlace") rfl)
  obtain ⟨x_BadPlace, f_BadPlace, e_BadPlace⟩ := xclsB_ok (c.xfact 11 rfl : xclsB K (ga K "WeaveError") (ga K "BadPlace") = true)
  have m_BadPlan : mg "BadPlan" = some (.ref (ga K "BadPlan")) := glo_ok X G (c.fact 31 (f := .glo "BadPlan") rfl)
  obtain ⟨x_BadPlan, f_BadPlan, e_BadPlan⟩ := xclsB_ok (c.xfact 12 rfl : xclsB K (ga K "WeaveError") (ga K "BadPlan") = true)
  have m_BadRow : mg "BadRow" = some (.ref (ga K "BadRow")) := glo_ok X G (c.fact 32 (f := .glo "BadRow") rfl)
  obtain ⟨x_BadRow, f_BadRow, e_BadRow⟩ := xclsB_ok (c.xfact 13 rfl : xclsB K (ga K "WeaveError") (ga K "BadRow") = true)
  have m_BadSide : mg "BadSide" = some (.ref (ga K "BadSide")) := glo_ok X G (c.fact 33 (f := .glo "BadSide") rfl)
  obtain ⟨x_BadSide, f_BadSide, e_BadSide⟩ := xclsB_ok (c.xfact 14 rfl : xclsB K (ga K "WeaveError") (ga K "BadSide") = true)
  have m_BadSort : mg "BadSort" = some (.ref (ga K "BadSort")) := glo_ok X G (c.fact 34 (f := .glo "BadSort") rfl)
  obtain ⟨x_BadSort, f_BadSort, e_BadSort⟩ := xclsB_ok (c.xfact 15 rfl : xclsB K (ga K "WeaveError") (ga K "BadSort") = true)
  have m_BadText : mg "BadText" = some (.ref (ga K "BadText")) := glo_ok X G (c.fact 35 (f := .glo "BadText") rfl)
  obtain ⟨x_BadText, f_BadText, e_BadText⟩ := xclsB_ok (c.xfact 16 rfl : xclsB K (ga K "WeaveError") (ga K "BadText") = true)
  have m_BadThread : mg "BadThread" = some (.ref (ga K "BadThread")) := glo_ok X G (c.fact 36 (f := .glo "BadThread") rfl)
  obtain ⟨x_BadThread, f_BadThread, e_BadThread⟩ := xclsB_ok (c.xfact 17 rfl : xclsB K (ga K "WeaveError") (ga K "BadThread") = true)
  have m_NotNow : mg "NotNow" = some (.ref (ga K "NotNow")) := glo_ok X G (c.fact 37 (f := .glo "NotNow") rfl)
  obtain ⟨x_NotNow, f_NotNow, e_NotNow⟩ := xclsB_ok (c.xfact 18 rfl : xclsB K (ga K "WeaveError") (ga K "NotNow") = true)
  have m_NotWhole : mg "NotWhole" = some (.ref (ga K "NotWhole")) := glo_ok X G (c.fact 38 (f := .glo "NotWhole") rfl)
  obtain ⟨x_NotWhole, f_NotWhole, e_NotWhole⟩ := xclsB_ok (c.xfact 19 rfl : xclsB K (ga K "WeaveError") (ga K "NotWhole") = true)
  have m_NothingToRedo : mg "NothingToRedo" = some (.ref (ga K "NothingToRedo")) := glo_ok X G (c.fact 39 (f := .glo "NothingToRedo") rfl)
  obtain ⟨x_NothingToRedo, f_NothingToRedo, e_NothingToRedo⟩ := xclsB_ok (c.xfact 20 rfl : xclsB K (ga K "WeaveError") (ga K "NothingToRedo") = true)
  have m_NothingToUndo : mg "NothingToUndo" = some (.ref (ga K "NothingToUndo")) := glo_ok X G (c.fact 40 (f := .glo "NothingToUndo") rfl)
  obtain ⟨x_NothingToUndo, f_NothingToUndo, e_NothingToUndo⟩ := xclsB_ok (c.xfact 21 rfl : xclsB K (ga K "WeaveError") (ga K "NothingToUndo") = true)
  have m_TooMany : mg "TooMany" = some (.ref (ga K "TooMany")) := glo_ok X G (c.fact 41 (f := .glo "TooMany") rfl)
  obtain ⟨x_TooMany, f_TooMany, e_TooMany⟩ := xclsB_ok (c.xfact 22 rfl : xclsB K (ga K "WeaveError") (ga K "TooMany") = true)
  have m_WeaveError : mg "WeaveError" = some (.ref (ga K "WeaveError")) := glo_ok X G (c.fact 42 (f := .glo "WeaveError") rfl)
  obtain ⟨x_WeaveError, f_WeaveError, e_WeaveError⟩ := xclsB_ok (c.xfact 23 rfl : xclsB K (ga K "WeaveError") (ga K "WeaveError") = true)
  have ini := ini_ok (P := PySem.Challenge.pw_treadplans_k00_errors_keep_their_value) iT c.ini (c.xfact 24 rfl : iniB PySem.Challenge.pw_treadplans_k00_errors_keep_their_value K (ga K "WeaveError") = true) (c.xfact 25 rfl) (c.xfact 26 rfl) (c.xfact 27 rfl) (by kernel_rfl)
  have xval : ∀ c : Str, c ∈ xcs → XfC K (He.ga K c) ∧ PySem.W.findIn K (.ref (He.ga K c)) "value" = some none := by
    intro x hx
    simp only [xcs, List.mem_cons, List.not_mem_nil, or_false] at hx
    rcases hx with rfl | rfl | rfl | rfl | rfl | rfl | rfl | rfl | rfl | rfl | rfl | rfl | rfl | rfl | rfl | rfl | rfl | rfl | rfl | rfl | rfl | rfl | rfl | rfl
    · exact ⟨f_WeaveError, x_WeaveError.noV⟩
    · exact ⟨f_BadPlan, x_BadPlan.noV⟩
    · exact ⟨f_BadPlace, x_BadPlace.noV⟩
    · exact ⟨f_BadNumber, x_BadNumber.noV⟩
    · exact ⟨f_BadDraft, x_BadDraft.noV⟩
    · exact ⟨f_BadEnd, x_BadEnd.noV⟩
    · exact ⟨f_BadPick, x_BadPick.noV⟩
    · exact ⟨f_BadName, x_BadName.noV⟩
    · exact ⟨f_BadRow, x_BadRow.noV⟩
    · exact ⟨f_BadThread, x_BadThread.noV⟩
    · exact ⟨f_BadBy, x_BadBy.noV⟩
    · exact ⟨f_BadPairs, x_BadPairs.noV⟩
    · exact ⟨f_TooMany, x_TooMany.noV⟩
    · exact ⟨f_BadSort, x_BadSort.noV⟩
    · exact ⟨f_BadSide, x_BadSide.noV⟩
    · exact ⟨f_BadPicture, x_BadPicture.noV⟩
    · exact ⟨f_NotNow, x_NotNow.noV⟩
    · exact ⟨f_BadPicks, x_BadPicks.noV⟩
    · exact ⟨f_NotWhole, x_NotWhole.noV⟩
    · exact ⟨f_NothingToUndo, x_NothingToUndo.noV⟩
    · exact ⟨f_NothingToRedo, x_NothingToRedo.noV⟩
    · exact ⟨f_BadText, x_BadText.noV⟩
    · exact ⟨f_BadJournal, x_BadJournal.noV⟩
    · exact ⟨f_BadLine, x_BadLine.noV⟩
  have xis : ∀ c : Str, c ∈ xcs → XisC K (He.ga K c) := fun y h => xisAll_ok (c.xfact 28 rfl : xisAll xcs K = true) h
  have is_BadBy : ∀ y : Str, y ∈ xcs → PySem.W.kitOne K (.ref (He.ga K y)) (.ref (He.ga K "BadBy")) = some (isa "BadBy" y) := fun y h => isaB_ok (c.xfact 29 rfl : isaB xcs "BadBy" (isa "BadBy") K = true) h
  have is_BadDraft : ∀ y : Str, y ∈ xcs → PySem.W.kitOne K (.ref (He.ga K y)) (.ref (He.ga K "BadDraft")) = some (isa "BadDraft" y) := fun y h => isaB_ok (c.xfact 30 rfl : isaB xcs "BadDraft" (isa "BadDraft") K = true) h
  have is_BadEnd : ∀ y : Str, y ∈ xcs → PySem.W.kitOne K (.ref (He.ga K y)) (.ref (He.ga K "BadEnd")) = some (isa "BadEnd" y) := fun y h => isaB_ok (c.xfact 31 rfl : isaB xcs "BadEnd" (isa "BadEnd") K = true) h
  have is_BadJournal : ∀ y : Str, y ∈ xcs → PySem.W.kitOne K (.ref (He.ga K y)) (.ref (He.ga K "BadJournal")) = some (isa "BadJournal" y) := fun y h => isaB_ok (c.xfact 32 rfl : isaB xcs "BadJournal" (isa "BadJournal") K = true) h
  have is_BadLine : ∀ y : Str, y ∈ xcs → PySem.W.kitOne K (.ref (He.ga K y)) (.ref (He.ga K "BadLine")) = some (isa "BadLine" y) := fun y h => isaB_ok (c.xfact 33 rfl : isaB xcs "BadLine" (isa "BadLine") K = true) h
  have is_BadName : ∀ y : Str, y ∈ xcs → PySem.W.kitOne K (.ref (He.ga K y)) (.ref (He.ga K "BadName")) = some (isa "BadName" y) := fun y h => isaB_ok (c.xfact 34 rfl : isaB xcs "BadName" (isa "BadName") K = true) h
  have is_BadNumber : ∀ y : Str, y ∈ xcs → PySem.W.kitOne K (.ref (He.ga K y)) (.ref (He.ga K "BadNumber")) = some (isa "BadNumber" y) := fun y h => isaB_ok (c.xfact 35 rfl : isaB xcs "BadNumber" (isa "BadNumber") K = true) h
  have is_BadPairs : ∀ y : Str, y ∈ xcs → PySem.W.kitOne K (.ref (He.ga K y)) (.ref (He.ga K "BadPairs")) = some (isa "BadPairs" y) := fun y h => isaB_ok (c.xfact 36 rfl : isaB xcs "BadPairs" (isa "BadPairs") K = true) h
  have is_BadPick : ∀ y : Str, y ∈ xcs → PySem.W.kitOne K (.ref (He.ga K y)) (.ref (He.ga K "BadPick")) = some (isa "BadPick" y) := fun y h => isaB_ok (c.xfact 37 rfl : isaB xcs "BadPick" (isa "BadPick") K = true) h
  have is_BadPicks : ∀ y : Str, y ∈ xcs → PySem.W.kitOne K (.ref (He.ga K y)) (.ref (He.ga K "BadPicks")) = some (isa "BadPicks" y) := fun y h => isaB_ok (c.xfact 38 rfl : isaB xcs "BadPicks" (isa "BadPicks") K = true) h
  have is_BadPicture : ∀ y : Str, y ∈ xcs → PySem.W.kitOne K (.ref (He.ga K y)) (.ref (He.ga K "BadPicture")) = some (isa "BadPicture" y) := fun y h => isaB_ok (c.xfact 39 rfl : isaB xcs "BadPicture" (isa "BadPicture") K = true) h
  have is_BadPlace : ∀ y : Str, y ∈ xcs → PySem.W.kitOne K (.ref (He.ga K y)) (.ref (He.ga K "BadPlace")) = some (isa "BadPlace" y) := fun y h => isaB_ok (c.xfact 40 rfl : isaB xcs "BadPlace" (isa "BadPlace") K = true) h
  have is_BadPlan : ∀ y : Str, y ∈ xcs → PySem.W.kitOne K (.ref (He.ga K y)) (.ref (He.ga K "BadPlan")) = some (isa "BadPlan" y) := fun y h => isaB_ok (c.xfact 41 rfl : isaB xcs "BadPlan" (isa "BadPlan") K = true) h
  have is_BadRow : ∀ y : Str, y ∈ xcs → PySem.W.kitOne K (.ref (He.ga K y)) (.ref (He.ga K "BadRow")) = some (isa "BadRow" y) := fun y h => isaB_ok (c.xfact 42 rfl : isaB xcs "BadRow" (isa "BadRow") K = true) h
  have is_BadSide : ∀ y : Str, y ∈ xcs → PySem.W.kitOne K (.ref (He.ga K y)) (.ref (He.ga K "BadSide")) = some (isa "BadSide" y) := fun y h => isaB_ok (c.xfact 43 rfl : isaB xcs "BadSide" (isa "BadSide") K = true) h
  have is_BadSort : ∀ y : Str, y ∈ xcs → PySem.W.kitOne K (.ref (He.ga K y)) (.ref (He.ga K "BadSort")) = some (isa "BadSort" y) := fun y h => isaB_ok (c.xfact 44 rfl : isaB xcs "BadSort" (isa "BadSort") K = true) h
  have is_BadText : ∀ y : Str, y ∈ xcs → PySem.W.kitOne K (.ref (He.ga K y)) (.ref (He.ga K "BadText")) = some (isa "BadText" y) := fun y h => isaB_ok (c.xfact 45 rfl : isaB xcs "BadText" (isa "BadText") K = true) h
  have is_BadThread : ∀ y : Str, y ∈ xcs → PySem.W.kitOne K (.ref (He.ga K y)) (.ref (He.ga K "BadThread")) = some (isa "BadThread" y) := fun y h => isaB_ok (c.xfact 46 rfl : isaB xcs "BadThread" (isa "BadThread") K = true) h
  have is_NotNow : ∀ y : Str, y ∈ xcs → PySem.W.kitOne K (.ref (He.ga K y)) (.ref (He.ga K "NotNow")) = some (isa "NotNow" y) := fun y h => isaB_ok (c.xfact 47 rfl : isaB xcs "NotNow" (isa "NotNow") K = true) h
  have is_NotWhole : ∀ y : Str, y ∈ xcs → PySem.W.kitOne K (.ref (He.ga K y)) (.ref (He.ga K "NotWhole")) = some (isa "NotWhole" y) := fun y h => isaB_ok (c.xfact 48 rfl : isaB xcs "NotWhole" (isa "NotWhole") K = true) h
  have is_NothingToRedo : ∀ y : Str, y ∈ xcs → PySem.W.kitOne K (.ref (He.ga K y)) (.ref (He.ga K "NothingToRedo")) = some (isa "NothingToRedo" y) := fun y h => isaB_ok (c.xfact 49 rfl : isaB xcs "NothingToRedo" (isa "NothingToRedo") K = true) h
  have is_NothingToUndo : ∀ y : Str, y ∈ xcs → PySem.W.kitOne K (.ref (He.ga K y)) (.ref (He.ga K "NothingToUndo")) = some (isa "NothingToUndo" y) := fun y h => isaB_ok (c.xfact 50 rfl : isaB xcs "NothingToUndo" (isa "NothingToUndo") K = true) h
  have is_TooMany : ∀ y : Str, y ∈ xcs → PySem.W.kitOne K (.ref (He.ga K y)) (.ref (He.ga K "TooMany")) = some (isa "TooMany" y) := fun y h => isaB_ok (c.xfact 51 rfl : isaB xcs "TooMany" (isa "TooMany") K = true) h
  have is_WeaveError : ∀ y : Str, y ∈ xcs → PySem.W.kitOne K (.ref (He.ga K y)) (.ref (He.ga K "WeaveError")) = some (isa "WeaveError" y) := fun y h => isaB_ok (c.xfact 52 rfl : isaB xcs "WeaveError" (isa "WeaveError") K = true) h
  have isT_ValueError : ∀ y : Str, y ∈ xcs → PySem.W.kitOne K (.ref (He.ga K y)) (.type "ValueError") = some (isaT y) := fun y h => isaTB_ok (c.xfact 53 rfl : isaTB xcs "ValueError" isaT K = true) h
  have sys : SysD K := sysB_ok (c.xfact 54 rfl : sysB K = true)
  have e := hfa.symm.trans h7
  cases e
  refine ⟨fd7, fun s v => FunD.bindsA (ps := ["script"]) F7 (fun _ _ _ _ _ _ us hl => match us, hl with | [_], _ => rfl) s [v] rfl, fun base _ _ => ?_⟩
  have G__law_take : Fn PySem.Challenge.pw_treadplans_k00_errors_keep_their_value w K mg base 1 "_law_take" ["pot", "upto"] m__law_take := ok__law_take F0 h0 nb
  have G__law_of : Fn PySem.Challenge.pw_treadplans_k00_errors_keep_their_value w K mg base 2 "_law_of" ["pot", "some"] m__law_of := ok__law_of F1 h1 G__law_take nb
  have G__law_odd : Fn PySem.Challenge.pw_treadplans_k00_errors_keep_their_value w K mg base 3 "_law_odd" ["pot"] m__law_odd := ok__law_odd F2 h2 G__law_of
  have G__law_all_of : Fn PySem.Challenge.pw_treadplans_k00_errors_keep_their_value w K mg base 2 "_law_all_of" ["one"] m__law_all_of := ok__law_all_of F3 h3 ini x_BadBy m_BadBy x_BadDraft m_BadDraft x_BadEnd m_BadEnd x_BadJournal m_BadJournal x_BadLine m_BadLine x_BadName m_BadName x_BadNumber m_BadNumber x_BadPairs m_BadPairs x_BadPick m_BadPick x_BadPicks m_BadPicks x_BadPicture m_BadPicture x_BadPlace m_BadPlace x_BadPlan m_BadPlan x_BadRow m_BadRow x_BadSide m_BadSide x_BadSort m_BadSort x_BadText m_BadText x_BadThread m_BadThread x_NotNow m_NotNow x_NotWhole m_NotWhole x_NothingToRedo m_NothingToRedo x_NothingToUndo m_NothingToUndo x_TooMany m_TooMany
  have G__law_kinds_of : Fn PySem.Challenge.pw_treadplans_k00_errors_keep_their_value w K mg base 1 "_law_kinds_of" ["error"] m__law_kinds_of := ok__law_kinds_of F4 h4 nb xis is_BadBy m_BadBy is_BadDraft m_BadDraft is_BadEnd m_BadEnd is_BadJournal m_BadJournal is_BadLine m_BadLine is_BadName m_BadName is_BadNumber m_BadNumber is_BadPairs m_BadPairs is_BadPick m_BadPick is_BadPicks m_BadPicks is_BadPicture m_BadPicture is_BadPlace m_BadPlace is_BadPlan m_BadPlan is_BadRow m_BadRow is_BadSide m_BadSide is_BadSort m_BadSort is_BadText m_BadText is_BadThread m_BadThread is_NotNow m_NotNow is_NotWhole m_NotWhole is_NothingToRedo m_NothingToRedo is_NothingToUndo m_NothingToUndo is_TooMany m_TooMany
  have G__law_right : Fn PySem.Challenge.pw_treadplans_k00_errors_keep_their_value w K mg base 4 "_law_right" ["pot"] m__law_right := ok__law_right F5 h5 G__law_odd G__law_all_of G__law_kinds_of nb ini x_WeaveError m_WeaveError xval xis is_WeaveError isT_ValueError sys
  have G__law_pot : Fn PySem.Challenge.pw_treadplans_k00_errors_keep_their_value w K mg base 1 "_law_pot" ["script", "number"] m__law_pot := ok__law_pot F6 h6 nb
  exact ok_law F7 h7 G__law_right G__law_pot nb
end K00
open PySem PySem.W PySem.Calls PyProof.Rows
theorem K00_holds (pure_ : ∀ ns : List Int, ns.length ≤ 63 → ∃ S', K00.m_law [.scr ns] [] = .ok (.sh (.bl true)) S') : PySem.Challenge.rw_treadplans_k00_errors_keep_their_value.Holds := by
  w_on; o_law
  refine HandSHeadRun.head_any (r := OpenLaw.row PySem.Challenge.rw_treadplans_k00_errors_keep_their_value) (q := view (OpenLaw.row PySem.Challenge.rw_treadplans_k00_errors_keep_their_value).prog [33]) (H := K00.hk) (ob := K00.ob) (M := 20000) (loose := K00.names) (d := HandSHeadRun.topDef (OpenLaw.row PySem.Challenge.rw_treadplans_k00_errors_keep_their_value).prog 33) (kwd := []) K00.ob_eq
    (by kernel_rfl) (fun s => by kernel_rfl) K00.run (by kernel_rfl) (by kernel_rfl) (by kernel_rfl) (by rfl) (by first | assumption | decide +kernel) (by decide +kernel) ⟨rfl, rfl, rfl, rfl, rfl, by decide +kernel⟩ ?hw ?hc
  case hw => w_witness2
  case hc =>
    refine Dn.walkG (l := PySem.Challenge.rw_treadplans_k00_errors_keep_their_value) (n := 63) (k := 5) (x := "script") rfl (by decide) (by kernel_rfl) ⟨rfl, by decide, by decide⟩ ?F
    intro w mg fL h Y G hmg0
    obtain ⟨K, KX, c⟩ := Y
    have hmg : mg ("law" : PySem.Str) = some (.ref fL) := by
      have e : (HandSHeadRun.topDef (OpenLaw.row PySem.Challenge.rw_treadplans_k00_errors_keep_their_value).prog 33).name = ("law" : PySem.Str) := by kernel_rfl
      rw [← e]
      exact hmg0
    obtain ⟨fd, hb, hF⟩ := K00.facts (w := w) KX G hmg c
    exact ⟨K, fd, K00.m_law, KX, hb, pure_, hF⟩
end

section
set_option maxHeartbeats 4000000
-- Q6
/-! Q6: the law -/
namespace Dn
open PySem PySem.Spec L2
namespace Q0
theorem three {k : Nat} {o1 t u : D} {S : List OD} (h1 : eqB2 o1 o1 = some true) (h2 : eqB2 t t = some true) (h3 : eqB2 u u = some true) :
    (gFor (gI asL (gV 1)) (fName 2) body) ⟨[some (.sh (.cell k)), some (.ow (.lst [o1, t, u])), none, none, none, none, none, none], S⟩ = .nx ⟨Env k (.sh (.lst [o1, t, u])) u none (some (.sh (.lst (excs u)))) (some (.sh (.int 22))) (some (.sh (.exc "BadLine" u))), S⟩ := by
  have f : ∀ (d : D) (x2 : Option RV) (x4 x5 x6 : Option RV), fName 2 d ⟨[some (.sh (.cell k)), some (.sh (.lst [o1, t, u])), x2, none, x4, x5, x6, none], S⟩ = some ⟨Env k (.sh (.lst [o1, t, u])) d none x4 x5 x6, S⟩ := fun _ _ _ _ _ => rfl
  have g : gI asL (gV 1) ⟨[some (.sh (.cell k)), some (.ow (.lst [o1, t, u])), none, none, none, none, none, none], S⟩ = .ok [o1, t, u] ⟨[some (.sh (.cell k)), some (.sh (.lst [o1, t, u])), none, none, none, none, none, none], S⟩ := rfl
  rw [gFor, g]
  simp only [Out.bindS]
  rw [gForL, f]
  simp only
  rw [body_ok h1 (.inl rfl)]
  simp only
  rw [gForL, f]
  simp only
  rw [body_ok h2 (.inr ⟨_, rfl⟩)]
  simp only
  rw [gForL, f]
  simp only
  rw [body_ok h3 (.inr ⟨_, rfl⟩)]
  rfl
theorem right_ok {S : List OD} {k n : Nat} (h : PotIn S k n) (hn : n + 10 < 1000000) : ∃ S', K00.m__law_right [.cell k] S = .ok (.sh (.bl true)) S' := by
  obtain ⟨o1, S1, e1, m1, p1⟩ := odd_in h (by omega)
  obtain ⟨o2, S2, e2, m2, p2⟩ := odd_in p1 (by omega)
  obtain ⟨o3, S3, e3, m3, p3⟩ := odd_in p2 (by omega)
  obtain ⟨o4, S4, e4, m4, p4⟩ := odd_in p3 (by omega)
  obtain ⟨s1, hs1⟩ := Option.isSome_iff_exists.mp (shown1 o1 m1)
  obtain ⟨s23, hs23⟩ := Option.isSome_iff_exists.mp (shown23 o1 m1)
  obtain ⟨st', el, es⟩ := last (k := k) (o1 := o1) (t := .tup [o2, .lst [o3]]) (u := .dct [(.str "a", o4)]) (z := .dct [(.str "a", o4)]) (x4 := some (.sh (.lst (excs (.dct [(.str "a", o4)]))))) (x5 := some (.sh (.int 22))) (x6 := some (.sh (.exc "BadLine" (.dct [(.str "a", o4)])))) (S := S4) hs1 hs23
  refine ⟨S4, ?_⟩
  unfold K00.m__law_right fm K00.g_law_right
  show outF (gSeq _ _ ⟨[some (.sh (.cell k)), none, none, none, none, none, none, none], S⟩) = _
  rw [gSeq, draws e1 e2 e3 e4]
  show outF (gSeq (gFor _ _ body) _ _) = _
  rw [gSeq, three (same1 o1 m1) (same2 o2 m2 o3 m3) (same3 o4 m4)]
  show outF (gSeq _ _ _) = _
  rw [gSeq, kept]
  show outF (gSeq _ _ _) = _
  rw [gSeq, el]
  show FOut.ok _ st'.S = _
  rw [es]
theorem one_ok {ns : List Int} {j : Int} {S : List OD} (h0 : 0 ≤ j) (h1 : j < 1000) : ∃ S', (frz (gFn K00.m__law_right (gLen 1 (gConsA (gCell (gFn K00.m__law_pot (gLen 2 (gConsA (frz (gV 0)) (gConsA (frz (gV 1)) gNilA))))) gNilA)))) ⟨[some (.sh (.scr ns)), some (.sh (.int j))], S⟩ = .ok (.bl true) ⟨[some (.sh (.scr ns)), some (.sh (.int j))], S'⟩ := by
  obtain ⟨a, b, e1, pa, pb, pb2⟩ := pot_ok (ns := ns) (S := S) h0 h1
  have hp : PotIn (S ++ [.lst [.int a, .int b, .int 0]]) S.length 0 := ⟨a, b, 0, by unfold Pot; simp, pa, pb, pb2, by decide, by decide⟩
  obtain ⟨S', e2⟩ := right_ok hp (by decide)
  refine ⟨S', ?_⟩
  simp [gCell, gFn, gLen, gConsA, gNilA, frz, gV, Out.bind, RV.fz, e1, e2, outE, cellR]
theorem law_ok (ns : List Int) (hl : ns.length ≤ 63) : ∃ S', K00.m_law [.scr ns] [] = .ok (.sh (.bl true)) S' := by
  obtain ⟨m, hm, h3⟩ : ∃ m : Int, (1 ≤ m ∧ m ≤ 3) ∧ (gRng1 (gConsA (frz (gCall max2D (gConsA (frz (gC (.int 1))) (gConsA (frz (gCall min2D (gConsA (frz (gC (.int 3))) (gConsA (frz (gCall lenD (gConsA (gN 0) gNilA))) gNilA)))) gNilA)))) gNilA)) ⟨[some (.sh (.scr ns)), none], []⟩ = .ok (upTo 0 m.toNat) ⟨[some (.sh (.scr ns)), none], []⟩ := by
    refine ⟨if (if (ns.length : Int) < 3 then (ns.length : Int) else 3) > 1 then (if (ns.length : Int) < 3 then (ns.length : Int) else 3) else 1, by split <;> split at * <;> omega, ?_⟩
    have i1 : lenD [.scr ns] = some (.sh (.int ns.length)) := rfl
    have i2 : min2D [.int 3, .int ns.length] = some (.sh (.int (if (ns.length : Int) < 3 then (ns.length : Int) else 3))) := rfl
    have i3 : max2D [.int 1, .int (if (ns.length : Int) < 3 then (ns.length : Int) else 3)] = some (.sh (.int (if (if (ns.length : Int) < 3 then (ns.length : Int) else 3) > 1 then (if (ns.length : Int) < 3 then (ns.length : Int) else 3) else 1))) := rfl
    generalize hb : (if (if (ns.length : Int) < 3 then (ns.length : Int) else 3) > 1 then (if (ns.length : Int) < 3 then (ns.length : Int) else 3) else 1) = b at *
    have bb : -(2 ^ 62) ≤ b ∧ b < 2 ^ 62 := by subst hb; split <;> split <;> omega
    generalize (if (ns.length : Int) < 3 then (ns.length : Int) else 3) = a at *
    simp only [gRng1, gCall, gConsA, gNilA, frz, gC, gN, Out.bind, RV.fz, opt, List.getElem?_cons_zero, i1, i2, i3]
    rw [if_pos bb]
  obtain ⟨xs, E, S', e, a, i⟩ := lc_spec (vs := [1]) (f := fName 1) (c := gYes) (e := (frz (gFn K00.m__law_right (gLen 1 (gConsA (gCell (gFn K00.m__law_pot (gLen 2 (gConsA (frz (gV 0)) (gConsA (frz (gV 1)) gNilA))))) gNilA))))) (st := ⟨[some (.sh (.scr ns)), none], []⟩) (fun _ E _ => E = [some (.sh (.scr ns)), none]) (fun _ x => x = .bl true) h3 (by rw [upTo_length, show sizeLine = 16777216 from rfl]; omega) rfl fun i z E S hz eE => by
    subst eE
    obtain ⟨j, rfl, h0, h1⟩ : ∃ j : Int, z = .int j ∧ 0 ≤ j ∧ j < 1000 := by
      have hm' := List.mem_of_getElem? hz
      obtain ⟨q, hq, rfl⟩ := List.mem_map.mp hm'
      have := List.mem_range.mp hq
      exact ⟨_, rfl, by omega, by omega⟩
    obtain ⟨S', e⟩ := one_ok (ns := ns) (S := S) h0 h1
    exact ⟨_, _, .bl true, _, rfl, rfl, e, rfl, rfl⟩
  subst i
  refine ⟨S', ?_⟩
  unfold K00.m_law fm K00.glaw
  show outF (gSeq (gRet (gCall _ (gConsA (frz _) _))) _ ⟨[some (.sh (.scr ns)), none], []⟩) = _
  simp only [gSeq, gRet, gCall, gConsA, gNilA, frz, e, Out.bind, Out.bindS, RV.fz, OD.fz, opt, all_true (fun x hx => (a.mem hx).choose_spec.2), outF]
end Q0
end Dn
end

theorem PySem.Challenge.cw_treadplans_k00_errors_keep_their_value_holds : PySem.Challenge.rw_treadplans_k00_errors_keep_their_value.Holds := by
  exact K00_holds Dn.Q0.law_ok
