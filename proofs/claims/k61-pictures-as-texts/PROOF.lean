import PyProof.Rows.All
import Wide.All
import OpenK.AllK
import Wide.FinOn
import PySem.Challenge.RW_treadplans_k61_pictures_as_texts
import HandS.ForMost
import HandS.Exc
import HandS.HeadHook2
import HandS.TupAny
import HandS.TupMul
import HandS.TupLe
import HandS.Codes
import HandS.Wide
import HandS.Style
import HandS.HeadEnd
import HandS.Defaults
import HandS.CallLocal
import HandS.IsInst
import HandS.ExcInit
import HandS.ExcOwn
import KE.KExcSuper
import KE.KSuper
import HandS.ExcField
import HandS.ExcValue
import PyProof.Rows.Chain
import PyProof.StrLawsRepr
import KE.KStateDown
import HandS.Head0
import HandS.Head1
import HandS.Head2
import HandS.HeadHook1
set_option Elab.async false
set_option linter.all false
set_option maxRecDepth 100000
section
set_option maxHeartbeats 4000000
-- Dn1
/-! Dn1: deep values, who owns an address, what a value says of the heap -/
namespace Dn
open PySem PySem.Spec PyProof.Rows L2

/-- deep values -/
inductive D where
  | non
  | bl (b : Bool)
  | int (i : Int)
  | str (x : Str)
  | tup (xs : List D)
  | lst (xs : List D)
  | dct (kvs : List (D × D))
  | ins (c : Str) (fs : List (Str × D))
  | exc (c : Str) (v : D)
  | cell (k : Nat)
  | scr (ns : List Int)

/-- objects that are still written -/
inductive OD where
  | lst (xs : List D)
  | dct (kvs : List (D × D))
  | ins (c : Str) (fs : List (Str × D))
def OD.fz : OD → D
  | .lst xs => .lst xs
  | .dct kvs => .dct kvs
  | .ins c fs => .ins c fs
/-- what an expression gives, what a slot holds: shared data, or an object of one's own -/
inductive RV where
  | sh (d : D)
  | ow (o : OD)
def RV.fz : RV → D
  | .sh d => d
  | .ow o => o.fz

/-- who owns an address: no one of ours, the frozen data, a cell of the store, a slot of the frame -/
inductive Tag where
  | non | frz | cell (k : Nat) | slot (i : Nat)
  deriving DecidableEq
abbrev Tags := Addr → Tag
def fz (t : Tags) (H : Hp) : Hp := fun a => if t a = .frz then H a else none
def rho (t : Tags) : Nat → Addr → Prop := fun k a => t a = .cell k
def setT (t : Tags) (a : Addr) (x : Tag) : Tags := fun b => if b = a then x else t b
theorem setT_same {t : Tags} {a : Addr} {x : Tag} : setT t a x a = x := if_pos rfl
theorem setT_ne {t : Tags} {a b : Addr} {x : Tag} (h : b ≠ a) : setT t a x b = t b := if_neg h
theorem fz_of {t : Tags} {H : Hp} {a : Addr} (h : t a = .frz) : fz t H a = H a := if_pos h
theorem of_fz {t : Tags} {H : Hp} {a : Addr} {o : HO} (h : fz t H a = some o) : t a = .frz ∧ H a = some o := by
  unfold fz at h
  split at h
  · exact ⟨by assumption, h⟩
  · cases h

/-- an exception of the class cls held as a value, its own dict at d -/
def ExH (cls : Value) (d a : Addr) : HO := .ext fun h => ∃ (oe : Obj) (vs : Array Value), h.get? a = some oe ∧ oe.cls = cls ∧ oe.dict = some d ∧ oe.data = .fields vs

mutual
/-- the value v says d over the frozen part F -/
def Dat (K : PySem.W.Frag) (F : Hp) (r : Nat → Addr → Prop) : D → V → Prop
  | .non => fun v => v = .non
  | .bl b => fun v => v = .bl b
  | .int i => fun v => v = .int i
  | .str x => fun v => v = .str x
  | .tup xs => fun v => ∃ a vs, v = .ref a ∧ SqT K F a vs ∧ Dats K F r xs vs
  | .lst xs => fun v => ∃ a vs, v = .ref a ∧ F a = some (.lst vs) ∧ Dats K F r xs vs
  | .dct kvs => fun v => ∃ a ks, v = .ref a ∧ Rd F a (.dK ks) ∧ Datk K F r kvs ks
  | .ins c fs => fun v => ∃ a dx us, v = .ref a ∧ F a = some (.ins (He.ga K c) dx us) ∧ Datf K F r fs us
  | .exc c x => fun v => ∃ a d u, v = .ref a ∧ F a = some (ExH (.ref (He.ga K c)) d a) ∧ F d = some (.xd [("value", u)]) ∧ Dat K F r x u
  | .cell k => fun v => ∃ a, v = .ref a ∧ r k a
  | .scr ns => fun v => ∃ a, v = .ref a ∧ SqL K F a (ns.map V.int)
def Dats (K : PySem.W.Frag) (F : Hp) (r : Nat → Addr → Prop) : List D → List V → Prop
  | [] => fun vs => vs = []
  | d :: ds => fun vs => ∃ v us, vs = v :: us ∧ Dat K F r d v ∧ Dats K F r ds us
def Datk (K : PySem.W.Frag) (F : Hp) (r : Nat → Addr → Prop) : List (D × D) → List (Key × V) → Prop
  | [] => fun ks => ks = []
  | (k, d) :: kvs => fun ks => ∃ (kk : Key) (v : V) (us : List (Key × V)), ks = (kk, v) :: us ∧ Dat K F r k (kV kk) ∧ Dat K F r d v ∧ Datk K F r kvs us
def Datf (K : PySem.W.Frag) (F : Hp) (r : Nat → Addr → Prop) : List (Str × D) → List (Str × V) → Prop
  | [] => fun us => us = []
  | (x, d) :: fs => fun us => ∃ (v : V) (qs : List (Str × V)), us = (x, v) :: qs ∧ Dat K F r d v ∧ Datf K F r fs qs
end

/-- the heap has grown -/
def Le (F F' : Hp) : Prop := ∀ a o, F a = some o → F' a = some o
theorem Le.refl (F : Hp) : Le F F := fun _ _ h => h
theorem Le.trans {F G J : Hp} (a : Le F G) (b : Le G J) : Le F J := fun c o h => b c o (a c o h)
theorem Le.rd {F F' : Hp} (l : Le F F') {a : Addr} {u : HO} (h : Rd F a u) : Rd F' a u := by
  rcases h with h | ⟨o, h⟩
  · exact .inl (l _ _ h)
  · exact .inr ⟨o, l _ _ h⟩
theorem Le.sqT {K : PySem.W.Frag} {F F' : Hp} (l : Le F F') {a : Addr} {vs : List V} (h : SqT K F a vs) : SqT K F' a vs := by
  rcases h with h | h
  · exact .inl (l.rd h)
  · exact .inr h
theorem Le.sqL {K : PySem.W.Frag} {F F' : Hp} (l : Le F F') {a : Addr} {vs : List V} (h : SqL K F a vs) : SqL K F' a vs := by
  rcases h with h | h
  · exact .inl (l.rd h)
  · exact .inr h
section
variable {K : PySem.W.Frag} {F F' : Hp} {r r' : Nat → Addr → Prop}
mutual
theorem Dat.mono (l : Le F F') (q : ∀ k a, r k a → r' k a) : ∀ {d : D} {v : V}, Dat K F r d v → Dat K F' r' d v
  | .non, v, h => by rw [Dat] at h ⊢; exact h
  | .bl b, v, h => by rw [Dat] at h ⊢; exact h
  | .int b, v, h => by rw [Dat] at h ⊢; exact h
  | .str b, v, h => by rw [Dat] at h ⊢; exact h
  | .tup xs, v, h => by
    rw [Dat] at h ⊢
    obtain ⟨a, vs, e, s, m⟩ := h
    exact ⟨a, vs, e, l.sqT s, Dats.mono l q m⟩
  | .lst xs, v, h => by
    rw [Dat] at h ⊢
    obtain ⟨a, vs, e, s, m⟩ := h
    exact ⟨a, vs, e, l _ _ s, Dats.mono l q m⟩
  | .dct kvs, v, h => by
    rw [Dat] at h ⊢
    obtain ⟨a, ks, e, s, m⟩ := h
    exact ⟨a, ks, e, l.rd s, Datk.mono l q m⟩
  | .ins c fs, v, h => by
    rw [Dat] at h ⊢
    obtain ⟨a, dx, us, e, s, m⟩ := h
    exact ⟨a, dx, us, e, l _ _ s, Datf.mono l q m⟩
  | .exc c x, v, h => by
    rw [Dat] at h ⊢
    obtain ⟨a, d, u, e, s, t, m⟩ := h
    exact ⟨a, d, u, e, l _ _ s, l _ _ t, Dat.mono l q m⟩
  | .cell k, v, h => by
    rw [Dat] at h ⊢
    obtain ⟨a, e, s⟩ := h
    exact ⟨a, e, q _ _ s⟩
  | .scr ns, v, h => by
    rw [Dat] at h ⊢
    obtain ⟨a, e, s⟩ := h
    exact ⟨a, e, l.sqL s⟩
theorem Dats.mono (l : Le F F') (q : ∀ k a, r k a → r' k a) : ∀ {ds : List D} {vs : List V}, Dats K F r ds vs → Dats K F' r' ds vs
  | [], vs, h => by rw [Dats] at h ⊢; exact h
  | d :: ds, vs, h => by
    rw [Dats] at h ⊢
    obtain ⟨v, us, e, m, n⟩ := h
    exact ⟨v, us, e, Dat.mono l q m, Dats.mono l q n⟩
theorem Datk.mono (l : Le F F') (q : ∀ k a, r k a → r' k a) : ∀ {ds : List (D × D)} {vs : List (Key × V)}, Datk K F r ds vs → Datk K F' r' ds vs
  | [], vs, h => by rw [Datk] at h ⊢; exact h
  | (k, d) :: ds, vs, h => by
    rw [Datk] at h ⊢
    obtain ⟨kk, v, us, e, m, n, p⟩ := h
    exact ⟨kk, v, us, e, Dat.mono l q m, Dat.mono l q n, Datk.mono l q p⟩
theorem Datf.mono (l : Le F F') (q : ∀ k a, r k a → r' k a) : ∀ {ds : List (Str × D)} {vs : List (Str × V)}, Datf K F r ds vs → Datf K F' r' ds vs
  | [], vs, h => by rw [Datf] at h ⊢; exact h
  | (x, d) :: ds, vs, h => by
    rw [Datf] at h ⊢
    obtain ⟨v, us, e, m, n⟩ := h
    exact ⟨v, us, e, Dat.mono l q m, Datf.mono l q n⟩
end
end
end Dn
end

section
set_option maxHeartbeats 4000000
-- Dn2
/-! Dn2: states, how they grow -/
namespace Dn
open PySem PySem.Spec PyProof.Rows L2

/-- a state of the plain side: the frame's slots, the store -/
structure DSt where
  env : List (Option RV)
  S : List OD

/-- an object of one's own stands at a -/
def ObjAt (K : PySem.W.Frag) (F : Hp) (r : Nat → Addr → Prop) (H : Hp) (a : Addr) : OD → Prop
  | .lst xs => ∃ vs, H a = some (.lst vs) ∧ Dats K F r xs vs
  | .dct kvs => ∃ ks, H a = some (.dK ks) ∧ Datk K F r kvs ks
  | .ins c fs => ∃ dx us, H a = some (.ins (He.ga K c) dx us) ∧ Datf K F r fs us
theorem ObjAt.mono {K : PySem.W.Frag} {F F' : Hp} {r r' : Nat → Addr → Prop} {H H' : Hp} {a : Addr} (l : Le F F') (q : ∀ k a, r k a → r' k a) (e : ∀ o, H a = some o → H' a = some o) : ∀ {o : OD}, ObjAt K F r H a o → ObjAt K F' r' H' a o
  | .lst _, ⟨vs, h, m⟩ => ⟨vs, e _ h, m.mono l q⟩
  | .dct _, ⟨ks, h, m⟩ => ⟨ks, e _ h, m.mono l q⟩
  | .ins _ _, ⟨dx, us, h, m⟩ => ⟨dx, us, e _ h, m.mono l q⟩
theorem ObjAt.there {K : PySem.W.Frag} {F : Hp} {r : Nat → Addr → Prop} {H : Hp} {a : Addr} : ∀ {o : OD}, ObjAt K F r H a o → H a ≠ none
  | .lst _, ⟨vs, h, m⟩ => by rw [h]; exact nofun
  | .dct _, ⟨ks, h, m⟩ => by rw [h]; exact nofun
  | .ins _ _, ⟨dx, us, h, m⟩ => by rw [h]; exact nofun
/-- laid down for good -/
theorem ObjAt.dat {K : PySem.W.Frag} {F : Hp} {r : Nat → Addr → Prop} {H : Hp} {a : Addr} (e : ∀ o, H a = some o → F a = some o) : ∀ {o : OD}, ObjAt K F r H a o → Dat K F r o.fz (.ref a)
  | .lst xs, ⟨vs, h, m⟩ => by rw [OD.fz, Dat]; exact ⟨a, vs, rfl, e _ h, m⟩
  | .dct kvs, ⟨ks, h, m⟩ => by rw [OD.fz, Dat]; exact ⟨a, ks, rfl, .inl (e _ h), m⟩
  | .ins c fs, ⟨dx, us, h, m⟩ => by rw [OD.fz, Dat]; exact ⟨a, dx, us, rfl, e _ h, m⟩

structure R0 (K : PySem.W.Frag) (t : Tags) (S : List OD) (H : Hp) : Prop where
  tag : ∀ a, t a ≠ .non → H a ≠ none
  cel : ∀ (k : Nat) (o : OD), S[k]? = some o → ∃ a, t a = .cell k ∧ (∀ b, t b = .cell k → b = a) ∧ ObjAt K (fz t H) (rho t) H a o
  lt : ∀ a k, t a = .cell k → k < S.length
def SlotIs (K : PySem.W.Frag) (t : Tags) (H : Hp) (i : Nat) : RV → V → Prop
  | .sh d, v => Dat K (fz t H) (rho t) d v
  | .ow o, v => ∃ a, v = .ref a ∧ t a = .slot i ∧ ObjAt K (fz t H) (rho t) H a o
/-- the plain state and the walked one -/
structure R (K : PySem.W.Frag) (t : Tags) (st : DSt) (σ : L2.St) (H : Hp) : Prop where
  r0 : R0 K t st.S H
  len : st.env.length = σ.length
  env : ∀ (i : Nat) (x : RV), st.env[i]? = some (some x) → ∃ v, σ[i]? = some (some v) ∧ SlotIs K t H i x v

/-- how tags and heap go on -/
structure Ext (t : Tags) (H : Hp) (t' : Tags) (H' : Hp) : Prop where
  frz : ∀ a, t a = .frz → t' a = .frz ∧ H' a = H a
  cel : ∀ a k, t a = .cell k → t' a = .cell k
  oth : ∀ a o, t a = .non → H a = some o → t' a = .non ∧ H' a = some o
  slt : ∀ a i o, t a = .slot i → H a = some o → H' a = some o ∧ ∀ k, t' a ≠ .cell k
theorem Ext.refl (t : Tags) (H : Hp) : Ext t H t H := ⟨fun _ h => ⟨h, rfl⟩, fun _ _ h => h, fun _ _ h e => ⟨h, e⟩, fun a i o h e => ⟨e, fun k => by rw [h]; exact nofun⟩⟩
/-- .. by a statement: what stands in slots may be written -/
structure ExtW (t : Tags) (H : Hp) (t' : Tags) (H' : Hp) : Prop where
  frz : ∀ a, t a = .frz → t' a = .frz ∧ H' a = H a
  cel : ∀ a k, t a = .cell k → t' a = .cell k
  oth : ∀ a o, t a = .non → H a = some o → t' a = .non ∧ H' a = some o
theorem Ext.w {t t1 : Tags} {H H1 : Hp} (a : Ext t H t1 H1) : ExtW t H t1 H1 := ⟨a.frz, a.cel, a.oth⟩
theorem ExtW.refl (t : Tags) (H : Hp) : ExtW t H t H := (Ext.refl t H).w
theorem ExtW.trans {t t1 t2 : Tags} {H H1 H2 : Hp} (a : ExtW t H t1 H1) (b : ExtW t1 H1 t2 H2) : ExtW t H t2 H2 where
  frz := fun c h => by
    obtain ⟨h1, e1⟩ := a.frz c h
    obtain ⟨h2, e2⟩ := b.frz c h1
    exact ⟨h2, e2.trans e1⟩
  cel := fun c k h => b.cel c k (a.cel c k h)
  oth := fun c o h e => by
    obtain ⟨h1, e1⟩ := a.oth c o h e
    exact b.oth c o h1 e1
theorem ExtW.le {t t1 : Tags} {H H1 : Hp} (a : ExtW t H t1 H1) : Le (fz t H) (fz t1 H1) := fun c o h => by
  obtain ⟨h1, h2⟩ := of_fz h
  obtain ⟨h3, h4⟩ := a.frz c h1
  rw [fz_of h3, h4, h2]
theorem ExtW.rh {t t1 : Tags} {H H1 : Hp} (a : ExtW t H t1 H1) : ∀ k c, rho t k c → rho t1 k c := fun k c h => a.cel c k h
theorem Ext.trans {t t1 t2 : Tags} {H H1 H2 : Hp} (a : Ext t H t1 H1) (b : Ext t1 H1 t2 H2) : Ext t H t2 H2 where
  frz := fun c h => by
    obtain ⟨h1, e1⟩ := a.frz c h
    obtain ⟨h2, e2⟩ := b.frz c h1
    exact ⟨h2, e2.trans e1⟩
  cel := fun c k h => b.cel c k (a.cel c k h)
  oth := fun c o h e => by
    obtain ⟨h1, e1⟩ := a.oth c o h e
    exact b.oth c o h1 e1
  slt := fun c i o h e => by
    obtain ⟨e1, n1⟩ := a.slt c i o h e
    cases q : t1 c with
    | non =>
      obtain ⟨h2, e2⟩ := b.oth c o q e1
      exact ⟨e2, fun k => by rw [h2]; exact nofun⟩
    | frz =>
      obtain ⟨h2, e2⟩ := b.frz c q
      exact ⟨e2.trans e1, fun k => by rw [h2]; exact nofun⟩
    | cell k => exact absurd q (n1 k)
    | slot j => exact b.slt c j o q e1
theorem Ext.le {t t1 : Tags} {H H1 : Hp} (a : Ext t H t1 H1) : Le (fz t H) (fz t1 H1) := fun c o h => by
  obtain ⟨h1, h2⟩ := of_fz h
  obtain ⟨h3, h4⟩ := a.frz c h1
  rw [fz_of h3, h4, h2]
theorem Ext.rh {t t1 : Tags} {H H1 : Hp} (a : Ext t H t1 H1) : ∀ k c, rho t k c → rho t1 k c := fun k c h => a.cel c k h
theorem Ext.dat {K : PySem.W.Frag} {t t1 : Tags} {H H1 : Hp} (a : Ext t H t1 H1) {d : D} {v : V} (h : Dat K (fz t H) (rho t) d v) : Dat K (fz t1 H1) (rho t1) d v := h.mono a.le a.rh
theorem Ext.dats {K : PySem.W.Frag} {t t1 : Tags} {H H1 : Hp} (a : Ext t H t1 H1) {d : List D} {v : List V} (h : Dats K (fz t H) (rho t) d v) : Dats K (fz t1 H1) (rho t1) d v := h.mono a.le a.rh

/-- a value just made: shared, or an object that no one else holds -/
def IsRV (K : PySem.W.Frag) (t : Tags) (H : Hp) (t' : Tags) (H' : Hp) : RV → V → Prop
  | .sh d, v => Dat K (fz t' H') (rho t') d v
  | .ow o, v => ∃ a, v = .ref a ∧ (t a = .non → H a = none) ∧ t' a = .non ∧ ObjAt K (fz t' H') (rho t') H' a o

section
variable {K : PySem.W.Frag} {t t' : Tags} {H H' : Hp} {st : DSt} {σ : L2.St} {S : List OD}
theorem le_retag {a : Addr} (n : t a ≠ .frz) : Le (fz t H) (fz (setT t a .frz) H) := fun b o h => by
  obtain ⟨h1, h2⟩ := of_fz h
  have ne : b ≠ a := fun e => n (e ▸ h1)
  rw [fz_of (by rw [setT_ne ne]; exact h1)]
  exact h2
theorem rho_retag {a : Addr} {x : Tag} (n : ∀ k, t a ≠ .cell k) : ∀ k b, rho t k b → rho (setT t a x) k b := fun k b h => by
  have ne : b ≠ a := fun e => n k (e ▸ h)
  show setT t a x b = _
  rw [setT_ne ne]
  exact h
/-- an object of no one's (or of a slot that is not read) is frozen -/
theorem R0.freeze {a : Addr} (r : R0 K t S H) (n : t a ≠ .frz) (c : ∀ k, t a ≠ .cell k) (hs : H a ≠ none) : R0 K (setT t a .frz) S H where
  tag := fun b h => by
    by_cases e : b = a
    · rw [e]; exact hs
    · rw [setT_ne e] at h; exact r.tag b h
  cel := fun k o h => by
    obtain ⟨b, h1, h2, h3⟩ := r.cel k o h
    have ne : b ≠ a := fun e => c k (e ▸ h1)
    refine ⟨b, by rw [setT_ne ne]; exact h1, fun b' hb' => ?_, h3.mono (le_retag n) (rho_retag c) fun _ h => h⟩
    by_cases e : b' = a
    · rw [e, setT_same] at hb'; cases hb'
    · rw [setT_ne e] at hb'; exact h2 b' hb'
  lt := fun b k h => by
    by_cases e : b = a
    · rw [e, setT_same] at h; cases h
    · rw [setT_ne e] at h; exact r.lt b k h
theorem SlotIs.freeze {a : Addr} {i : Nat} {x : RV} {v : V} (n : t a ≠ .frz) (c : ∀ k, t a ≠ .cell k) (ns : t a ≠ .slot i) (h : SlotIs K t H i x v) : SlotIs K (setT t a .frz) H i x v := by
  cases x with
  | sh d => exact Dat.mono (le_retag n) (rho_retag c) h
  | ow o =>
    obtain ⟨b, e, h1, h2⟩ := h
    have ne : b ≠ a := fun e => ns (e ▸ h1)
    exact ⟨b, e, by rw [setT_ne ne]; exact h1, h2.mono (le_retag n) (rho_retag c) fun _ h => h⟩
theorem R.freeze {a : Addr} (r : R K t st σ H) (n : t a = .non) (hs : H a ≠ none) : R K (setT t a .frz) st σ H where
  r0 := r.r0.freeze (by rw [n]; exact nofun) (fun k => by rw [n]; exact nofun) hs
  len := r.len
  env := fun i x h => by
    obtain ⟨v, e, q⟩ := r.env i x h
    exact ⟨v, e, q.freeze (by rw [n]; exact nofun) (fun k => by rw [n]; exact nofun) (by rw [n]; exact nofun)⟩
/-- a value that was just made is laid down for good -/
theorem IsRV.freeze {x : RV} {v : V} (E : Ext t H t' H') (r : R K t' st σ H') (h : IsRV K t H t' H' x v) :
    ∃ t2, Ext t H t2 H' ∧ R K t2 st σ H' ∧ Dat K (fz t2 H') (rho t2) x.fz v := by
  cases x with
  | sh d => exact ⟨t', E, r, h⟩
  | ow o =>
    obtain ⟨a, rfl, h1, h2, h3⟩ := h
    have hs := h3.there
    refine ⟨setT t' a .frz, ⟨fun b hb => ?_, fun b k hb => ?_, fun b ob hb e => ?_, fun b i ob hb e => ?_⟩, r.freeze h2 hs, ?_⟩
    · obtain ⟨q1, q2⟩ := E.frz b hb
      have ne : b ≠ a := fun e => by rw [e, h2] at q1; cases q1
      exact ⟨by rw [setT_ne ne]; exact q1, q2⟩
    · have q := E.cel b k hb
      have ne : b ≠ a := fun e => by rw [e, h2] at q; cases q
      rw [setT_ne ne]; exact q
    · have ne : b ≠ a := fun e' => by
        subst e'
        rw [h1 hb] at e; cases e
      obtain ⟨q1, q2⟩ := E.oth b ob hb e
      exact ⟨by rw [setT_ne ne]; exact q1, q2⟩
    · obtain ⟨q1, q2⟩ := E.slt b i ob hb e
      refine ⟨q1, fun k => ?_⟩
      by_cases ne : b = a
      · rw [ne, setT_same]; exact nofun
      · rw [setT_ne ne]; exact q2 k
    · have nf : t' a ≠ .frz := by rw [h2]; exact nofun
      have nc : ∀ k, t' a ≠ .cell k := fun k => by rw [h2]; exact nofun
      exact ObjAt.dat (fun ob e => by rw [fz_of setT_same]; exact e) (h3.mono (le_retag nf) (rho_retag nc) fun _ h => h)

/-- the heap grows -/
theorem le_grow (l : Le H H') : Le (fz t H) (fz t H') := fun a o h => by
  obtain ⟨h1, h2⟩ := of_fz h
  rw [fz_of h1]
  exact l a o h2
theorem R0.grow (r : R0 K t S H) (l : Le H H') : R0 K t S H' where
  tag := fun a h e => by
    cases q : H a with
    | none => exact r.tag a h q
    | some o => rw [l a o q] at e; cases e
  cel := fun k o h => by
    obtain ⟨b, h1, h2, h3⟩ := r.cel k o h
    exact ⟨b, h1, h2, h3.mono (le_grow l) (fun _ _ h => h) fun o h => l _ o h⟩
  lt := r.lt
theorem R.grow (r : R K t st σ H) (l : Le H H') : R K t st σ H' where
  r0 := r.r0.grow l
  len := r.len
  env := fun i x h => by
    obtain ⟨v, e, q⟩ := r.env i x h
    refine ⟨v, e, ?_⟩
    cases x with
    | sh d => exact Dat.mono (le_grow l) (fun _ _ h => h) q
    | ow o =>
      obtain ⟨b, e, h1, h2⟩ := q
      exact ⟨b, e, h1, h2.mono (le_grow l) (fun _ _ h => h) fun o h => l _ o h⟩
theorem Ext.grow (tg : ∀ a, t a ≠ .non → H a ≠ none) (l : Le H H') : Ext t H t H' where
  frz := fun a h => ⟨h, by
    cases q : H a with
    | none => exact absurd q (tg a (by rw [h]; exact nofun))
    | some o => exact l a o q⟩
  cel := fun _ _ h => h
  oth := fun a o h e => ⟨h, l a o e⟩
  slt := fun a i o h e => ⟨l a o e, fun k => by rw [h]; exact nofun⟩
theorem le_upd {a : Addr} {o : HO} (h : H a = none) : Le H (upd H a o) := fun b u e => by rw [upd_ne (ne_of_none e h)]; exact e
theorem R.non (r : R K t st σ H) {a : Addr} (h : H a = none) : t a = .non := by
  by_cases e : t a = .non
  · exact e
  · exact absurd h (r.r0.tag a e)
theorem R0.non (r : R0 K t S H) {a : Addr} (h : H a = none) : t a = .non := by
  by_cases e : t a = .non
  · exact e
  · exact absurd h (r.tag a e)
/-- a new object is laid and frozen -/
theorem R.alloc (r : R K t st σ H) {a : Addr} {o : HO} (h : H a = none) :
    Ext t H (setT t a .frz) (upd H a o) ∧ R K (setT t a .frz) st σ (upd H a o) ∧ fz (setT t a .frz) (upd H a o) a = some o := by
  have n := r.non h
  have r1 := r.grow (le_upd (o := o) h)
  refine ⟨⟨fun b hb => ?_, fun b k hb => ?_, fun b u hb e => ?_, fun b i u hb e => ?_⟩, r1.freeze n (by rw [upd_same]; exact nofun), by rw [fz_of setT_same, upd_same]⟩
  · have ne : b ≠ a := fun e => by rw [e, n] at hb; cases hb
    exact ⟨by rw [setT_ne ne]; exact hb, upd_ne ne⟩
  · have ne : b ≠ a := fun e => by rw [e, n] at hb; cases hb
    rw [setT_ne ne]; exact hb
  · have ne : b ≠ a := fun q => by rw [q, h] at e; cases e
    exact ⟨by rw [setT_ne ne]; exact hb, by rw [upd_ne ne]; exact e⟩
  · have ne : b ≠ a := fun q => by rw [q, h] at e; cases e
    exact ⟨by rw [upd_ne ne]; exact e, fun k => by rw [setT_ne ne, hb]; exact nofun⟩
/-- .. laid, and no one's yet -/
theorem R.laid (r : R K t st σ H) {a : Addr} {o : HO} (h : H a = none) : Ext t H t (upd H a o) ∧ R K t st σ (upd H a o) ∧ t a = .non :=
  ⟨Ext.grow r.r0.tag (le_upd h), r.grow (le_upd h), r.non h⟩
end
end Dn
end

section
set_option maxHeartbeats 4000000
-- Dn3
/-! Dn3: plain results, the one reading of every expression -/
namespace Dn
open PySem PySem.Spec L2

inductive Out (α : Type) where
  | ok (a : α) (st : DSt)
  | ex (c : Str) (v : D) (st : DSt)
  | no
def Out.bind {α β : Type} : Out α → (α → DSt → Out β) → Out β
  | .ok a st, f => f a st
  | .ex c v st, _ => .ex c v st
  | .no, _ => .no
abbrev DE := DSt → Out RV
abbrev DZ := DSt → Out D
def frz (g : DE) : DZ := fun st => (g st).bind fun r st => .ok r.fz st

/-- an exception's own dict -/
def ExAt (K : PySem.W.Frag) (t : Tags) (H : Hp) (d : Addr) (x : D) : Prop := ∃ u, H d = some (.xd [("value", u)]) ∧ t d = .frz ∧ Dat K (fz t H) (rho t) x u

/-- what a value says, the outermost object perhaps still one's own -/
def NC (t : Tags) (a : Addr) : Prop := ∀ k, t a ≠ .cell k
def Vw (K : PySem.W.Frag) (t : Tags) (H : Hp) : D → V → Prop
  | .non, v => v = .non
  | .bl b, v => v = .bl b
  | .int i, v => v = .int i
  | .str x, v => v = .str x
  | .tup xs, v => ∃ a vs, v = .ref a ∧ SqT K (fz t H) a vs ∧ Dats K (fz t H) (rho t) xs vs
  | .lst xs, v => ∃ a vs, v = .ref a ∧ H a = some (.lst vs) ∧ NC t a ∧ Dats K (fz t H) (rho t) xs vs
  | .dct kvs, v => ∃ a ks, v = .ref a ∧ Rd H a (.dK ks) ∧ NC t a ∧ Datk K (fz t H) (rho t) kvs ks
  | .ins c fs, v => ∃ a dx us, v = .ref a ∧ H a = some (.ins (He.ga K c) dx us) ∧ NC t a ∧ Datf K (fz t H) (rho t) fs us
  | .exc c x, v => Dat K (fz t H) (rho t) (.exc c x) v
  | .cell k, v => Dat K (fz t H) (rho t) (.cell k) v
  | .scr ns, v => ∃ a, v = .ref a ∧ SqL K (fz t H) a (ns.map V.int)
theorem nc_frz {t : Tags} {a : Addr} (h : t a = .frz) : NC t a := fun k => by rw [h]; exact nofun
theorem Vw.of {K : PySem.W.Frag} {t : Tags} {H : Hp} {d : D} {v : V} (h : Dat K (fz t H) (rho t) d v) : Vw K t H d v := by
  cases d with
  | exc c x => exact h
  | cell k => exact h
  | lst xs =>
    rw [Dat] at h
    obtain ⟨a, vs, e, s, m⟩ := h
    exact ⟨a, vs, e, (of_fz s).2, nc_frz (of_fz s).1, m⟩
  | dct kvs =>
    rw [Dat] at h
    obtain ⟨a, ks, e, s, m⟩ := h
    rcases s with s | ⟨o, s⟩
    · exact ⟨a, ks, e, .inl (of_fz s).2, nc_frz (of_fz s).1, m⟩
    · exact ⟨a, ks, e, .inr ⟨o, (of_fz s).2⟩, nc_frz (of_fz s).1, m⟩
  | ins c fs =>
    rw [Dat] at h
    obtain ⟨a, dx, us, e, s, m⟩ := h
    exact ⟨a, dx, us, e, (of_fz s).2, nc_frz (of_fz s).1, m⟩
  | _ => rw [Dat] at h; exact h
theorem Ext.dats' {K : PySem.W.Frag} {t t1 : Tags} {H H1 : Hp} (a : Ext t H t1 H1) {d : List D} {v : List V} (h : Dats K (fz t H) (rho t) d v) : Dats K (fz t1 H1) (rho t1) d v := h.mono a.le a.rh
/-- what is no cell's stays -/
theorem Ext.keep {t t1 : Tags} {H H1 : Hp} (E : Ext t H t1 H1) {a : Addr} {o : HO} (n : NC t a) (h : H a = some o) : H1 a = some o ∧ NC t1 a := by
  cases q : t a with
  | non =>
    obtain ⟨h2, e2⟩ := E.oth a o q h
    exact ⟨e2, fun k => by rw [h2]; exact nofun⟩
  | frz =>
    obtain ⟨h2, e2⟩ := E.frz a q
    exact ⟨e2.trans h, nc_frz h2⟩
  | cell k => exact absurd q (n k)
  | slot j => exact E.slt a j o q h
theorem Vw.step {K : PySem.W.Frag} {t t1 : Tags} {H H1 : Hp} (E : Ext t H t1 H1) {d : D} {v : V} (h : Vw K t H d v) : Vw K t1 H1 d v := by
  cases d with
  | exc c x => exact Ext.dat E h
  | cell k => exact Ext.dat E h
  | tup xs =>
    obtain ⟨a, vs, e, s, m⟩ := h
    exact ⟨a, vs, e, E.le.sqT s, m.mono E.le E.rh⟩
  | scr xs =>
    obtain ⟨a, e, s⟩ := h
    exact ⟨a, e, E.le.sqL s⟩
  | lst xs =>
    obtain ⟨a, vs, e, s, n, m⟩ := h
    obtain ⟨s1, n1⟩ := E.keep n s
    exact ⟨a, vs, e, s1, n1, m.mono E.le E.rh⟩
  | dct kvs =>
    obtain ⟨a, ks, e, s, n, m⟩ := h
    rcases s with s | ⟨o, s⟩
    · obtain ⟨s1, n1⟩ := E.keep n s
      exact ⟨a, ks, e, .inl s1, n1, m.mono E.le E.rh⟩
    · obtain ⟨s1, n1⟩ := E.keep n s
      exact ⟨a, ks, e, .inr ⟨o, s1⟩, n1, m.mono E.le E.rh⟩
  | ins c fs =>
    obtain ⟨a, dx, us, e, s, n, m⟩ := h
    obtain ⟨s1, n1⟩ := E.keep n s
    exact ⟨a, dx, us, e, s1, n1, m.mono E.le E.rh⟩
  | _ => exact h
theorem Vw.obj {K : PySem.W.Frag} {t : Tags} {H : Hp} {a : Addr} (n : NC t a) : ∀ {o : OD}, ObjAt K (fz t H) (rho t) H a o → Vw K t H o.fz (.ref a)
  | .lst _, ⟨vs, h, m⟩ => ⟨a, vs, rfl, h, n, m⟩
  | .dct _, ⟨ks, h, m⟩ => ⟨a, ks, rfl, .inl h, n, m⟩
  | .ins _ _, ⟨dx, us, h, m⟩ => ⟨a, dx, us, rfl, h, n, m⟩

/-- what is wanted of a result -/
abbrev RP (α : Type) := Tags → Hp → Tags → Hp → α → V → Prop
def Res {α : Type} (K : PySem.W.Frag) (W : WX) (σ : L2.St) (Q : VK) (P : RP α) (t : Tags) (H : Hp) : Out α → Prop
  | .ok r st' => ∀ t' H' v, Ext t H t' H' → R K t' st' σ H' → P t H t' H' r v → Q v H'
  | .ex c x st' => ∀ t' H' d, Ext t H t' H' → R K t' st' σ H' → ExAt K t' H' d x → W (.ref (He.ga K c)) (some d) σ H'
  | .no => False
def tG {α : Type} (K : PySem.W.Frag) (W : WX) (g : DSt → Out α) (P : RP α) : TE := fun σ H Q => ∃ t st, R K t st σ H ∧ Res K W σ Q P t H (g st)
def PZ (K : PySem.W.Frag) : RP D := fun _ _ t' H' d v => Dat K (fz t' H') (rho t') d v
def PV (K : PySem.W.Frag) : RP D := fun _ _ t' H' d v => Vw K t' H' d v
def tV (K : PySem.W.Frag) (W : WX) (g : DZ) : TE := tG K W g (PV K)
def tD (K : PySem.W.Frag) (W : WX) (g : DE) : TE := tG K W g (IsRV K)
def tZ (K : PySem.W.Frag) (W : WX) (g : DZ) : TE := tG K W g (PZ K)
/-- a want that may be told from an elder start -/
def Sta {α : Type} (P : RP α) : Prop := ∀ t H t1 H1 t' H' r v, ExtW t H t1 H1 → P t1 H1 t' H' r v → P t H t' H' r v
theorem sta_rv {K : PySem.W.Frag} : Sta (IsRV K) := fun t H t1 H1 t' H' r v E h => by
  cases r with
  | sh d => exact h
  | ow o =>
    obtain ⟨a, e, h1, h2⟩ := h
    refine ⟨a, e, fun n => ?_, h2⟩
    cases q : H a with
    | none => rfl
    | some u =>
      obtain ⟨n1, e1⟩ := E.oth a u n q
      rw [h1 n1] at e1; cases e1
theorem sta_z {K : PySem.W.Frag} : Sta (PZ K) := fun _ _ _ _ _ _ _ _ _ h => h
theorem Res.step {α : Type} {K : PySem.W.Frag} {W : WX} {σ : L2.St} {Q : VK} {P : RP α} {t t1 : Tags} {H H1 : Hp} (sp : Sta P) (E : Ext t H t1 H1) : ∀ {o : Out α}, Res K W σ Q P t H o → Res K W σ Q P t1 H1 o
  | .ok r st', h => fun t' H' v E' R' p => h t' H' v (E.trans E') R' (sp _ _ _ _ _ _ _ _ E.w p)
  | .ex c x st', h => fun t' H' d E' R' p => h t' H' d (E.trans E') R' p
  | .no, h => h
/-- one part of an expression first -/
theorem tG_at {α β : Type} {K : PySem.W.Frag} {W : WX} {σ : L2.St} {t : Tags} {H : Hp} {Q Q1 : VK} {P : RP β} {P1 : RP α} {st : DSt} {g : DSt → Out α} {f : α → DSt → Out β} (r : R K t st σ H)
    (h : Res K W σ Q P t H ((g st).bind f))
    (k : ∀ t1 st1 H1 a v, Ext t H t1 H1 → R K t1 st1 σ H1 → P1 t H t1 H1 a v → Res K W σ Q P t H (f a st1) → Q1 v H1) : tG K W g P1 σ H Q1 := by
  refine ⟨t, st, r, ?_⟩
  cases e : g st with
  | no => rw [e] at h; exact h
  | ex c x st' => rw [e] at h; exact h
  | ok a st' =>
    rw [e] at h
    exact fun t1 H1 v E1 R1 p1 => k t1 st' H1 a v E1 R1 p1 h
/-- frozen -/
theorem tZ_of {K : PySem.W.Frag} {W : WX} {g : DE} {σ : L2.St} {H : Hp} {Q : VK} (h : tZ K W (frz g) σ H Q) : tD K W g σ H Q := by
  obtain ⟨t, st, r, h⟩ := h
  refine tG_at (P1 := IsRV K) r h fun t1 st1 H1 a v E1 R1 p1 q => ?_
  obtain ⟨t2, E2, R2, d2⟩ := IsRV.freeze E1 R1 p1
  exact q t2 H1 v E2 R2 d2
theorem Vw.rv {K : PySem.W.Frag} {t0 t : Tags} {H0 H : Hp} : ∀ {r : RV} {v : V}, IsRV K t0 H0 t H r v → Vw K t H r.fz v
  | .sh d, v, h => Vw.of h
  | .ow o, v, ⟨a, e, _, h2, h3⟩ => by subst e; exact Vw.obj (fun k => by rw [h2]; exact nofun) h3
theorem tV_of {K : PySem.W.Frag} {W : WX} {g : DE} {σ : L2.St} {H : Hp} {Q : VK} (h : tV K W (frz g) σ H Q) : tD K W g σ H Q := by
  obtain ⟨t, st, r, h⟩ := h
  exact tG_at (P1 := IsRV K) r h fun t1 st1 H1 a v E1 R1 p1 q => q t1 H1 v E1 R1 (Vw.rv p1)
theorem PE.imp {X : Cx} {e : Expr} {t t' : TE} (h : PE X e t) (i : ∀ σ H Q, t' σ H Q → t σ H Q) : PE X e t' := ⟨fun pins s σ H Q I q => h.run pins s σ H Q I (i σ H Q q)⟩
theorem peZ {X : Cx} {W : WX} {e : Expr} {g : DE} (h : PE X e (tD X.K W g)) : PE X e (tZ X.K W (frz g)) := PE.imp h fun _ _ _ q => tZ_of q
theorem peV {X : Cx} {W : WX} {e : Expr} {g : DE} (h : PE X e (tD X.K W g)) : PE X e (tV X.K W (frz g)) := PE.imp h fun _ _ _ q => tV_of q
/-- a name that is looked at -/
def gN (i : Nat) : DZ := fun st => match st.env[i]? with
  | some (some r) => .ok r.fz st
  | _ => .no
theorem gN_of {K : PySem.W.Frag} {W : WX} {i : Nat} {σ : L2.St} {H : Hp} {Q : VK} (h : tV K W (gN i) σ H Q) : tVar i σ H Q := by
  obtain ⟨t, st, r, q⟩ := h
  unfold gN at q
  cases e : st.env[i]? with
  | none => rw [e] at q; exact q.elim
  | some o =>
    cases o with
    | none => rw [e] at q; exact q.elim
    | some x =>
      rw [e] at q
      obtain ⟨v, ev, sl⟩ := r.env i x e
      refine ⟨v, ev, q t H v (Ext.refl t H) r ?_⟩
      cases x with
      | sh d => exact Vw.of sl
      | ow ob =>
        obtain ⟨p, rfl, h1, h2⟩ := sl
        exact Vw.obj (fun k => by rw [h1]; exact nofun) h2
theorem pv_var {X : Cx} {W : WX} {i : Nat} {x : Str} {pos : Pos} (hN : X.N[i]? = some x) (hv : Vis X.env.scope x) (hd : (x == ("__debug__" : Str)) = false) (hcd : (x == ("__classdict__" : Str)) = false) : PE X (.Name x pos) (tV X.K W (gN i)) :=
  PE.imp (pe_var hN hv hd hcd) fun _ _ _ h => gN_of h
/-- shared data as a result -/
def shd (g : DZ) : DE := fun st => (g st).bind fun d st => .ok (.sh d) st

/-! ### a part that only lays new things -/
structure Grow (K : PySem.W.Frag) (t : Tags) (H : Hp) (t' : Tags) (H' : Hp) : Prop where
  ext : Ext t H t' H'
  st : ∀ st σ, R K t st σ H → R K t' st σ H'
theorem Grow.refl {K : PySem.W.Frag} {t : Tags} {H : Hp} : Grow K t H t H := ⟨Ext.refl t H, fun _ _ r => r⟩
theorem Grow.trans {K : PySem.W.Frag} {t t1 t2 : Tags} {H H1 H2 : Hp} (a : Grow K t H t1 H1) (b : Grow K t1 H1 t2 H2) : Grow K t H t2 H2 := ⟨a.ext.trans b.ext, fun st σ r => b.st st σ (a.st st σ r)⟩
def TagOk (t : Tags) (H : Hp) : Prop := ∀ a, t a ≠ .non → H a ≠ none
theorem grow_upd {K : PySem.W.Frag} {t : Tags} {H : Hp} {a : Addr} {o : HO} (tg : TagOk t H) (h : H a = none) : Grow K t H t (upd H a o) ∧ t a = .non := by
  refine ⟨⟨Ext.grow tg (le_upd h), fun st σ r => r.grow (le_upd h)⟩, ?_⟩
  by_cases e : t a = .non
  · exact e
  · exact absurd h (tg a e)
/-- a result by values alone -/
def RO (K : PySem.W.Frag) (t : Tags) (H : Hp) (Q : VK) : Option RV → Prop
  | some r => ∀ t' H' v, Grow K t H t' H' → IsRV K t H t' H' r v → Q v H'
  | none => False
def opt (r : Option RV) (st : DSt) : Out RV := match r with
  | some r => .ok r st
  | none => .no
/-- two values in -/
def rF (K : PySem.W.Frag) (f : D → D → Option RV) : R2 := fun x y H Q => ∃ t a b, TagOk t H ∧ Vw K t H a x ∧ Vw K t H b y ∧ RO K t H Q (f a b)
def gBin (f : D → D → Option RV) (ga gb : DZ) : DE := fun st => (ga st).bind fun a st => (gb st).bind fun b st => opt (f a b) st
theorem res_opt {K : PySem.W.Frag} {W : WX} {σ : L2.St} {Q : VK} {t : Tags} {H : Hp} {st : DSt} (r : R K t st σ H) {o : Option RV} (h : Res K W σ Q (IsRV K) t H (opt o st)) : RO K t H Q o := by
  cases o with
  | none => exact h
  | some x => exact fun t' H' v G p => h t' H' v G.ext (G.st _ _ r) p
theorem bin_of {K : PySem.W.Frag} {W : WX} {f : D → D → Option RV} {ga gb : DZ} {σ : L2.St} {H : Hp} {Q : VK} (h : tD K W (gBin f ga gb) σ H Q) : tOp (rF K f) (tV K W ga) (tV K W gb) σ H Q := by
  obtain ⟨t, st, r, h⟩ := h
  refine tG_at r h fun t1 st1 H1 a x E1 R1 p1 q1 => ?_
  refine tG_at R1 (q1.step sta_rv E1) fun t2 st2 H2 b y E2 R2 p2 q2 => ?_
  exact ⟨t2, a, b, R2.r0.tag, Vw.step E2 p1, p2, res_opt R2 (q2.step sta_rv E2)⟩
theorem de_bin {X : Cx} {W : WX} {op : Operator} {f : D → D → Option RV} {a b : Expr} {ga gb : DZ} {pos : Pos} (ho : OpR X (binaryOp op) (rF X.K f)) (ha : PE X a (tV X.K W ga)) (hb : PE X b (tV X.K W gb)) : PE X (.BinOp a op b pos) (tD X.K W (gBin f ga gb)) :=
  PE.imp (pe_op ho ha hb) fun _ _ _ h => bin_of h
theorem de_cmp {X : Cx} {W : WX} {op : CmpOp} {f : D → D → Option RV} {a b : Expr} {ga gb : DZ} {pos : Pos} (ho : OpR X (compareOp op) (rF X.K f)) (ha : PE X a (tV X.K W ga)) (hb : PE X b (tV X.K W gb)) (hm : behindInMarks op b = false) :
    PE X (.Compare a [op] [b] pos) (tD X.K W (gBin f ga gb)) :=
  PE.imp (pe_cmpR ho ha hb hm) fun _ _ _ h => bin_of h
end Dn
end

section
set_option maxHeartbeats 4000000
-- Dn4
/-! Dn4: constants, names, tests, and | or, argument lists, displays -/
namespace Dn
open PySem PySem.Spec L2
section
variable {X : Cx} {W : WX} {e a b c : Expr} {ga gb gc : DE} {pos : Pos}

/-! ### constants and names -/
def gC (d : D) : DE := fun st => .ok (.sh d) st
theorem de_const {v : V} {d : D} (h : PE X e (tC v)) (hd : ∀ F r, Dat X.K F r d v) : PE X e (tD X.K W (gC d)) :=
  PE.imp h fun σ H Q ⟨t, st, r, q⟩ => q t H v (Ext.refl t H) r (hd _ _)
theorem de_int {i : Int} {j : Nat} : PE X (.Constant (.int i) j pos) (tD X.K W (gC (.int i))) := de_const pe_int fun _ _ => by rw [Dat]
theorem de_bl {i : Bool} {j : Nat} : PE X (.Constant (.bool i) j pos) (tD X.K W (gC (.bl i))) := de_const pe_bl fun _ _ => by rw [Dat]
theorem de_non {j : Nat} : PE X (.Constant .none j pos) (tD X.K W (gC .non)) := de_const pe_non fun _ _ => by rw [Dat]
theorem de_str {x : Str} {j : Nat} : PE X (.Constant (.str x) j pos) (tD X.K W (gC (.str x))) := de_const pe_str fun _ _ => by rw [Dat]
/-- a local name: what is one's own is frozen when it is read -/
def gV (i : Nat) : DE := fun st => match st.env[i]? with
  | some (some (.sh d)) => .ok (.sh d) st
  | some (some (.ow o)) => .ok (.sh o.fz) { st with env := st.env.set i (some (.sh o.fz)) }
  | _ => .no
theorem gV_of {K : PySem.W.Frag} {i : Nat} {σ : L2.St} {H : Hp} {Q : VK} (h : tD K W (gV i) σ H Q) : tVar i σ H Q := by
  obtain ⟨t, st, r, q⟩ := h
  unfold gV at q
  cases e : st.env[i]? with
  | none => rw [e] at q; exact q.elim
  | some o =>
    cases o with
    | none => rw [e] at q; exact q.elim
    | some x =>
      obtain ⟨v, ev, sl⟩ := r.env i x e
      refine ⟨v, ev, ?_⟩
      cases x with
      | sh d =>
        rw [e] at q
        exact q t H v (Ext.refl t H) r sl
      | ow ob =>
        rw [e] at q
        obtain ⟨p, rfl, h1, h2⟩ := sl
        have nf : t p ≠ .frz := by rw [h1]; exact nofun
        have nc : ∀ k, t p ≠ .cell k := fun k => by rw [h1]; exact nofun
        have dd : Dat K (fz (setT t p .frz) H) (rho (setT t p .frz)) ob.fz (.ref p) :=
          ObjAt.dat (fun ob e => by rw [fz_of setT_same]; exact e) (h2.mono (le_retag nf) (rho_retag nc) fun _ h => h)
        refine q (setT t p .frz) H (.ref p) ⟨fun b hb => ?_, fun b k hb => ?_, fun b u hb eb => ?_, fun b j u hb eb => ⟨eb, fun k => ?_⟩⟩ ⟨r.r0.freeze nf nc h2.there, by simpa using r.len, fun j y ej => ?_⟩ dd
        · have ne : b ≠ p := fun z => nf (z ▸ hb)
          exact ⟨by rw [setT_ne ne]; exact hb, rfl⟩
        · have ne : b ≠ p := fun z => nc k (z ▸ hb)
          rw [setT_ne ne]; exact hb
        · have ne : b ≠ p := fun z => by rw [z, h1] at hb; cases hb
          exact ⟨by rw [setT_ne ne]; exact hb, eb⟩
        · by_cases ne : b = p
          · rw [ne, setT_same]; exact nofun
          · rw [setT_ne ne, hb]; exact nofun
        · by_cases hj : i = j
          · subst hj
            have hl : i < st.env.length := (List.getElem?_eq_some_iff.mp e).1
            have ej : (st.env.set i (some (.sh ob.fz)))[i]? = some (some y) := ej
            rw [List.getElem?_set_self hl] at ej
            cases ej
            exact ⟨.ref p, ev, dd⟩
          · have ej : (st.env.set i (some (.sh ob.fz)))[j]? = some (some y) := ej
            rw [List.getElem?_set_ne hj] at ej
            obtain ⟨w, ew, sw⟩ := r.env j y ej
            exact ⟨w, ew, sw.freeze nf nc (fun z => hj (by rw [h1] at z; injection z))⟩
theorem de_var {i : Nat} {x : Str} (hN : X.N[i]? = some x) (hv : Vis X.env.scope x) (hd : (x == ("__debug__" : Str)) = false) (hcd : (x == ("__classdict__" : Str)) = false) : PE X (.Name x pos) (tD X.K W (gV i)) :=
  PE.imp (pe_var hN hv hd hcd) fun _ _ _ h => gV_of h
/-- a module's constant -/
theorem de_glob {x : Str} {v : V} {u : Value} {d : D} (hg : Gl X x) (hm : X.mg x = some u) (r : RelV v u) (hd : ∀ F r, Dat X.K F r d v) (hdb : (x == ("__debug__" : Str)) = false) : PE X (.Name x pos) (tD X.K W (gC d)) :=
  de_const (pe_glob hg hm r hdb) hd

/-! ### tests -/
abbrev DT := DSt → Out Bool
def ResT (K : PySem.W.Frag) (W : WX) (σ : L2.St) (Q : Bool → Hp → Prop) (t : Tags) (H : Hp) : Out Bool → Prop
  | .ok b st' => ∀ t' H', Ext t H t' H' → R K t' st' σ H' → Q b H'
  | .ex c x st' => ∀ t' H' d, Ext t H t' H' → R K t' st' σ H' → ExAt K t' H' d x → W (.ref (He.ga K c)) (some d) σ H'
  | .no => False
def tT (K : PySem.W.Frag) (W : WX) (g : DT) : TT := fun σ H Q => ∃ t st, R K t st σ H ∧ ResT K W σ Q t H (g st)
theorem ResT.step {K : PySem.W.Frag} {W : WX} {σ : L2.St} {Q : Bool → Hp → Prop} {t t1 : Tags} {H H1 : Hp} (E : Ext t H t1 H1) : ∀ {o : Out Bool}, ResT K W σ Q t H o → ResT K W σ Q t1 H1 o
  | .ok r st', h => fun t' H' E' R' => h t' H' (E.trans E') R'
  | .ex c x st', h => fun t' H' d E' R' p => h t' H' d (E.trans E') R' p
  | .no, h => h
/-- a part of a test first -/
theorem tG_atT {α : Type} {K : PySem.W.Frag} {W : WX} {σ : L2.St} {t : Tags} {H : Hp} {Q : Bool → Hp → Prop} {Q1 : VK} {P1 : RP α} {st : DSt} {g : DSt → Out α} {f : α → DSt → Out Bool} (r : R K t st σ H)
    (h : ResT K W σ Q t H ((g st).bind f))
    (k : ∀ t1 st1 H1 a v, Ext t H t1 H1 → R K t1 st1 σ H1 → P1 t H t1 H1 a v → ResT K W σ Q t H (f a st1) → Q1 v H1) : tG K W g P1 σ H Q1 := by
  refine ⟨t, st, r, ?_⟩
  cases e : g st with
  | no => rw [e] at h; exact h
  | ex c x st' => rw [e] at h; exact h
  | ok a st' =>
    rw [e] at h
    exact fun t1 H1 v E1 R1 p1 => k t1 st' H1 a v E1 R1 p1 h
/-- a test first, then an expression -/
theorem tT_at {β : Type} {K : PySem.W.Frag} {W : WX} {σ : L2.St} {t : Tags} {H : Hp} {Q : VK} {Q1 : Bool → Hp → Prop} {P : RP β} {st : DSt} {g : DT} {f : Bool → DSt → Out β} (r : R K t st σ H)
    (h : Res K W σ Q P t H ((g st).bind f))
    (k : ∀ t1 st1 H1 b, Ext t H t1 H1 → R K t1 st1 σ H1 → Res K W σ Q P t H (f b st1) → Q1 b H1) : tT K W g σ H Q1 := by
  refine ⟨t, st, r, ?_⟩
  cases e : g st with
  | no => rw [e] at h; exact h
  | ex c x st' => rw [e] at h; exact h
  | ok a st' =>
    rw [e] at h
    exact fun t1 H1 E1 R1 => k t1 st' H1 a E1 R1 h
theorem tT_atT {K : PySem.W.Frag} {W : WX} {σ : L2.St} {t : Tags} {H : Hp} {Q Q1 : Bool → Hp → Prop} {st : DSt} {g : DT} {f : Bool → DSt → Out Bool} (r : R K t st σ H)
    (h : ResT K W σ Q t H ((g st).bind f))
    (k : ∀ t1 st1 H1 b, Ext t H t1 H1 → R K t1 st1 σ H1 → ResT K W σ Q t H (f b st1) → Q1 b H1) : tT K W g σ H Q1 := by
  refine ⟨t, st, r, ?_⟩
  cases e : g st with
  | no => rw [e] at h; exact h
  | ex c x st' => rw [e] at h; exact h
  | ok a st' =>
    rw [e] at h
    exact fun t1 H1 E1 R1 => k t1 st' H1 a E1 R1 h
theorem PT.imp {e : Expr} {t t' : TT} (h : PT X e t) (i : ∀ σ H Q, t' σ H Q → t σ H Q) : PT X e t' := ⟨fun pins s σ H Q I q => h.run pins s σ H Q I (i σ H Q q)⟩
theorem PW.imp {e : Expr} {t t' : TT} (h : PW X e t) (i : ∀ σ H Q, t' σ H Q → t σ H Q) : PW X e t' := ⟨fun wh pins s σ H Q I q => h.run wh pins s σ H Q I (i σ H Q q)⟩
def asB : D → Option Bool
  | .bl b => some b
  | _ => none
def gTest (f : D → Option Bool) (g : DZ) : DT := fun st => (g st).bind fun d st => match f d with
  | some b => .ok b st
  | none => .no
/-- a comparison's bool as a test -/
theorem dt_cmp {za zb : DZ} {op : CmpOp} {f : D → D → Option RV} (ho : OpR X (compareOp op) (rF X.K f)) (ha : PE X a (tV X.K W za)) (hb : PE X b (tV X.K W zb)) (hm : behindInMarks op b = false) :
    PT X (.Compare a [op] [b] pos) (tT X.K W (gTest asB (frz (gBin f za zb)))) := by
  refine PT.imp (pt_cmpR ho ha hb hm) fun σ H Q ⟨t, st, r, h⟩ => ?_
  refine bin_of (W := W) (f := f) ?_
  refine tZ_of ?_
  refine tG_atT r h fun t1 st1 H1 d v E1 R1 p1 q1 => ?_
  cases d with
  | bl k =>
    have p1 : Dat X.K (fz t1 H1) (rho t1) (.bl k) v := p1
    rw [Dat] at p1
    exact ⟨k, p1, q1 t1 H1 E1 R1⟩
  | _ => exact q1.elim
def truD : D → Option Bool
  | .non => some false
  | .bl b => some b
  | .int i => some (i != 0)
  | .lst xs => some (!xs.isEmpty)
  | .tup xs => some (!xs.isEmpty)
  | _ => none
theorem Dats.length {K : PySem.W.Frag} {F : Hp} {r : Nat → Addr → Prop} : ∀ {ds : List D} {vs : List V}, Dats K F r ds vs → ds.length = vs.length
  | [], vs, h => by rw [Dats] at h; rw [h]; rfl
  | d :: ds, vs, h => by
    rw [Dats] at h
    obtain ⟨v, us, rfl, _, m⟩ := h
    simp [Dats.length m]
theorem Dats.isEmpty {K : PySem.W.Frag} {F : Hp} {r : Nat → Addr → Prop} {ds : List D} {vs : List V} (h : Dats K F r ds vs) : ds.isEmpty = vs.isEmpty := by
  have l := h.length
  cases ds <;> cases vs <;> simp at l <;> rfl
theorem fz_le {t : Tags} {H : Hp} : Le (fz t H) H := fun a o h => (of_fz h).2
theorem truV_of {K : PySem.W.Frag} {t : Tags} {H : Hp} {d : D} {v : V} {k : Bool} (h : Vw K t H d v) (e : truD d = some k) : TruV K v H k := by
  cases d with
  | non => cases h; cases e; rfl
  | bl b => cases h; cases e; rfl
  | int i => cases h; cases e; rfl
  | lst xs =>
    obtain ⟨a, vs, rfl, s, _, m⟩ := h
    cases e
    exact .inl ⟨vs, SqL.of s, by rw [m.isEmpty]⟩
  | tup xs =>
    obtain ⟨a, vs, rfl, s, m⟩ := h
    cases e
    exact .inr (.inl ⟨vs, fz_le.sqT s, by rw [m.isEmpty]⟩)
  | _ => cases e
/-- any other expression's truth -/
theorem dt_truth {za : DZ} (ha : PE X a (tV X.K W za)) (he : ∀ whole, isTrue a X.env whole = (do let v ← whole; standAt a.pos; holding [v] (truthy v))) : PT X a (tT X.K W (gTest truD za)) := by
  refine PT.imp (pt_truth ha he) fun σ H Q ⟨t, st, r, h⟩ => ?_
  refine tG_atT r h fun t1 st1 H1 d v E1 R1 p1 q1 => ?_
  cases e : truD d with
  | none => rw [e] at q1; exact q1.elim
  | some k =>
    rw [e] at q1
    exact ⟨k, truV_of p1 e, q1 t1 H1 E1 R1⟩
def gNotT (g : DT) : DT := fun st => (g st).bind fun b st => .ok (!b) st
theorem dt_not {ta : DT} (ha : PT X a (tT X.K W ta)) : PT X (.UnaryOp .Not a pos) (tT X.K W (gNotT ta)) := by
  refine PT.imp (pt_not ha) fun σ H Q ⟨t, st, r, h⟩ => ?_
  exact tT_atT r h fun t1 st1 H1 b E1 R1 q => q t1 H1 E1 R1
def gAndT (g h : DT) : DT := fun st => (g st).bind fun b st => if b = true then h st else .ok false st
def gOrT (g h : DT) : DT := fun st => (g st).bind fun b st => if b = true then .ok true st else h st
theorem and_of {ta tb : DT} {σ : L2.St} {H : Hp} {Q : Bool → Hp → Prop} (h : tT X.K W (gAndT ta tb) σ H Q) : tAnd (tT X.K W ta) (tT X.K W tb) σ H Q := by
  obtain ⟨t, st, r, h⟩ := h
  refine tT_atT r h fun t1 st1 H1 b E1 R1 q => ?_
  cases b with
  | true => exact ⟨t1, st1, R1, q.step E1⟩
  | false => exact q t1 H1 E1 R1
theorem or_of {ta tb : DT} {σ : L2.St} {H : Hp} {Q : Bool → Hp → Prop} (h : tT X.K W (gOrT ta tb) σ H Q) : tOr (tT X.K W ta) (tT X.K W tb) σ H Q := by
  obtain ⟨t, st, r, h⟩ := h
  refine tT_atT r h fun t1 st1 H1 b E1 R1 q => ?_
  cases b with
  | false => exact ⟨t1, st1, R1, q.step E1⟩
  | true => exact q t1 H1 E1 R1
/-- and | or of several, as tests -/
def gAnds : DT → List DT → DT
  | g, [] => g
  | g, h :: r => gAndT g (gAnds h r)
def gOrs : DT → List DT → DT
  | g, [] => g
  | g, h :: r => gOrT g (gOrs h r)
inductive PTl (X : Cx) (W : WX) : List Expr → List DT → Prop where
  | nil : PTl X W [] []
  | cons {e : Expr} {es : List Expr} {g : DT} {gs : List DT} (h : PT X e (tT X.K W g)) (r : PTl X W es gs) : PTl X W (e :: es) (g :: gs)
theorem dw_ands : ∀ {es : List Expr} {gs : List DT} {e : Expr} {g : DT}, PT X e (tT X.K W g) → PTl X W es gs → PW X (.BoolOp .And (e :: es) pos) (tT X.K W (gAnds g gs))
  | [], _, e, g, h, .nil => pw_and1 h
  | _ :: es, _, e, g, h, .cons h2 r => PW.imp (pw_and h (dw_ands h2 r)) fun _ _ _ q => and_of q
theorem dw_ors : ∀ {es : List Expr} {gs : List DT} {e : Expr} {g : DT}, PT X e (tT X.K W g) → PTl X W es gs → PW X (.BoolOp .Or (e :: es) pos) (tT X.K W (gOrs g gs))
  | [], _, e, g, h, .nil => pw_or1 h
  | _ :: es, _, e, g, h, .cons h2 r => PW.imp (pw_or h (dw_ors h2 r)) fun _ _ _ q => or_of q

/-! ### as values -/
def gNot (g : DE) : DE := fun st => (frz g st).bind fun d st => match d with
  | .bl b => .ok (.sh (.bl (!b))) st
  | _ => .no
theorem de_not (ha : PE X a (tD X.K W ga)) : PE X (.UnaryOp .Not a pos) (tD X.K W (gNot ga)) := by
  refine PE.imp (pe_not (peZ ha)) fun σ H Q ⟨t, st, r, h⟩ => ?_
  refine tG_at r h fun t1 st1 H1 d v E1 R1 p1 q1 => ?_
  cases d with
  | bl k =>
    have p1 : Dat X.K (fz t1 H1) (rho t1) (.bl k) v := p1
    rw [Dat] at p1
    exact ⟨k, p1, q1 t1 H1 (.bl !k) E1 R1 (by show Dat _ _ _ _ _; rw [Dat])⟩
  | _ => exact q1.elim
def gAnd (g h : DE) : DE := fun st => (frz g st).bind fun d st => match d with
  | .bl true => h st
  | .bl false => .ok (.sh (.bl false)) st
  | _ => .no
def gOr (g h : DE) : DE := fun st => (frz g st).bind fun d st => match d with
  | .bl true => .ok (.sh (.bl true)) st
  | .bl false => h st
  | _ => .no
def gAndL : DE → List DE → DE
  | g, [] => g
  | g, h :: r => gAnd g (gAndL h r)
def gOrL : DE → List DE → DE
  | g, [] => g
  | g, h :: r => gOr g (gOrL h r)
inductive PEl (X : Cx) (W : WX) : List Expr → List DE → Prop where
  | nil : PEl X W [] []
  | cons {e : Expr} {es : List Expr} {g : DE} {gs : List DE} (h : PE X e (tD X.K W g)) (r : PEl X W es gs) : PEl X W (e :: es) (g :: gs)
theorem Res.step0 {K : PySem.W.Frag} {W : WX} {σ : L2.St} {Q : VK} {t t1 : Tags} {H H1 : Hp} {o : Out RV} (E : Ext t H t1 H1) (h : Res K W σ Q (IsRV K) t H o) : Res K W σ Q (IsRV K) t1 H1 o := h.step sta_rv E
theorem de_ands : ∀ {es : List Expr} {gs : List DE} {e : Expr} {g : DE}, PE X e (tD X.K W g) → PEl X W es gs → PE X (.BoolOp .And (e :: es) pos) (tD X.K W (gAndL g gs))
  | [], _, e, g, h, .nil => pe_one h
  | _ :: es, _, e, g, h, .cons h2 r => by
    refine PE.imp (pe_and (peZ h) (de_ands h2 r)) fun σ H Q ⟨t, st, r, h⟩ => ?_
    refine tG_at r h fun t1 st1 H1 d v E1 R1 p1 q1 => ?_
    cases d with
    | bl k =>
      have p1 : Dat X.K (fz t1 H1) (rho t1) (.bl k) v := p1
      rw [Dat] at p1
      refine ⟨k, p1, ?_⟩
      cases k with
      | true => exact ⟨t1, st1, R1, Res.step0 E1 q1⟩
      | false => exact q1 t1 H1 (.bl false) E1 R1 (by show Dat _ _ _ _ _; rw [Dat])
    | _ => exact q1.elim
theorem de_ors : ∀ {es : List Expr} {gs : List DE} {e : Expr} {g : DE}, PE X e (tD X.K W g) → PEl X W es gs → PE X (.BoolOp .Or (e :: es) pos) (tD X.K W (gOrL g gs))
  | [], _, e, g, h, .nil => pe_one h
  | _ :: es, _, e, g, h, .cons h2 r => by
    refine PE.imp (pe_or (peZ h) (de_ors h2 r)) fun σ H Q ⟨t, st, r, h⟩ => ?_
    refine tG_at r h fun t1 st1 H1 d v E1 R1 p1 q1 => ?_
    cases d with
    | bl k =>
      have p1 : Dat X.K (fz t1 H1) (rho t1) (.bl k) v := p1
      rw [Dat] at p1
      refine ⟨k, p1, ?_⟩
      cases k with
      | true => exact q1 t1 H1 (.bl true) E1 R1 (by show Dat _ _ _ _ _; rw [Dat])
      | false => exact ⟨t1, st1, R1, Res.step0 E1 q1⟩
    | _ => exact q1.elim
def gIf (c : DT) (g h : DE) : DE := fun st => (c st).bind fun b st => if b = true then g st else h st
theorem de_if {tc : DT} (hc : PT X c (tT X.K W tc)) (ha : PE X a (tD X.K W ga)) (hb : PE X b (tD X.K W gb)) : PE X (.IfExp c a b pos) (tD X.K W (gIf tc ga gb)) := by
  refine PE.imp (pe_ifExp hc ha hb) fun σ H Q ⟨t, st, r, h⟩ => ?_
  refine tT_at r h fun t1 st1 H1 b E1 R1 q => ?_
  cases b with
  | true => exact ⟨t1, st1, R1, Res.step0 E1 q⟩
  | false => exact ⟨t1, st1, R1, Res.step0 E1 q⟩
end
end Dn
end

section
set_option maxHeartbeats 4000000
-- Dn5
/-! Dn5: operators on plain values -/
namespace Dn
open PySem PySem.Spec L2

abbrev lim : Nat := sizeLine
/-! ### what the operators give -/
def addD : D → D → Option RV
  | .int i, .int j => some (.sh (.int (i + j)))
  | .str x, .str y => if x.length + y.length ≤ lim then some (.sh (.str (x ++ y))) else none
  | .lst xs, .lst ys => if xs.length + ys.length ≤ lim then some (.ow (.lst (xs ++ ys))) else none
  | .tup xs, .tup ys => if xs.length + ys.length ≤ lim then some (.sh (.tup (xs ++ ys))) else none
  | _, _ => none
def subD : D → D → Option RV
  | .int i, .int j => some (.sh (.int (i - j)))
  | _, _ => none
def mulD : D → D → Option RV
  | .int i, .int j => if (-(2 ^ 64) < i ∧ i < 2 ^ 64) ∨ (-(2 ^ 64) < j ∧ j < 2 ^ 64) then some (.sh (.int (i * j))) else none
  | .lst xs, .int k => if -(2 ^ 63) ≤ k ∧ k < 2 ^ 63 ∧ xs.length * k.toNat ≤ lim then some (.ow (.lst (List.replicate k.toNat xs).flatten)) else none
  | .tup xs, .int k => if xs ≠ [] ∧ 2 ≤ k ∧ k ≤ 1000 ∧ xs.length ≤ 1000 then some (.sh (.tup (List.replicate k.toNat xs).flatten)) else none
  | _, _ => none
def modD : D → D → Option RV
  | .int i, .int j => if 0 < j then some (.sh (.int (i % j))) else none
  | _, _ => none
def fdivD : D → D → Option RV
  | .int i, .int j => if 0 < j ∧ j < 1073741824 then some (.sh (.int (i / j))) else none
  | _, _ => none
def powD : D → D → Option RV
  | .int i, .int j => if 0 ≤ j ∧ (Builtin.Int.intBits i : Int) * j ≤ 2 ^ 27 then some (.sh (.int (i ^ j.toNat))) else none
  | _, _ => none
def bo (b : Bool) : Option RV := some (.sh (.bl b))
def ltD : D → D → Option RV
  | .int i, .int j => bo (decide (i < j))
  | _, _ => none
def leD : D → D → Option RV
  | .int i, .int j => bo (decide (i ≤ j))
  | _, _ => none
def gtD : D → D → Option RV
  | .int i, .int j => bo (decide (j < i))
  | _, _ => none
def geD : D → D → Option RV
  | .int i, .int j => bo (decide (j ≤ i))
  | _, _ => none
/-- == of single values -/
def eqS : D → D → Option Bool
  | .non, .non => some true
  | .non, .int _ => some false
  | .int _, .non => some false
  | .non, .bl _ => some false
  | .bl _, .non => some false
  | .non, .str _ => some false
  | .str _, .non => some false
  | .int i, .int j => some (decide (i = j))
  | .bl i, .bl j => some (decide (i = j))
  | .str i, .str j => some (decide (i = j))
  | .int _, .str _ => some false
  | .str _, .int _ => some false
  | .bl _, .str _ => some false
  | .str _, .bl _ => some false
  | _, _ => none
mutual
def toP : D → Option PyData
  | .non => some .none
  | .bl b => some (.bool b)
  | .int i => some (.int i)
  | .str x => some (.str x)
  | .lst xs => (toPs xs).map .list
  | .tup xs => (toPs xs).map .tuple
  | _ => none
def toPs : List D → Option (List PyData)
  | [] => some []
  | d :: ds => match toP d, toPs ds with
    | some p, some ps => some (p :: ps)
    | _, _ => none
end
def eqP (a b : D) : Option Bool := match toP a, toP b with
  | some p, some q => if SeqAt.shaped p = true ∧ SeqAt.shaped q = true then some (PyData.eqv p q) else none
  | _, _ => none
def eqB (a b : D) : Option Bool := match eqS a b with
  | some k => some k
  | none => eqP a b
def eqD (a b : D) : Option RV := (eqB a b).map fun k => .sh (.bl k)
def neD (a b : D) : Option RV := (eqB a b).map fun k => .sh (.bl (!k))
def isD : D → D → Option RV
  | .non, .non => bo true
  | .bl _, .non => bo false
  | .int _, .non => bo false
  | .str _, .non => bo false
  | .tup _, .non => bo false
  | .lst _, .non => bo false
  | .dct _, .non => bo false
  | .ins _ _, .non => bo false
  | .exc _ _, .non => bo false
  | .bl a, .bl b => bo (decide (a = b))
  | _, _ => none
def isntD : D → D → Option RV
  | .non, .non => bo false
  | .bl _, .non => bo true
  | .int _, .non => bo true
  | .str _, .non => bo true
  | .tup _, .non => bo true
  | .lst _, .non => bo true
  | .dct _, .non => bo true
  | .ins _ _, .non => bo true
  | .exc _ _, .non => bo true
  | .bl a, .bl b => bo (!decide (a = b))
  | _, _ => none
def flatD : D → Bool
  | .non => true
  | .bl _ => true
  | .int _ => true
  | .str _ => true
  | _ => false
def eqF : D → D → Bool
  | .non, .non => true
  | .bl a, .bl b => a == b
  | .bl a, .int b => (if a then 1 else 0) == b
  | .int a, .bl b => a == (if b then 1 else 0)
  | .int a, .int b => a == b
  | .str a, .str b => a == b
  | _, _ => false
def inB : D → D → Option Bool
  | .str x, .str y => some (!(Builtin.Str.occurrences y x 0 y.length 1).isEmpty)
  | d, .lst ys => if flatD d = true ∧ ys.all flatD = true then some (ys.any fun y => eqF y d) else none
  | d, .tup ys => if flatD d = true ∧ ys.all flatD = true then some (ys.any fun y => eqF y d) else none
  | _, _ => none
def inD (a b : D) : Option RV := (inB a b).map fun k => .sh (.bl k)
def notInD (a b : D) : Option RV := (inB a b).map fun k => .sh (.bl (!k))
/-- o[i] -/
def ixD : D → D → Option RV
  | .lst xs, .int i => (atI xs i).map .sh
  | .tup xs, .int i => (atI xs i).map .sh
  | .scr xs, .int i => (atI xs i).map fun j => .sh (.int j)
  | .str x, .int i => if x.length ≤ lim then (atI x.cps.toList i).map fun c => .sh (.str ⟨#[c]⟩) else none
  | _, _ => none

/-! ### the rules -/
section
variable {X : Cx} {K : PySem.W.Frag} {t : Tags} {H : Hp} {Q : VK} {F : Hp} {r : Nat → Addr → Prop}
theorem RO.val {d : D} {v : V} (h : RO K t H Q (some (.sh d))) (e : Dat K (fz t H) (rho t) d v) : Q v H := h t H v Grow.refl e
theorem RO.int {i : Int} (h : RO K t H Q (some (.sh (.int i)))) : Q (.int i) H := h.val (by rw [Dat])
theorem RO.bl {b : Bool} (h : RO K t H Q (bo b)) : Q (.bl b) H := RO.val h (by rw [Dat])
theorem RO.str {x : Str} (h : RO K t H Q (some (.sh (.str x)))) : Q (.str x) H := h.val (by rw [Dat])
/-- a new list of one's own -/
theorem RO.newL {xs : List D} {vs : List V} (tg : TagOk t H) (h : RO K t H Q (some (.ow (.lst xs)))) (m : Dats K (fz t H) (rho t) xs vs) : ∀ p, H p = none → Q (.ref p) (upd H p (.lst vs)) := fun p hp => by
  obtain ⟨g, n⟩ := grow_upd (K := K) (o := .lst vs) tg hp
  exact h t (upd H p (.lst vs)) (.ref p) g ⟨p, rfl, fun _ => hp, n, vs, upd_same, m.mono g.ext.le fun _ _ h => h⟩
/-- a new tuple, frozen at once -/
theorem grow_frz {a : Addr} {o : HO} (tg : TagOk t H) (h : H a = none) : Grow K t H (setT t a .frz) (upd H a o) ∧ fz (setT t a .frz) (upd H a o) a = some o := by
  have n : t a = .non := by
    by_cases e : t a = .non
    · exact e
    · exact absurd h (tg a e)
  refine ⟨⟨⟨fun b hb => ?_, fun b k hb => ?_, fun b u hb e => ?_, fun b i u hb e => ?_⟩, fun st σ r => (r.alloc h).2.1⟩, by rw [fz_of setT_same, upd_same]⟩
  · have ne : b ≠ a := fun e => by rw [e, n] at hb; cases hb
    exact ⟨by rw [setT_ne ne]; exact hb, upd_ne ne⟩
  · have ne : b ≠ a := fun e => by rw [e, n] at hb; cases hb
    rw [setT_ne ne]; exact hb
  · have ne : b ≠ a := fun q => by rw [q, h] at e; cases e
    exact ⟨by rw [setT_ne ne]; exact hb, by rw [upd_ne ne]; exact e⟩
  · have ne : b ≠ a := fun q => by rw [q, h] at e; cases e
    exact ⟨by rw [upd_ne ne]; exact e, fun k => by rw [setT_ne ne, hb]; exact nofun⟩
theorem RO.newT {xs : List D} {vs : List V} (tg : TagOk t H) (h : RO K t H Q (some (.sh (.tup xs)))) (m : Dats K (fz t H) (rho t) xs vs) : ∀ p, H p = none → Q (.ref p) (upd H p (.tup vs)) := fun p hp => by
  obtain ⟨g, e⟩ := grow_frz (K := K) (o := .tup vs) tg hp
  refine h _ _ (.ref p) g ?_
  show Dat _ _ _ _ _
  rw [Dat]
  exact ⟨p, vs, rfl, .inl (.inl e), m.mono g.ext.le g.ext.rh⟩
theorem Dats.append : ∀ {xs ys : List D} {vs us : List V}, Dats K F r xs vs → Dats K F r ys us → Dats K F r (xs ++ ys) (vs ++ us)
  | [], ys, vs, us, h, h' => by
    rw [Dats] at h
    subst h
    exact h'
  | x :: xs, ys, vs, us, h, h' => by
    rw [Dats] at h
    obtain ⟨v, w, rfl, h1, h2⟩ := h
    show Dats _ _ _ (x :: (xs ++ ys)) _
    rw [Dats]
    exact ⟨v, w ++ us, rfl, h1, Dats.append h2 h'⟩
theorem Dats.nil : Dats K F r [] [] := by rw [Dats]
theorem Dats.cons {d : D} {ds : List D} {v : V} {vs : List V} (h : Dat K F r d v) (h' : Dats K F r ds vs) : Dats K F r (d :: ds) (v :: vs) := by
  rw [Dats]; exact ⟨v, vs, rfl, h, h'⟩
theorem Dats.rep {xs : List D} {vs : List V} (h : Dats K F r xs vs) : ∀ n : Nat, Dats K F r (List.replicate n xs).flatten (List.replicate n vs).flatten
  | 0 => Dats.nil
  | n + 1 => by
    rw [List.replicate_succ, List.replicate_succ, List.flatten_cons, List.flatten_cons]
    exact h.append (Dats.rep h n)
theorem Dats.get : ∀ {ds : List D} {vs : List V} {i : Nat} {d : D}, Dats K F r ds vs → ds[i]? = some d → ∃ v, vs[i]? = some v ∧ Dat K F r d v
  | [], _, _, _, _, e => by simp at e
  | x :: xs, vs, i, d, h, e => by
    rw [Dats] at h
    obtain ⟨v, us, rfl, h1, h2⟩ := h
    cases i with
    | zero => simp at e; subst e; exact ⟨v, rfl, h1⟩
    | succ i =>
      obtain ⟨w, e1, h3⟩ := Dats.get (i := i) h2 (by simpa using e)
      exact ⟨w, by simpa using e1, h3⟩
theorem Dats.at {ds : List D} {vs : List V} {i : Int} {d : D} (h : Dats K F r ds vs) (e : atI ds i = some d) : ∃ v, atI vs i = some v ∧ Dat K F r d v := by
  unfold atI at e ⊢
  rw [h.length] at e
  cases q : ixN vs.length i with
  | none => rw [q] at e; cases e
  | some j =>
    rw [q] at e
    exact Dats.get h e

theorem op_addD : OpR X (binaryOp .Add) (rF X.K addD) := by
  intro pins s σ H x y v u Q I rx ry ⟨t, a, b, tg, da, db, h⟩
  unfold addD at h
  split at h
  · simp only [Vw] at da db
    subst da db
    exact op_add pins s σ H _ _ v u Q I rx ry ⟨_, _, rfl, rfl, h.int⟩
  · simp only [Vw] at da db
    subst da db
    split at h
    · exact op_add_str pins s σ H _ _ v u Q I rx ry ⟨_, _, rfl, rfl, by assumption, h.str⟩
    · exact h.elim
  · simp only [Vw] at da db
    obtain ⟨p, vs, rfl, sp, _, mp⟩ := da
    obtain ⟨q, us, rfl, sq, _, mq⟩ := db
    split at h
    · rename_i hz
      rw [mp.length, mq.length] at hz
      exact op_cat pins s σ H _ _ v u Q I rx ry ⟨p, q, vs, us, rfl, rfl, sp, sq, hz, h.newL tg (mp.append mq)⟩
    · exact h.elim
  · rename_i xs ys
    have da0 := da
    have db0 := db
    simp only [Vw] at da db
    obtain ⟨p, vs, rfl, sp, mp⟩ := da
    obtain ⟨q, us, rfl, sq, mq⟩ := db
    split at h
    · rename_i hz
      rw [mp.length, mq.length] at hz
      refine op_catA pins s σ H _ _ v u Q I rx ry ⟨p, q, vs, us, rfl, rfl, fz_le.sqT sp, fz_le.sqT sq, hz, fun e => ?_, fun _ e => ?_, fun _ _ => h.newT tg (mp.append mq)⟩
      · have e2 : xs = [] := List.eq_nil_of_length_eq_zero (by rw [mp.length, e]; rfl)
        subst e2
        exact h.val (by rw [Dat]; exact db0)
      · have e2 : ys = [] := List.eq_nil_of_length_eq_zero (by rw [mq.length, e]; rfl)
        subst e2
        rw [List.append_nil] at h
        exact h.val (by rw [Dat]; exact da0)
    · exact h.elim
  · exact h.elim
theorem op_subD : OpR X (binaryOp .Sub) (rF X.K subD) := by
  intro pins s σ H x y v u Q I rx ry ⟨t, a, b, tg, da, db, h⟩
  unfold subD at h
  split at h
  · simp only [Vw] at da db
    subst da db
    exact op_sub pins s σ H _ _ v u Q I rx ry ⟨_, _, rfl, rfl, h.int⟩
  · exact h.elim
theorem op_modD : OpR X (binaryOp .Mod) (rF X.K modD) := by
  intro pins s σ H x y v u Q I rx ry ⟨t, a, b, tg, da, db, h⟩
  unfold modD at h
  split at h
  · simp only [Vw] at da db
    subst da db
    split at h
    · exact op_mod pins s σ H _ _ v u Q I rx ry ⟨_, _, rfl, rfl, by assumption, h.int⟩
    · exact h.elim
  · exact h.elim
theorem op_fdivD : OpR X (binaryOp .FloorDiv) (rF X.K fdivD) := by
  intro pins s σ H x y v u Q I rx ry ⟨t, a, b, tg, da, db, h⟩
  unfold fdivD at h
  split at h
  · simp only [Vw] at da db
    subst da db
    split at h
    · exact op_fdiv pins s σ H _ _ v u Q I rx ry ⟨_, _, rfl, rfl, by assumption, h.int⟩
    · exact h.elim
  · exact h.elim
theorem op_powD : OpR X (binaryOp .Pow) (rF X.K powD) := by
  intro pins s σ H x y v u Q I rx ry ⟨t, a, b, tg, da, db, h⟩
  unfold powD at h
  split at h
  · simp only [Vw] at da db
    subst da db
    split at h
    · rename_i hc
      obtain ⟨t1, rfl⟩ := rx
      obtain ⟨t2, rfl⟩ := ry
      exact PyProof.Rows.pow_int hc.1 hc.2 ⟨.int _, H, I.tok _, ⟨_, rfl⟩, h.int⟩
    · exact h.elim
  · exact h.elim
theorem op_mulD : OpR X (binaryOp .Mult) (rF X.K mulD) := by
  intro pins s σ H x y v u Q I rx ry ⟨t, a, b, tg, da, db, h⟩
  unfold mulD at h
  split at h
  · simp only [Vw] at da db
    subst da db
    split at h
    · exact op_mul pins s σ H _ _ v u Q I rx ry ⟨_, _, rfl, rfl, by assumption, h.int⟩
    · exact h.elim
  · simp only [Vw] at da db
    obtain ⟨p, vs, rfl, sp, _, mp⟩ := da
    subst db
    split at h
    · rename_i hc
      exact op_rep pins s σ H _ _ v u Q I rx ry ⟨p, _, vs, rfl, rfl, sp, hc.1, hc.2.1, by rw [← mp.length]; exact hc.2.2, h.newL tg (mp.rep _)⟩
    · exact h.elim
  · simp only [Vw] at da db
    obtain ⟨p, vs, rfl, sp, mp⟩ := da
    subst db
    split at h
    · rename_i hc
      exact op_repT pins s σ H _ _ v u Q I rx ry ⟨p, _, vs, rfl, rfl, fz_le.sqT sp, fun e => hc.1 (List.eq_nil_of_length_eq_zero (by rw [mp.length, e]; rfl)), hc.2.1, hc.2.2.1, by rw [← mp.length]; exact hc.2.2.2, h.newT tg (mp.rep _)⟩
    · exact h.elim
  · exact h.elim
theorem op_ltD : OpR X (compareOp .Lt) (rF X.K ltD) := by
  intro pins s σ H x y v u Q I rx ry ⟨t, a, b, tg, da, db, h⟩
  unfold ltD at h
  split at h
  · simp only [Vw] at da db
    subst da db
    exact op_lt pins s σ H _ _ v u Q I rx ry ⟨_, _, rfl, rfl, h.bl⟩
  · exact h.elim
theorem op_leD : OpR X (compareOp .LtE) (rF X.K leD) := by
  intro pins s σ H x y v u Q I rx ry ⟨t, a, b, tg, da, db, h⟩
  unfold leD at h
  split at h
  · simp only [Vw] at da db
    subst da db
    exact op_le pins s σ H _ _ v u Q I rx ry ⟨_, _, rfl, rfl, h.bl⟩
  · exact h.elim
theorem op_gtD : OpR X (compareOp .Gt) (rF X.K gtD) := by
  intro pins s σ H x y v u Q I rx ry ⟨t, a, b, tg, da, db, h⟩
  unfold gtD at h
  split at h
  · simp only [Vw] at da db
    subst da db
    exact op_gt pins s σ H _ _ v u Q I rx ry ⟨_, _, rfl, rfl, h.bl⟩
  · exact h.elim
theorem op_geD : OpR X (compareOp .GtE) (rF X.K geD) := by
  intro pins s σ H x y v u Q I rx ry ⟨t, a, b, tg, da, db, h⟩
  unfold geD at h
  split at h
  · simp only [Vw] at da db
    subst da db
    exact op_ge pins s σ H _ _ v u Q I rx ry ⟨_, _, rfl, rfl, h.bl⟩
  · exact h.elim
mutual
theorem dp_of (l : Le F H) : ∀ {d : D} {v : V} {p : PyData}, Dat K F r d v → toP d = some p → Dp K H v p
  | .non, v, p, h, e => by rw [Dat] at h; subst h; cases e; exact .non
  | .bl b, v, p, h, e => by rw [Dat] at h; subst h; cases e; exact .bl b
  | .int b, v, p, h, e => by rw [Dat] at h; subst h; cases e; exact .int b
  | .str b, v, p, h, e => by rw [Dat] at h; subst h; cases e; exact .str b
  | .tup xs, v, p, h, e => by
    rw [Dat] at h
    obtain ⟨a, vs, rfl, s, m⟩ := h
    rw [toP] at e
    obtain ⟨ps, e1, rfl⟩ := Option.map_eq_some_iff.mp e
    exact .tup (l.sqT s) (dps_of l m e1)
  | .lst xs, v, p, h, e => by
    rw [Dat] at h
    obtain ⟨a, vs, rfl, s, m⟩ := h
    rw [toP] at e
    obtain ⟨ps, e1, rfl⟩ := Option.map_eq_some_iff.mp e
    exact .lst (SqL.of (l _ _ s)) (dps_of l m e1)
  | .dct _, _, _, _, e => by rw [toP] at e <;> first | cases e | exact nofun
  | .ins _ _, _, _, _, e => by rw [toP] at e <;> first | cases e | exact nofun
  | .exc _ _, _, _, _, e => by rw [toP] at e <;> first | cases e | exact nofun
  | .cell _, _, _, _, e => by rw [toP] at e <;> first | cases e | exact nofun
  | .scr _, _, _, _, e => by rw [toP] at e <;> first | cases e | exact nofun
theorem dps_of (l : Le F H) : ∀ {ds : List D} {vs : List V} {ps : List PyData}, Dats K F r ds vs → toPs ds = some ps → DpAll K H vs ps
  | [], vs, ps, h, e => by
    rw [Dats] at h
    rw [toPs] at e
    subst h
    cases e
    exact .nil
  | d :: ds, vs, ps, h, e => by
    rw [Dats] at h
    obtain ⟨v, us, rfl, h1, h2⟩ := h
    rw [toPs] at e
    cases e1 : toP d with
    | none => rw [e1] at e; cases e
    | some p =>
      cases e2 : toPs ds with
      | none => rw [e1, e2] at e; cases e
      | some qs =>
        rw [e1, e2] at e
        cases e
        exact .cons (dp_of l h1 e1) (dps_of l h2 e2)
end
theorem dp_vw {d : D} {v : V} {p : PyData} (h : Vw K t H d v) (e : toP d = some p) : Dp K H v p := by
  cases d with
  | lst xs =>
    obtain ⟨a, vs, rfl, s, _, m⟩ := h
    rw [toP] at e
    obtain ⟨ps, e1, rfl⟩ := Option.map_eq_some_iff.mp e
    exact .lst (SqL.of s) (dps_of fz_le m e1)
  | dct _ => rw [toP] at e <;> first | cases e | exact nofun
  | ins _ _ => rw [toP] at e <;> first | cases e | exact nofun
  | exc _ _ => rw [toP] at e <;> first | cases e | exact nofun
  | cell _ => rw [toP] at e <;> first | cases e | exact nofun
  | scr _ => rw [toP] at e <;> first | cases e | exact nofun
  | _ => exact dp_of (F := fz t H) (r := rho t) fz_le (by rw [Dat]; exact h) e
/-- single values, as V has them -/
def sV : D → Option V
  | .non => some .non
  | .bl b => some (.bl b)
  | .int i => some (.int i)
  | .str x => some (.str x)
  | _ => none
theorem eqS_ok {a b : D} {k : Bool} (h : eqS a b = some k) : ∃ x y, sV a = some x ∧ sV b = some y ∧ scal x y = true ∧ decide (x = y) = k := by
  unfold eqS at h
  split at h <;> first
    | (cases h; exact ⟨_, _, rfl, rfl, rfl, by simp⟩)
    | cases h
theorem dat_sV {a : D} {x v : V} (h : Vw K t H a v) (e : sV a = some x) : v = x := by
  unfold sV at e
  split at e <;> first
    | (cases e; exact h)
    | cases e
theorem op_eqDD (hu : X.A.units + 64 < cLine) : OpR X (compareOp .Eq) (rF X.K eqD) := by
  intro pins s σ H x y v u Q I rx ry ⟨t, a, b, tg, da, db, h⟩
  unfold eqD eqB at h
  cases e : eqS a b with
  | some k =>
    rw [e] at h
    obtain ⟨x', y', e1, e2, sc, dk⟩ := eqS_ok e
    have ex := dat_sV da e1
    have ey := dat_sV db e2
    subst ex ey
    exact op_eq pins s σ H _ _ v u Q I rx ry ⟨sc, by rw [dk]; exact RO.bl h⟩
  | none =>
    rw [e] at h
    unfold eqP at h
    cases e1 : toP a with
    | none => rw [e1] at h; exact h.elim
    | some p =>
      cases e2 : toP b with
      | none => rw [e1, e2] at h; exact h.elim
      | some q =>
        rw [e1, e2] at h
        dsimp only at h
        split at h
        · rename_i hs
          exact op_eqD hu pins s σ H _ _ v u Q I rx ry ⟨p, q, dp_vw da e1, dp_vw db e2, hs.1, hs.2, RO.bl h⟩
        · exact h.elim
theorem op_neDD (hu : X.A.units + 64 < cLine) : OpR X (compareOp .NotEq) (rF X.K neD) := by
  intro pins s σ H x y v u Q I rx ry ⟨t, a, b, tg, da, db, h⟩
  unfold neD eqB at h
  cases e : eqS a b with
  | some k =>
    rw [e] at h
    obtain ⟨x', y', e1, e2, sc, dk⟩ := eqS_ok e
    have ex := dat_sV da e1
    have ey := dat_sV db e2
    subst ex ey
    exact op_ne pins s σ H _ _ v u Q I rx ry ⟨sc, by rw [dk]; exact RO.bl h⟩
  | none =>
    rw [e] at h
    unfold eqP at h
    cases e1 : toP a with
    | none => rw [e1] at h; exact h.elim
    | some p =>
      cases e2 : toP b with
      | none => rw [e1, e2] at h; exact h.elim
      | some q =>
        rw [e1, e2] at h
        dsimp only at h
        split at h
        · rename_i hs
          exact op_neD hu pins s σ H _ _ v u Q I rx ry ⟨p, q, dp_vw da e1, dp_vw db e2, hs.1, hs.2, RO.bl h⟩
        · exact h.elim
theorem ix_D : IxR X (rF X.K ixD) := by
  intro value slice pins s σ H x y v u Q I rx ry ⟨t, a, b, tg, da, db, h⟩ hs
  refine ix_seq value slice pins s σ H x y v u Q I rx ry ?_ hs
  unfold ixD at h
  split at h
  · simp only [Vw] at da db
    obtain ⟨p, vs, rfl, sp, _, mp⟩ := da
    rename_i xs i _
    cases e : atI xs i with
    | none => rw [e] at h; exact h.elim
    | some d =>
      rw [e] at h
      obtain ⟨w, e1, h1⟩ := mp.at e
      exact .inl ⟨p, vs, i, w, rfl, db, SqL.of sp, e1, RO.val h h1⟩
  · simp only [Vw] at da db
    obtain ⟨p, vs, rfl, sp, mp⟩ := da
    rename_i xs i
    cases e : atI xs i with
    | none => rw [e] at h; exact h.elim
    | some d =>
      rw [e] at h
      obtain ⟨w, e1, h1⟩ := mp.at e
      exact .inr (.inl ⟨p, vs, i, w, rfl, db, fz_le.sqT sp, e1, RO.val h h1⟩)
  · simp only [Vw] at da db
    obtain ⟨p, rfl, sp⟩ := da
    rename_i xs i
    cases e : atI xs i with
    | none => rw [e] at h; exact h.elim
    | some d =>
      rw [e] at h
      refine .inl ⟨p, xs.map V.int, i, .int d, rfl, db, fz_le.sqL sp, ?_, RO.int h⟩
      unfold atI at e ⊢
      rw [List.length_map]
      cases q : ixN xs.length i with
      | none => rw [q] at e; cases e
      | some j =>
        rw [q] at e
        show (xs.map V.int)[j]? = _
        rw [List.getElem?_map, show xs[j]? = some d from e]
        rfl
  · simp only [Vw] at da db
    rename_i z i
    split at h
    · rename_i hz
      cases e : atI z.cps.toList i with
      | none => rw [e] at h; exact h.elim
      | some c =>
        rw [e] at h
        exact .inr (.inr ⟨z, i, c, da, db, hz, e, RO.str h⟩)
    · exact h.elim
  · exact h.elim
end
end Dn
end

section
set_option maxHeartbeats 4000000
-- Dn6
/-! Dn6: statements -/
namespace Dn
open PySem PySem.Spec L2

inductive OutS where
  | nx (st : DSt)
  | rt (r : RV) (st : DSt)
  | bk (st : DSt)
  | ct (st : DSt)
  | ex (c : Str) (v : D) (st : DSt)
  | no
abbrev DS := DSt → OutS
def ResS (K : PySem.W.Frag) (W : WX) (D : Ends) (t : Tags) (H : Hp) : OutS → Prop
  | .nx st' => ∀ t' σ' H', ExtW t H t' H' → R K t' st' σ' H' → D.nx σ' H'
  | .rt r st' => ∀ t' σ' H' v, ExtW t H t' H' → R K t' st' σ' H' → IsRV K t H t' H' r v → D.rt v H'
  | .bk st' => ∀ t' σ' H', ExtW t H t' H' → R K t' st' σ' H' → D.bk σ' H'
  | .ct st' => ∀ t' σ' H', ExtW t H t' H' → R K t' st' σ' H' → D.ct σ' H'
  | .ex c x st' => ∀ t' σ' H' d, ExtW t H t' H' → R K t' st' σ' H' → ExAt K t' H' d x → W (.ref (He.ga K c)) (some d) σ' H'
  | .no => False
def tS (K : PySem.W.Frag) (W : WX) (g : DS) : TS := fun D σ H => ∃ t st, R K t st σ H ∧ ResS K W D t H (g st)
section
variable {K : PySem.W.Frag} {W : WX} {D : Ends} {t t1 : Tags} {H H1 : Hp} {st : DSt} {σ : L2.St}
theorem ResS.step (E : ExtW t H t1 H1) : ∀ {o : OutS}, ResS K W D t H o → ResS K W D t1 H1 o
  | .nx _, h => fun t' σ' H' E' R' => h t' σ' H' (E.trans E') R'
  | .rt _ _, h => fun t' σ' H' v E' R' p => h t' σ' H' v (E.trans E') R' (sta_rv _ _ _ _ _ _ _ _ E p)
  | .bk _, h => fun t' σ' H' E' R' => h t' σ' H' (E.trans E') R'
  | .ct _, h => fun t' σ' H' E' R' => h t' σ' H' (E.trans E') R'
  | .ex _ _ _, h => fun t' σ' H' d E' R' p => h t' σ' H' d (E.trans E') R' p
  | .no, h => h
def Out.bindS {α : Type} : Out α → (α → DSt → OutS) → OutS
  | .ok a st, f => f a st
  | .ex c v st, _ => .ex c v st
  | .no, _ => .no
/-- an expression first -/
theorem tG_atS {α : Type} {Q1 : VK} {P1 : RP α} {g : DSt → Out α} {f : α → DSt → OutS} (r : R K t st σ H)
    (h : ResS K W D t H ((g st).bindS f))
    (k : ∀ t1 st1 H1 a v, Ext t H t1 H1 → R K t1 st1 σ H1 → P1 t H t1 H1 a v → ResS K W D t H (f a st1) → Q1 v H1) : tG K W g P1 σ H Q1 := by
  refine ⟨t, st, r, ?_⟩
  cases e : g st with
  | no => rw [e] at h; exact h
  | ex c x st' => rw [e] at h; exact fun t' H' d E' R' p => h t' σ H' d E'.w R' p
  | ok a st' =>
    rw [e] at h
    exact fun t1 H1 v E1 R1 p1 => k t1 st' H1 a v E1 R1 p1 h
theorem tT_atS {Q1 : Bool → Hp → Prop} {g : DT} {f : Bool → DSt → OutS} (r : R K t st σ H)
    (h : ResS K W D t H ((g st).bindS f))
    (k : ∀ t1 st1 H1 b, Ext t H t1 H1 → R K t1 st1 σ H1 → ResS K W D t H (f b st1) → Q1 b H1) : tT K W g σ H Q1 := by
  refine ⟨t, st, r, ?_⟩
  cases e : g st with
  | no => rw [e] at h; exact h
  | ex c x st' => rw [e] at h; exact fun t' H' d E' R' p => h t' σ H' d E'.w R' p
  | ok a st' =>
    rw [e] at h
    exact fun t1 H1 E1 R1 => k t1 st' H1 a E1 R1 h
end
section
variable {X : Cx} {W : WX} {e : Expr} {g : DE} {pos : Pos} {s s2 : Stmt} {ss : List Stmt} {a b : DS}
theorem PS.imp {s : Stmt} {t t' : TS} (h : PS X s t) (i : ∀ D σ H, t' D σ H → t D σ H) : PS X s t' := ⟨fun pins s σ H D I q => h.run pins s σ H D I (i D σ H q)⟩
theorem PSs.imp {s : List Stmt} {t t' : TS} (h : PSs X s t) (i : ∀ D σ H, t' D σ H → t D σ H) : PSs X s t' := ⟨fun pins s σ H D I q => h.run pins s σ H D I (i D σ H q)⟩
/-! ### blocks -/
def gNil : DS := fun st => .nx st
def gSeq (a b : DS) : DS := fun st => match a st with
  | .nx st => b st
  | o => o
theorem dss_nil : PSs X [] (tS X.K W gNil) := PSs.imp pss_nil fun D σ H ⟨t, st, r, h⟩ => h t σ H (ExtW.refl t H) r
theorem seq_of {K : PySem.W.Frag} {D : Ends} {σ : L2.St} {H : Hp} (h : tS K W (gSeq a b) D σ H) : tSeq (tS K W a) (tS K W b) D σ H := by
  obtain ⟨t, st, r, h⟩ := h
  refine ⟨t, st, r, ?_⟩
  unfold gSeq at h
  cases e : a st with
  | nx st1 =>
    rw [e] at h
    exact fun t1 σ1 H1 E1 R1 => ⟨t1, st1, R1, h.step E1⟩
  | rt _ _ => rw [e] at h; exact h
  | bk _ => rw [e] at h; exact h
  | ct _ => rw [e] at h; exact h
  | ex _ _ _ => rw [e] at h; exact h
  | no => rw [e] at h; exact h
theorem dss_cons (h1 : PS X s (tS X.K W a)) (h2 : PSs X ss (tS X.K W b)) : PSs X (s :: ss) (tS X.K W (gSeq a b)) := PSs.imp (pss_cons h1 h2) fun _ _ _ h => seq_of h
theorem ds_pass : PS X (.Pass pos) (tS X.K W gNil) := PS.imp ps_pass fun D σ H ⟨t, st, r, h⟩ => h t σ H (ExtW.refl t H) r
theorem ds_break : PS X (.Break pos) (tS X.K W (fun st => .bk st)) := PS.imp ps_break fun D σ H ⟨t, st, r, h⟩ => h t σ H (ExtW.refl t H) r
theorem ds_cont : PS X (.Continue pos) (tS X.K W (fun st => .ct st)) := PS.imp ps_continue fun D σ H ⟨t, st, r, h⟩ => h t σ H (ExtW.refl t H) r
/-! ### return -/
def gRet (g : DE) : DS := fun st => (g st).bindS fun r st => .rt r st
theorem ds_ret (h : PE X e (tD X.K W g)) : PS X (.Return (some e) pos) (tS X.K W (gRet g)) :=
  PS.imp (ps_ret h) fun D σ H ⟨t, st, r, q⟩ => tG_atS r q fun t1 st1 H1 x v E1 R1 p1 q1 => q1 t1 σ H1 v E1.w R1 p1
def gRetN : DS := fun st => .rt (.sh .non) st
theorem ds_retN : PS X (.Return none pos) (tS X.K W gRetN) :=
  PS.imp ps_retN fun D σ H ⟨t, st, r, q⟩ => q t σ H .non (ExtW.refl t H) r (by show Dat _ _ _ _ _; rw [Dat])
/-- return of a name: what is one's own is handed over -/
def gRetV (i : Nat) : DS := fun st => match st.env[i]? with
  | some (some (.sh d)) => .rt (.sh d) st
  | some (some (.ow o)) => .rt (.ow o) { st with env := st.env.set i none }
  | _ => .no
theorem le_untag {t : Tags} {H : Hp} {a : Addr} {x : Tag} (n : t a ≠ .frz) (nx : x ≠ .frz) : Le (fz t H) (fz (setT t a x) H) := fun b o h => by
  obtain ⟨h1, h2⟩ := of_fz h
  have ne : b ≠ a := fun e => n (e ▸ h1)
  rw [fz_of (by rw [setT_ne ne]; exact h1)]
  exact h2
/-- a tag of a slot that is not read is turned -/
theorem R0.retag {K : PySem.W.Frag} {t : Tags} {S : List OD} {H : Hp} {a : Addr} {x : Tag} (r : R0 K t S H) (n : t a ≠ .frz) (c : ∀ k, t a ≠ .cell k) (nx : x ≠ .frz) (cx : ∀ k, x ≠ .cell k) (hs : H a ≠ none) : R0 K (setT t a x) S H where
  tag := fun b h => by
    by_cases e : b = a
    · rw [e]; exact hs
    · rw [setT_ne e] at h; exact r.tag b h
  cel := fun k o h => by
    obtain ⟨b, h1, h2, h3⟩ := r.cel k o h
    have ne : b ≠ a := fun e => c k (e ▸ h1)
    refine ⟨b, by rw [setT_ne ne]; exact h1, fun b' hb' => ?_, h3.mono (le_untag n nx) (rho_retag c) fun _ h => h⟩
    by_cases e : b' = a
    · rw [e, setT_same] at hb'; exact absurd hb' (cx k)
    · rw [setT_ne e] at hb'; exact h2 b' hb'
  lt := fun b k h => by
    by_cases e : b = a
    · rw [e, setT_same] at h; exact absurd h (cx k)
    · rw [setT_ne e] at h; exact r.lt b k h
theorem SlotIs.retag {K : PySem.W.Frag} {t : Tags} {H : Hp} {a : Addr} {x : Tag} {i : Nat} {y : RV} {v : V} (n : t a ≠ .frz) (c : ∀ k, t a ≠ .cell k) (nx : x ≠ .frz) (ns : t a ≠ .slot i) (h : SlotIs K t H i y v) : SlotIs K (setT t a x) H i y v := by
  cases y with
  | sh d => exact Dat.mono (le_untag n nx) (rho_retag c) h
  | ow o =>
    obtain ⟨b, e, h1, h2⟩ := h
    have ne : b ≠ a := fun e => ns (e ▸ h1)
    exact ⟨b, e, by rw [setT_ne ne]; exact h1, h2.mono (le_untag n nx) (rho_retag c) fun _ h => h⟩
theorem retV_of {K : PySem.W.Frag} {i : Nat} {D : Ends} {σ : L2.St} {H : Hp} (h : tS K W (gRetV i) D σ H) : tRet (tVar i) D σ H := by
  obtain ⟨t, st, r, q⟩ := h
  unfold gRetV at q
  cases e : st.env[i]? with
  | none => rw [e] at q; exact q.elim
  | some o =>
    cases o with
    | none => rw [e] at q; exact q.elim
    | some x =>
      obtain ⟨v, ev, sl⟩ := r.env i x e
      refine ⟨v, ev, ?_⟩
      cases x with
      | sh d =>
        rw [e] at q
        exact q t σ H v (ExtW.refl t H) r sl
      | ow ob =>
        rw [e] at q
        obtain ⟨p, rfl, h1, h2⟩ := sl
        have nf : t p ≠ .frz := by rw [h1]; exact nofun
        have nc : ∀ k, t p ≠ .cell k := fun k => by rw [h1]; exact nofun
        refine q (setT t p .non) σ H (.ref p) ⟨fun b hb => ?_, fun b k hb => ?_, fun b u hb eb => ?_⟩ ⟨r.r0.retag nf nc nofun (fun _ => nofun) h2.there, by simpa using r.len, fun j y ej => ?_⟩ (show IsRV K t H (setT t p .non) H (.ow ob) (.ref p) from ⟨p, rfl, (fun z => by rw [h1] at z; cases z), setT_same, h2.mono (le_untag (x := .non) nf nofun) (rho_retag nc) fun _ h => h⟩)
        · have ne : b ≠ p := fun z => nf (z ▸ hb)
          exact ⟨by rw [setT_ne ne]; exact hb, rfl⟩
        · have ne : b ≠ p := fun z => nc k (z ▸ hb)
          rw [setT_ne ne]; exact hb
        · have ne : b ≠ p := fun z => by rw [z, h1] at hb; cases hb
          exact ⟨by rw [setT_ne ne]; exact hb, eb⟩
        · by_cases hj : i = j
          · subst hj
            have hl : i < st.env.length := (List.getElem?_eq_some_iff.mp e).1
            have ej : (st.env.set i none)[i]? = some (some y) := ej
            rw [List.getElem?_set_self hl] at ej
            cases ej
          · have ej : (st.env.set i none)[j]? = some (some y) := ej
            rw [List.getElem?_set_ne hj] at ej
            obtain ⟨w, ew, sw⟩ := r.env j y ej
            exact ⟨w, ew, sw.retag nf nc nofun (fun z => hj (by rw [h1] at z; injection z))⟩
theorem ds_retV {i : Nat} {x : Str} {p : Pos} (hN : X.N[i]? = some x) (hv : Vis X.env.scope x) (hd : (x == ("__debug__" : Str)) = false) (hcd : (x == ("__classdict__" : Str)) = false) : PS X (.Return (some (.Name x p)) pos) (tS X.K W (gRetV i)) :=
  PS.imp (ps_ret (pe_var hN hv hd hcd)) fun _ _ _ h => retV_of h
/-! ### an expression as a statement; if -/
def gExp (g : DE) : DS := fun st => (g st).bindS fun _ st => .nx st
theorem ds_expr (h : PE X e (tD X.K W g)) (hs : swapsWith e none pos.line X.env = pure false) : PS X (.Expr e pos) (tS X.K W (gExp g)) :=
  PS.imp (ps_expr h hs) fun D σ H ⟨t, st, r, q⟩ => tG_atS r q fun t1 st1 H1 x v E1 R1 p1 q1 => q1 t1 σ H1 E1.w R1
def gIfS (c : DT) (a b : DS) : DS := fun st => (c st).bindS fun k st => if k = true then a st else b st
theorem ds_if {c : Expr} {tc : DT} {x y : List Stmt} (hc : PT X c (tT X.K W tc)) (hx : PSs X x (tS X.K W a)) (hy : PSs X y (tS X.K W b)) : PS X (.If c x y pos) (tS X.K W (gIfS tc a b)) := by
  refine PS.imp (ps_if hc hx hy) fun D σ H ⟨t, st, r, h⟩ => ?_
  refine tT_atS r h fun t1 st1 H1 k E1 R1 q => ?_
  cases k with
  | true => exact ⟨t1, st1, R1, q.step E1.w⟩
  | false => exact ⟨t1, st1, R1, q.step E1.w⟩
/-! ### stores to names -/
def put (i : Nat) (x : RV) (st : DSt) : DSt := { st with env := st.env.set i (some x) }
/-- a value that was just made comes into a slot -/
theorem R.stored {K : PySem.W.Frag} {t0 t : Tags} {H0 H : Hp} {st : DSt} {σ : L2.St} {i : Nat} {x : RV} {v : V} (E : Ext t0 H0 t H) (r : R K t st σ H) (p : IsRV K t0 H0 t H x v) :
    ∃ t', ExtW t0 H0 t' H ∧ R K t' (put i x st) (σ.set i (some v)) H := by
  have slots : ∀ {t' : Tags}, (∀ j y w, j ≠ i → SlotIs K t H j y w → SlotIs K t' H j y w) → SlotIs K t' H i x v → ∀ (j : Nat) (y : RV), (put i x st).env[j]? = some (some y) → ∃ w, (σ.set i (some v))[j]? = some (some w) ∧ SlotIs K t' H j y w := fun {t'} k hi j y ej => by
    have ej : (st.env.set i (some x))[j]? = some (some y) := ej
    by_cases hj : i = j
    · subst hj
      by_cases hl : i < st.env.length
      · rw [List.getElem?_set_self hl] at ej
        cases ej
        exact ⟨v, List.getElem?_set_self (by rw [← r.len]; exact hl), hi⟩
      · rw [List.getElem?_eq_none (by simpa using hl)] at ej
        cases ej
    · rw [List.getElem?_set_ne hj] at ej ⊢
      obtain ⟨w, ew, sw⟩ := r.env j y ej
      exact ⟨w, ew, k j y w (Ne.symm hj) sw⟩
  have len : (put i x st).env.length = (σ.set i (some v)).length := by
    show (st.env.set i (some x)).length = _
    simp only [List.length_set]; exact r.len
  cases x with
  | sh d => exact ⟨t, E.w, ⟨r.r0, len, slots (fun _ _ _ _ h => h) p⟩⟩
  | ow o =>
    obtain ⟨a, rfl, h1, h2, h3⟩ := p
    have nf : t a ≠ .frz := by rw [h2]; exact nofun
    have nc : ∀ k, t a ≠ .cell k := fun k => by rw [h2]; exact nofun
    refine ⟨setT t a (.slot i), ⟨fun b hb => ?_, fun b k hb => ?_, fun b u hb e => ?_⟩, ⟨r.r0.retag nf nc nofun (fun _ => nofun) h3.there, len,
      slots (fun j y w _ h => h.retag nf nc nofun (by rw [h2]; exact nofun)) ⟨a, rfl, setT_same, h3.mono (le_untag (x := .slot i) nf nofun) (rho_retag nc) fun _ h => h⟩⟩⟩
    · obtain ⟨q1, q2⟩ := E.frz b hb
      have ne : b ≠ a := fun e => nf (e ▸ q1)
      exact ⟨by rw [setT_ne ne]; exact q1, q2⟩
    · have q := E.cel b k hb
      have ne : b ≠ a := fun e => nc k (e ▸ q)
      rw [setT_ne ne]; exact q
    · have ne : b ≠ a := fun e' => by
        subst e'
        rw [h1 hb] at e; cases e
      obtain ⟨q1, q2⟩ := E.oth b u hb e
      exact ⟨by rw [setT_ne ne]; exact q1, q2⟩
def gSet (i : Nat) (g : DE) : DS := fun st => (g st).bindS fun x st => .nx (put i x st)
theorem set_of {K : PySem.W.Frag} {i : Nat} {D : Ends} {σ : L2.St} {H : Hp} (h : tS K W (gSet i g) D σ H) : tAsg (tD K W g) (gName i) D σ H := by
  obtain ⟨t, st, r, q⟩ := h
  refine tG_atS r q fun t1 st1 H1 x v E1 R1 p1 q1 => ?_
  obtain ⟨t2, E2, R2⟩ := R.stored (i := i) E1 R1 p1
  exact q1 t2 _ H1 E2 R2
theorem ds_set {i : Nat} {x : Str} {pos' : Pos} (hN : X.N.Nodup) (hi : X.N[i]? = some x) (hx : Loc X.env.scope x) (he : PE X e (tD X.K W g)) (hs : swapsWith e (some (.Name x pos')) pos.line X.env = pure false) (hf : X.fn x = true ∨ X.env.scope.names.lookup x = some .local) :
    PS X (.Assign [.Name x pos'] e pos) (tS X.K W (gSet i g)) := PS.imp (ps_set hN hi hx he hs hf) fun _ _ _ h => set_of h
end
end Dn
end

section
set_option maxHeartbeats 4000000
-- Dn7
/-! Dn7: targets, what is walked, for, while -/
namespace Dn
open PySem PySem.Spec L2

/-! ### targets -/
abbrev GT := D → DSt → Option DSt
/-- names are stored: tags and heap stay, slots but those at sl, too -/
def after (K : PySem.W.Frag) (t : Tags) (H : Hp) (σ : L2.St) (sl : List Nat) (Q : L2.St → Hp → Prop) : Option DSt → Prop
  | some st' => ∀ σ' : L2.St, σ'.length = σ.length → (∀ j, j ∉ sl → σ'[j]? = σ[j]?) → R K t st' σ' H → Q σ' H
  | none => False
def TgOk (K : PySem.W.Frag) (g : TG) (f : GT) (sl : List Nat) : Prop := ∀ (t : Tags) (st : DSt) (σ : L2.St) (H : Hp) (d : D) (v : V) (Q : L2.St → Hp → Prop), R K t st σ H → Dat K (fz t H) (rho t) d v → after K t H σ sl Q (f d st) → g v σ H Q
abbrev GTs := List D → DSt → Option DSt
def TgsOk (K : PySem.W.Frag) (g : TGs) (f : GTs) (sl : List Nat) : Prop := ∀ (t : Tags) (st : DSt) (σ : L2.St) (H : Hp) (d : List D) (v : List V) (Q : L2.St → Hp → Prop), R K t st σ H → Dats K (fz t H) (rho t) d v → after K t H σ sl Q (f d st) → g v σ H Q
theorem R.storeSh {K : PySem.W.Frag} {t : Tags} {H : Hp} {st : DSt} {σ : L2.St} {i : Nat} {d : D} {v : V} (r : R K t st σ H) (p : Dat K (fz t H) (rho t) d v) : R K t (put i (.sh d) st) (σ.set i (some v)) H where
  r0 := r.r0
  len := by
    show (st.env.set i (some (.sh d))).length = _
    simp only [List.length_set]; exact r.len
  env := fun j y ej => by
    have ej : (st.env.set i (some (.sh d)))[j]? = some (some y) := ej
    by_cases hj : i = j
    · subst hj
      by_cases hl : i < st.env.length
      · rw [List.getElem?_set_self hl] at ej
        cases ej
        exact ⟨v, List.getElem?_set_self (by rw [← r.len]; exact hl), p⟩
      · rw [List.getElem?_eq_none (by simpa using hl)] at ej
        cases ej
    · rw [List.getElem?_set_ne hj] at ej ⊢
      exact r.env j y ej
def fName (i : Nat) : GT := fun d st => some (put i (.sh d) st)
theorem tg_name {K : PySem.W.Frag} {i : Nat} : TgOk K (gName i) (fName i) [i] := fun t st σ H d v Q r p h =>
  h _ (by simp) (fun j hj => List.getElem?_set_ne (fun e => hj (by simp [e]))) (r.storeSh p)
def fNil : GTs := fun ds st => match ds with
  | [] => some st
  | _ => none
def fCons (f : GT) (g : GTs) : GTs := fun ds st => match ds with
  | d :: ds => (f d st).bind fun st => g ds st
  | [] => none
def fTup (n : Nat) (f : GTs) : GT := fun d st => match d with
  | .tup xs => if xs.length = n then f xs st else none
  | _ => none
theorem tgs_nil {K : PySem.W.Frag} : TgsOk K L2.gNil fNil [] := fun t st σ H d v Q r p h => by
  cases d with
  | nil =>
    rw [Dats] at p
    exact ⟨p, h σ rfl (fun _ _ => rfl) r⟩
  | cons _ _ => exact h.elim
theorem tgs_cons {K : PySem.W.Frag} {g : TG} {f : GT} {gs : TGs} {fs : GTs} {s1 s2 : List Nat} (h1 : TgOk K g f s1) (h2 : TgsOk K gs fs s2) : TgsOk K (gCons g gs) (fCons f fs) (s1 ++ s2) := fun t st σ H d v Q r p h => by
  cases d with
  | nil => exact h.elim
  | cons d ds =>
    rw [Dats] at p
    obtain ⟨x, us, rfl, p1, p2⟩ := p
    refine ⟨x, us, rfl, h1 t st σ H d x _ r p1 ?_⟩
    have h : after K t H σ (s1 ++ s2) Q ((f d st).bind fun st => fs ds st) := h
    cases e : f d st with
    | none => rw [e] at h; exact h.elim
    | some st1 =>
      rw [e] at h
      intro σ1 l1 E1 R1
      refine h2 t st1 σ1 H ds us Q R1 p2 ?_
      have h : after K t H σ (s1 ++ s2) Q (fs ds st1) := h
      cases e2 : fs ds st1 with
      | none => rw [e2] at h; exact h.elim
      | some st2 =>
        rw [e2] at h
        exact fun σ2 l2 E2 R2 => h σ2 (l2.trans l1) (fun j hj => (E2 j (fun z => hj (List.mem_append_right _ z))).trans (E1 j fun z => hj (List.mem_append_left _ z))) R2
theorem tg_tup {K : PySem.W.Frag} {n : Nat} {gs : TGs} {fs : GTs} {sl : List Nat} (h2 : TgsOk K gs fs sl) : TgOk K (gTup K n gs) (fTup n fs) sl := fun t st σ H d v Q r p h => by
  cases d with
  | tup xs =>
    rw [Dat] at p
    obtain ⟨a, vs, e, s, m⟩ := p
    have h : after K t H σ sl Q (if xs.length = n then fs xs st else none) := h
    by_cases hl : xs.length = n
    · rw [if_pos hl] at h
      exact ⟨a, vs, e, fz_le.sqT s, by rw [← m.length]; exact hl, h2 t st σ H xs vs Q r m h⟩
    · rw [if_neg hl] at h; exact h.elim
  | _ => exact h.elim

/-! ### walks -/
structure Wk (K : PySem.W.Frag) (t : Tags) (H : Hp) (J : It) (ds : List D) : Prop where
  at_ : ∀ t1 H1, ExtW t H t1 H1 → TagOk t1 H1 → ∀ (i : Nat) (d : D), ds[i]? = some d → J.go i H1 ∧ ∀ x H2, J.yld i H1 x H2 → ∃ t2, Grow K t1 H1 t2 H2 ∧ Dat K (fz t2 H2) (rho t2) d x
  end_ : ∀ t1 H1, ExtW t H t1 H1 → ∀ i, ds.length ≤ i → J.stop i H1
abbrev DL := DSt → Out (List D)
def ResI (K : PySem.W.Frag) (W : WX) (σ : L2.St) (Q : It → Hp → Prop) (t : Tags) (H : Hp) : Out (List D) → Prop
  | .ok ds st' => ∀ t' H' J, Ext t H t' H' → R K t' st' σ H' → Wk K t' H' J ds → Q J H'
  | .ex c x st' => ∀ t' H' d, Ext t H t' H' → R K t' st' σ H' → ExAt K t' H' d x → W (.ref (He.ga K c)) (some d) σ H'
  | .no => False
def tI (K : PySem.W.Frag) (W : WX) (g : DL) : TI := fun σ H Q => ∃ t st, R K t st σ H ∧ ResI K W σ Q t H (g st)
theorem PI.imp {X : Cx} {tg e : Expr} {w w' : TI} (h : PI X tg e w) (i : ∀ σ H Q, w' σ H Q → w σ H Q) : PI X tg e w' := ⟨fun pins s σ H Q I q => h.run pins s σ H Q I (i σ H Q q)⟩
theorem tG_atI {α : Type} {K : PySem.W.Frag} {W : WX} {σ : L2.St} {t : Tags} {H : Hp} {Q : It → Hp → Prop} {Q1 : VK} {P1 : RP α} {st : DSt} {g : DSt → Out α} {f : α → DSt → Out (List D)} (r : R K t st σ H)
    (h : ResI K W σ Q t H ((g st).bind f))
    (k : ∀ t1 st1 H1 a v, Ext t H t1 H1 → R K t1 st1 σ H1 → P1 t H t1 H1 a v → ResI K W σ Q t H (f a st1) → Q1 v H1) : tG K W g P1 σ H Q1 := by
  refine ⟨t, st, r, ?_⟩
  cases e : g st with
  | no => rw [e] at h; exact h
  | ex c x st' => rw [e] at h; exact h
  | ok a st' =>
    rw [e] at h
    exact fun t1 H1 v E1 R1 p1 => k t1 st' H1 a v E1 R1 p1 h
def asL : D → Option (List D)
  | .lst xs => some xs
  | _ => none
def asTu : D → Option (List D)
  | .tup xs => some xs
  | _ => none
def asLT : D → Option (List D)
  | .lst xs => some xs
  | .tup xs => some xs
  | _ => none
def signs (x : Str) : List D := x.cps.toList.map fun c => .str ⟨#[c]⟩
def asSt : D → Option (List D)
  | .str x => some (signs x)
  | _ => none
def gI (f : D → Option (List D)) (g : DE) : DL := fun st => (frz g st).bind fun d st => match f d with
  | some l => .ok l st
  | none => .no
section
variable {X : Cx} {W : WX} {tg e : Expr} {g : DE}
theorem wk_list {K : PySem.W.Frag} {t : Tags} {H : Hp} {a : Addr} {vs : List V} {ds : List D} (h : fz t H a = some (.lst vs)) (m : Dats K (fz t H) (rho t) ds vs) : Wk K t H (Itl K a) ds where
  at_ := fun t1 H1 E1 _ i d hd => by
    obtain ⟨v, hv, dv⟩ := m.get hd
    have hl : SqL K H1 a vs := SqL.of (fz_le _ _ (E1.le _ _ h))
    refine ⟨⟨vs, v, hl, hv⟩, fun x H2 ⟨e, q⟩ => ?_⟩
    subst e
    have e := q vs hl
    rw [hv] at e
    cases e
    exact ⟨t1, Grow.refl, dv.mono E1.le E1.rh⟩
  end_ := fun t1 H1 E1 i hi => ⟨vs, SqL.of (fz_le _ _ (E1.le _ _ h)), by rw [← m.length]; exact hi⟩
theorem wk_tup {K : PySem.W.Frag} {t : Tags} {H : Hp} {a : Addr} {vs : List V} {ds : List D} (h : SqT K (fz t H) a vs) (m : Dats K (fz t H) (rho t) ds vs) : Wk K t H (Itt K a) ds where
  at_ := fun t1 H1 E1 _ i d hd => by
    obtain ⟨v, hv, dv⟩ := m.get hd
    have hl : SqT K H1 a vs := (Le.trans E1.le fz_le).sqT h
    refine ⟨⟨vs, v, hl, hv⟩, fun x H2 ⟨e, q⟩ => ?_⟩
    subst e
    have e := q vs hl
    rw [hv] at e
    cases e
    exact ⟨t1, Grow.refl, dv.mono E1.le E1.rh⟩
  end_ := fun t1 H1 E1 i hi => ⟨vs, (Le.trans E1.le fz_le).sqT h, by rw [← m.length]; exact hi⟩
theorem wk_str {K : PySem.W.Frag} {t : Tags} {H : Hp} {x : Str} : Wk K t H (Its x) (signs x) where
  at_ := fun t1 H1 E1 _ i d hd => by
    unfold signs at hd
    rw [List.getElem?_map] at hd
    obtain ⟨c, hc, rfl⟩ := Option.map_eq_some_iff.mp hd
    rw [Array.getElem?_toList] at hc
    refine ⟨(Array.getElem?_eq_some_iff.mp hc).1, fun v H2 ⟨e, c', hc', ev⟩ => ?_⟩
    subst e
    rw [hc] at hc'
    cases hc'
    exact ⟨t1, Grow.refl, by rw [Dat]; exact ev⟩
  end_ := fun t1 H1 E1 i hi => by
    show x.cps.size ≤ i
    simpa [signs] using hi
theorem wk_enum {K : PySem.W.Frag} {t : Tags} {H : Hp} {a : Addr} {vs : List V} {ds : List D} (h : fz t H a = some (.lst vs)) (m : Dats K (fz t H) (rho t) ds vs) : Wk K t H (Ite K a) (ds.zipIdx.map fun p => .tup [.int p.2, p.1]) where
  at_ := fun t1 H1 E1 tg i d hd => by
    rw [List.getElem?_map] at hd
    obtain ⟨⟨d0, i0⟩, hc, rfl⟩ := Option.map_eq_some_iff.mp hd
    rw [List.getElem?_zipIdx] at hc
    obtain ⟨d1, hc2, e⟩ := Option.map_eq_some_iff.mp hc
    injection e with e1 e2
    subst e1 e2
    obtain ⟨v, hv, dv⟩ := m.get hc2
    have hl : SqL K H1 a vs := SqL.of (fz_le _ _ (E1.le _ _ h))
    refine ⟨⟨vs, v, hl, hv⟩, fun x H2 ⟨T, y, ex, hT, eH, q⟩ => ?_⟩
    have e := q vs hl
    rw [hv] at e
    cases e
    subst ex eH
    obtain ⟨G, eT⟩ := grow_frz (K := K) (o := .tup [.int (i : Nat), v]) tg hT
    refine ⟨_, G, ?_⟩
    rw [Dat]
    refine ⟨T, _, rfl, .inl (.inl eT), Dats.cons (by rw [Dat]; simp) (Dats.cons (G.ext.dat (dv.mono E1.le E1.rh)) Dats.nil)⟩
  end_ := fun t1 H1 E1 i hi => ⟨vs, SqL.of (fz_le _ _ (E1.le _ _ h)), by rw [← m.length]; simpa using hi⟩
theorem di_list (h : PE X e (tD X.K W g)) : PI X tg e (tI X.K W (gI asL g)) := by
  refine PI.imp (pi_list (peZ h)) fun σ H Q ⟨t, st, r, q⟩ => ?_
  refine tG_atI r q fun t1 st1 H1 d v E1 R1 p1 q1 => ?_
  cases d with
  | lst xs =>
    have p1 : Dat X.K (fz t1 H1) (rho t1) (.lst xs) v := p1
    rw [Dat] at p1
    obtain ⟨a, vs, rfl, s, m⟩ := p1
    exact ⟨a, rfl, ⟨vs, SqL.of (fz_le _ _ s)⟩, q1 t1 H1 _ E1 R1 (wk_list s m)⟩
  | _ => exact q1.elim
theorem di_tup (h : PE X e (tD X.K W g)) : PI X tg e (tI X.K W (gI asTu g)) := by
  refine PI.imp (pi_tup (peZ h)) fun σ H Q ⟨t, st, r, q⟩ => ?_
  refine tG_atI r q fun t1 st1 H1 d v E1 R1 p1 q1 => ?_
  cases d with
  | tup xs =>
    have p1 : Dat X.K (fz t1 H1) (rho t1) (.tup xs) v := p1
    rw [Dat] at p1
    obtain ⟨a, vs, rfl, s, m⟩ := p1
    exact ⟨a, rfl, ⟨vs, fz_le.sqT s⟩, q1 t1 H1 _ E1 R1 (wk_tup s m)⟩
  | _ => exact q1.elim
theorem di_str (h : PE X e (tD X.K W g)) : PI X tg e (tI X.K W (gI asSt g)) := by
  refine PI.imp (pi_str (peZ h)) fun σ H Q ⟨t, st, r, q⟩ => ?_
  refine tG_atI r q fun t1 st1 H1 d v E1 R1 p1 q1 => ?_
  cases d with
  | str x =>
    have p1 : Dat X.K (fz t1 H1) (rho t1) (.str x) v := p1
    rw [Dat] at p1
    exact ⟨x, p1, q1 t1 H1 _ E1 R1 wk_str⟩
  | _ => exact q1.elim
end

/-! ### for -/
def gForL (f : GT) (b : DS) : List D → DS
  | [], st => .nx st
  | d :: ds, st => match f d st with
    | none => .no
    | some st1 => match b st1 with
      | .nx st2 => gForL f b ds st2
      | .ct st2 => gForL f b ds st2
      | .bk st2 => .nx st2
      | .rt r st2 => .rt r st2
      | .ex c x st2 => .ex c x st2
      | .no => .no
def gFor (s : DL) (f : GT) (b : DS) : DS := fun st => (s st).bindS fun ds st => gForL f b ds st
theorem R.tagOk {K : PySem.W.Frag} {t : Tags} {st : DSt} {σ : L2.St} {H : Hp} (r : R K t st σ H) : TagOk t H := r.r0.tag
theorem for_of {K : PySem.W.Frag} {W : WX} {s : DL} {g : TG} {f : GT} {b : DS} {D : Ends} {σ : L2.St} {H : Hp} {sl : List Nat} (tg : TgOk K g f sl) (h : tS K W (gFor s f b) D σ H) : tFor (tI K W s) g (tS K W b) D σ H := by
  obtain ⟨t, st, r, q⟩ := h
  refine ⟨t, st, r, ?_⟩
  unfold gFor at q
  cases e : s st with
  | no => rw [e] at q; exact q
  | ex c x st' => rw [e] at q; exact fun t' H' d E' R' p => q t' σ H' d E'.w R' p
  | ok ds st' =>
    rw [e] at q
    intro t0 H0 J E0 R0 wk
    have q0 : ResS K W D t0 H0 (gForL f b ds st') := ResS.step E0.w q
    refine ⟨fun i m σ' H' => ∃ t' s', ExtW t0 H0 t' H' ∧ R K t' s' σ' H' ∧ i + m = ds.length ∧ ResS K W D t' H' (gForL f b (ds.drop i) s'), ⟨ds.length, t0, st', ExtW.refl _ _, R0, by omega, q0⟩, ?_⟩
    rintro i m σ1 H1 ⟨t1, s1, E1, R1, hl, q1⟩
    cases hd : ds[i]? with
    | none =>
      have hi : ds.length ≤ i := List.getElem?_eq_none_iff.mp hd
      rw [List.drop_eq_nil_of_le hi] at q1
      exact .inl ⟨wk.end_ t1 H1 E1 i hi, q1 t1 σ1 H1 (ExtW.refl _ _) R1⟩
    | some d =>
      have hi : i < ds.length := (List.getElem?_eq_some_iff.mp hd).1
      obtain ⟨go, step⟩ := wk.at_ t1 H1 E1 R1.tagOk i d hd
      refine .inr ⟨go, fun σ' H' => ∃ m', m' < m ∧ ∃ t' s', ExtW t0 H0 t' H' ∧ R K t' s' σ' H' ∧ (i + 1) + m' = ds.length ∧ ResS K W D t' H' (gForL f b (ds.drop (i + 1)) s'), fun σ' H' ⟨m', lt, r'⟩ => ⟨m', lt, r'⟩, fun x H2 hy => ?_⟩
      obtain ⟨t2, G2, d2⟩ := step x H2 hy
      have ed : ds.drop i = d :: ds.drop (i + 1) := by
        rw [List.drop_eq_getElem_cons hi]
        congr 1
        exact (List.getElem?_eq_some_iff.mp hd).2
      rw [ed] at q1
      refine tg t2 s1 σ1 H2 d x _ (G2.st _ _ R1) d2 ?_
      rw [gForL] at q1
      cases e1 : f d s1 with
      | none => rw [e1] at q1; exact q1.elim
      | some s2 =>
        rw [e1] at q1
        dsimp only at q1
        intro σ3 _ _ R3
        have E13 : ExtW t1 H1 t2 H2 := G2.ext.w
        refine ⟨t2, s2, R3, ?_⟩
        have q1 := ResS.step E13 q1
        have nx : ∀ s4, ResS K W D t2 H2 (gForL f b (ds.drop (i + 1)) s4) → ∀ t' σ' H', ExtW t2 H2 t' H' → R K t' s4 σ' H' → ∃ m', m' < m ∧ ∃ t' s', ExtW t0 H0 t' H' ∧ R K t' s' σ' H' ∧ (i + 1) + m' = ds.length ∧ ResS K W D t' H' (gForL f b (ds.drop (i + 1)) s') := fun s4 q4 t' σ' H' E' R' =>
          ⟨m - 1, by omega, t', s4, (E1.trans E13).trans E', R', by omega, ResS.step E' q4⟩
        cases e2 : b s2 with
        | nx s4 => rw [e2] at q1; exact nx s4 q1
        | ct s4 => rw [e2] at q1; exact nx s4 q1
        | bk s4 => rw [e2] at q1; exact q1
        | rt r s4 => rw [e2] at q1; exact q1
        | ex c x s4 => rw [e2] at q1; exact q1
        | no => rw [e2] at q1; exact q1
theorem ds_for {X : Cx} {W : WX} {tg iter : Expr} {body : List Stmt} {s : DL} {g : TG} {f : GT} {b : DS} {pos : Pos} {sl : List Nat} (hp : PassesOwn (model X.prog X.w) X.A X.env X.xe) (hc : X.calm = true) (hi : PI X tg iter (tI X.K W s)) (hg : PG X tg g) (tk : TgOk X.K g f sl) (hb : PSs X body (tS X.K W b))
    (hs : ∀ x, foldedSetIterable iter X.env x = pure x) : PS X (.For tg iter body [] pos) (tS X.K W (gFor s f b)) := PS.imp (ps_for hp hc hi hg hb hs) fun _ _ _ h => for_of tk h

/-! ### while -/
def gWhileN (c : DT) (b : DS) : Nat → DS
  | 0, _ => .no
  | n + 1, st => (c st).bindS fun k st1 => if k = true then (match b st1 with
      | .nx st2 => gWhileN c b n st2
      | .ct st2 => gWhileN c b n st2
      | .bk st2 => .nx st2
      | .rt r st2 => .rt r st2
      | .ex c x st2 => .ex c x st2
      | .no => .no) else .nx st1
theorem while_of {K : PySem.W.Frag} {W : WX} {c : DT} {b : DS} {D : Ends} {σ : L2.St} {H : Hp} {n : Nat} (h : tS K W (gWhileN c b n) D σ H) : tWhile (tT K W c) (tS K W b) D σ H := by
  obtain ⟨t, st, r, q⟩ := h
  refine ⟨fun m σ' H' => ∃ t' s', R K t' s' σ' H' ∧ ResS K W D t' H' (gWhileN c b m s'), ⟨n, t, st, r, q⟩, ?_⟩
  rintro m σ1 H1 ⟨t1, s1, R1, q1⟩
  cases m with
  | zero => exact q1.elim
  | succ m =>
    rw [gWhileN] at q1
    refine tT_atS R1 q1 fun t2 s2 H2 k E2 R2 q2 => ?_
    cases k with
    | false => exact q2 t2 σ1 H2 E2.w R2
    | true =>
      have q2 := ResS.step E2.w q2
      rw [if_pos rfl] at q2
      refine ⟨fun σ' H' => ∃ t' s', R K t' s' σ' H' ∧ ResS K W D t' H' (gWhileN c b m s'), fun σ' H' r' => ⟨m, Nat.lt_succ_self m, r'⟩, t2, s2, R2, ?_⟩
      have nx : ∀ s4, ResS K W D t2 H2 (gWhileN c b m s4) → ∀ t' σ' H', ExtW t2 H2 t' H' → R K t' s4 σ' H' → ∃ t' s', R K t' s' σ' H' ∧ ResS K W D t' H' (gWhileN c b m s') := fun s4 q4 t' σ' H' E' R' => ⟨t', s4, R', ResS.step E' q4⟩
      cases e2 : b s2 with
      | nx s4 => rw [e2] at q2; exact nx s4 q2
      | ct s4 => rw [e2] at q2; exact nx s4 q2
      | bk s4 => rw [e2] at q2; exact q2
      | rt r s4 => rw [e2] at q2; exact q2
      | ex c x s4 => rw [e2] at q2; exact q2
      | no => rw [e2] at q2; exact q2
/-- .. some number of turns is enough -/
def gWhile (c : DT) (b : DS) (fuel : DSt → Nat) : DS := fun st => gWhileN c b (fuel st) st
theorem ds_while {X : Cx} {W : WX} {c : Expr} {body : List Stmt} {tc : DT} {b : DS} {fuel : DSt → Nat} {pos : Pos} (hp : PassesOwn (model X.prog X.w) X.A X.env X.xe) (hc : PT X c (tT X.K W tc)) (hb : PSs X body (tS X.K W b)) : PS X (.While c body [] pos) (tS X.K W (gWhile tc b fuel)) :=
  PS.imp (ps_while hp hc hb) fun D σ H ⟨t, st, r, h⟩ => while_of (n := fuel st) ⟨t, st, r, h⟩
end Dn
end

section
set_option maxHeartbeats 4000000
-- Dn8
/-! Dn8: is, in; argument lists, displays, calls of built-ins, methods of texts, slices -/
namespace Dn
open PySem PySem.Spec L2
section
variable {X : Cx} {K : PySem.W.Frag} {t : Tags} {H : Hp} {Q : VK} {F : Hp} {r : Nat → Addr → Prop}
theorem vw_notNon {d : D} {v : V} (h : Vw K t H d v) (e : d ≠ .non) : v ≠ .non := by
  cases d with
  | non => exact absurd rfl e
  | bl _ => cases h; exact nofun
  | int _ => cases h; exact nofun
  | str _ => cases h; exact nofun
  | tup _ => obtain ⟨a, vs, rfl, _⟩ := h; exact nofun
  | lst _ => obtain ⟨a, vs, rfl, _⟩ := h; exact nofun
  | dct _ => obtain ⟨a, vs, rfl, _⟩ := h; exact nofun
  | ins _ _ => obtain ⟨a, vs, _, rfl, _⟩ := h; exact nofun
  | exc c x =>
    have h : Dat K (fz t H) (rho t) (.exc c x) v := h
    rw [Dat] at h
    obtain ⟨a, vs, _, rfl, _⟩ := h; exact nofun
  | cell k =>
    have h : Dat K (fz t H) (rho t) (.cell k) v := h
    rw [Dat] at h
    obtain ⟨a, rfl, _⟩ := h; exact nofun
  | scr ns => obtain ⟨a, rfl, _⟩ := h; exact nofun
def isNone : D → Bool
  | .non => true
  | _ => false
def isND (a b : D) : Option RV := match b with
  | .non => bo (isNone a)
  | _ => none
def isntND (a b : D) : Option RV := match b with
  | .non => bo (!isNone a)
  | _ => none
theorem op_isND : OpR X (compareOp .Is) (rF X.K isND) := by
  intro pins s σ H x y v u Q I rx ry ⟨t, a, b, tg, da, db, h⟩
  unfold isND at h
  split at h
  · simp only [Vw] at db
    refine op_isN pins s σ H _ _ v u Q I rx ry ⟨db, ?_⟩
    have h := RO.bl h
    cases a with
    | non => cases da; exact h
    | _ => rw [decide_eq_false (vw_notNon da nofun)]; exact h
  · exact h.elim
theorem op_isntND : OpR X (compareOp .IsNot) (rF X.K isntND) := by
  intro pins s σ H x y v u Q I rx ry ⟨t, a, b, tg, da, db, h⟩
  unfold isntND at h
  split at h
  · simp only [Vw] at db
    refine op_notN pins s σ H _ _ v u Q I rx ry ⟨db, ?_⟩
    have h := RO.bl h
    cases a with
    | non => cases da; exact h
    | _ => rw [decide_eq_false (vw_notNon da nofun)]; exact h
  · exact h.elim
theorem flat_v {d : D} {v : V} (f : flatD d = true) (h : Dat K F r d v) : flatV v = true ∧ ∀ {e : D} {u : V}, flatD e = true → Dat K F r e u → eqV u v = eqF e d := by
  cases d <;> first
    | (rw [Dat] at h; subst h
       refine ⟨rfl, fun {e u} fe he => ?_⟩
       cases e <;> first
         | (rw [Dat] at he; subst he; rfl)
         | cases fe)
    | cases f
theorem flats_v : ∀ {ds : List D} {vs : List V}, ds.all flatD = true → Dats K F r ds vs → vs.all flatV = true ∧ ∀ {d : D} {v : V}, flatD d = true → Dat K F r d v → vs.any (fun y => eqV y v) = ds.any fun y => eqF y d
  | [], vs, f, h => by
    rw [Dats] at h
    subst h
    exact ⟨rfl, fun _ _ => rfl⟩
  | d :: ds, vs, f, h => by
    rw [Dats] at h
    obtain ⟨v, us, rfl, h1, h2⟩ := h
    rw [List.all_cons, Bool.and_eq_true] at f
    obtain ⟨q1, q2⟩ := flats_v f.2 h2
    refine ⟨by rw [List.all_cons, (flat_v f.1 h1).1, q1]; rfl, fun {d' v'} fd hd => ?_⟩
    rw [List.any_cons, List.any_cons, q2 fd hd, (flat_v fd hd).2 f.1 h1]
theorem vw_flat {d : D} {v : V} (f : flatD d = true) (h : Vw K t H d v) : Dat K (fz t H) (rho t) d v := by
  cases d <;> first
    | (rw [Dat]; exact h)
    | cases f
theorem in_str_occ {Q : Bool → Prop} : True := trivial
theorem op_inD : OpR X (compareOp .In) (rF X.K inD) := by
  intro pins s σ H x y v u Q I rx ry ⟨t, a, b, tg, da, db, h⟩
  unfold inD inB at h
  split at h
  · simp only [Vw] at da db
    subst da db
    exact op_in_str pins s σ H _ _ v u Q I rx ry ⟨_, _, rfl, rfl, RO.bl h⟩
  · split at h
    · rename_i hf
      obtain ⟨p, vs, rfl, sp, _, mp⟩ := db
      obtain ⟨q1, q2⟩ := flats_v hf.2 mp
      have fd := vw_flat hf.1 da
      exact op_in_seq pins s σ H _ _ v u Q I rx ry ⟨p, vs, rfl, .inl (SqL.of sp), (flat_v hf.1 fd).1, q1, by
        show Q (.bl (vs.any fun y => eqV y x)) H
        rw [q2 hf.1 fd]; exact RO.bl h⟩
    · exact h.elim
  · split at h
    · rename_i hf
      obtain ⟨p, vs, rfl, sp, mp⟩ := db
      obtain ⟨q1, q2⟩ := flats_v hf.2 mp
      have fd := vw_flat hf.1 da
      exact op_in_seq pins s σ H _ _ v u Q I rx ry ⟨p, vs, rfl, .inr (fz_le.sqT sp), (flat_v hf.1 fd).1, q1, by
        show Q (.bl (vs.any fun y => eqV y x)) H
        rw [q2 hf.1 fd]; exact RO.bl h⟩
    · exact h.elim
  · exact h.elim
theorem op_notInD : OpR X (compareOp .NotIn) (rF X.K notInD) := by
  intro pins s σ H x y v u Q I rx ry ⟨t, a, b, tg, da, db, h⟩
  unfold notInD inB at h
  split at h
  · simp only [Vw] at da db
    subst da db
    exact op_notIn_str pins s σ H _ _ v u Q I rx ry ⟨_, _, rfl, rfl, RO.bl h⟩
  · split at h
    · rename_i hf
      obtain ⟨p, vs, rfl, sp, _, mp⟩ := db
      obtain ⟨q1, q2⟩ := flats_v hf.2 mp
      have fd := vw_flat hf.1 da
      exact op_notIn_seq pins s σ H _ _ v u Q I rx ry ⟨p, vs, rfl, .inl (SqL.of sp), (flat_v hf.1 fd).1, q1, by
        show Q (.bl (!(vs.any fun y => eqV y x))) H
        rw [q2 hf.1 fd]; exact RO.bl h⟩
    · exact h.elim
  · split at h
    · rename_i hf
      obtain ⟨p, vs, rfl, sp, mp⟩ := db
      obtain ⟨q1, q2⟩ := flats_v hf.2 mp
      have fd := vw_flat hf.1 da
      exact op_notIn_seq pins s σ H _ _ v u Q I rx ry ⟨p, vs, rfl, .inr (fz_le.sqT sp), (flat_v hf.1 fd).1, q1, by
        show Q (.bl (!(vs.any fun y => eqV y x))) H
        rw [q2 hf.1 fd]; exact RO.bl h⟩
    · exact h.elim
  · exact h.elim
end

/-! ### argument lists -/
abbrev DAs := DSt → Out (List D)
abbrev PL := Tags → Hp → List D → List V → Prop
def ResA (K : PySem.W.Frag) (W : WX) (σ : L2.St) (Q : List V → Hp → Prop) (P : PL) (t : Tags) (H : Hp) : Out (List D) → Prop
  | .ok ds st' => ∀ t' H' vs, Ext t H t' H' → R K t' st' σ H' → P t' H' ds vs → Q vs H'
  | .ex c x st' => ∀ t' H' d, Ext t H t' H' → R K t' st' σ H' → ExAt K t' H' d x → W (.ref (He.ga K c)) (some d) σ H'
  | .no => False
def tA (K : PySem.W.Frag) (W : WX) (g : DAs) (P : PL) : TA := fun σ H Q => ∃ t st, R K t st σ H ∧ ResA K W σ Q P t H (g st)
theorem ResA.step {K : PySem.W.Frag} {W : WX} {σ : L2.St} {Q : List V → Hp → Prop} {P : PL} {t t1 : Tags} {H H1 : Hp} (E : Ext t H t1 H1) : ∀ {o : Out (List D)}, ResA K W σ Q P t H o → ResA K W σ Q P t1 H1 o
  | .ok r st', h => fun t' H' v E' R' p => h t' H' v (E.trans E') R' p
  | .ex c x st', h => fun t' H' d E' R' p => h t' H' d (E.trans E') R' p
  | .no, h => h
theorem tG_atA {α : Type} {K : PySem.W.Frag} {W : WX} {σ : L2.St} {t : Tags} {H : Hp} {Q : List V → Hp → Prop} {P : PL} {Q1 : VK} {P1 : RP α} {st : DSt} {g : DSt → Out α} {f : α → DSt → Out (List D)} (r : R K t st σ H)
    (h : ResA K W σ Q P t H ((g st).bind f))
    (k : ∀ t1 st1 H1 a v, Ext t H t1 H1 → R K t1 st1 σ H1 → P1 t H t1 H1 a v → ResA K W σ Q P t H (f a st1) → Q1 v H1) : tG K W g P1 σ H Q1 := by
  refine ⟨t, st, r, ?_⟩
  cases e : g st with
  | no => rw [e] at h; exact h
  | ex c x st' => rw [e] at h; exact h
  | ok a st' =>
    rw [e] at h
    exact fun t1 H1 v E1 R1 p1 => k t1 st' H1 a v E1 R1 p1 h
theorem tA_at {β : Type} {K : PySem.W.Frag} {W : WX} {σ : L2.St} {t : Tags} {H : Hp} {Q : VK} {Q1 : List V → Hp → Prop} {P : RP β} {P1 : PL} {st : DSt} {g : DAs} {f : List D → DSt → Out β} (r : R K t st σ H)
    (h : Res K W σ Q P t H ((g st).bind f))
    (k : ∀ t1 st1 H1 ds vs, Ext t H t1 H1 → R K t1 st1 σ H1 → P1 t1 H1 ds vs → Res K W σ Q P t H (f ds st1) → Q1 vs H1) : tA K W g P1 σ H Q1 := by
  refine ⟨t, st, r, ?_⟩
  cases e : g st with
  | no => rw [e] at h; exact h
  | ex c x st' => rw [e] at h; exact h
  | ok a st' =>
    rw [e] at h
    exact fun t1 H1 v E1 R1 p1 => k t1 st' H1 a v E1 R1 p1 h
theorem PA.imp {X : Cx} {es : List Expr} {t t' : TA} (h : PA X es t) (i : ∀ σ H Q, t' σ H Q → t σ H Q) : PA X es t' := ⟨fun pos pins s σ H Q I q => h.run pos pins s σ H Q I (i σ H Q q)⟩
def PLz (K : PySem.W.Frag) : PL := fun t H ds vs => Dats K (fz t H) (rho t) ds vs
def Vws (K : PySem.W.Frag) (t : Tags) (H : Hp) : List D → List V → Prop
  | [], vs => vs = []
  | d :: ds, vs => ∃ v us, vs = v :: us ∧ Vw K t H d v ∧ Vws K t H ds us
theorem Vws.step {K : PySem.W.Frag} {t t1 : Tags} {H H1 : Hp} (E : Ext t H t1 H1) : ∀ {ds : List D} {vs : List V}, Vws K t H ds vs → Vws K t1 H1 ds vs
  | [], _, h => h
  | _ :: _, _, ⟨v, us, e, h1, h2⟩ => ⟨v, us, e, h1.step E, h2.step E⟩
def gNilA : DAs := fun st => .ok [] st
def gConsA (g : DZ) (gs : DAs) : DAs := fun st => (g st).bind fun d st => (gs st).bind fun ds st => .ok (d :: ds) st
section
variable {X : Cx} {W : WX} {e a b : Expr} {es : List Expr} {g za zb : DZ} {gs : DAs} {pos : Pos}
theorem da_nil : PA X [] (tA X.K W gNilA (PLz X.K)) := PA.imp pa_nil fun σ H Q ⟨t, st, r, h⟩ => h t H [] (Ext.refl t H) r Dats.nil
theorem dv_nil : PA X [] (tA X.K W gNilA (Vws X.K)) := PA.imp pa_nil fun σ H Q ⟨t, st, r, h⟩ => h t H [] (Ext.refl t H) r rfl
theorem consA_of {K : PySem.W.Frag} {P : PL} {P1 : RP D} (sp : ∀ {t H t1 H1 t2 H2 d ds v vs}, P1 t H t1 H1 d v → Ext t1 H1 t2 H2 → P t2 H2 ds vs → P t2 H2 (d :: ds) (v :: vs)) {σ : L2.St} {H : Hp} {Q : List V → Hp → Prop}
    (h : tA K W (gConsA g gs) P σ H Q) : tCons (tG K W g P1) (tA K W gs P) σ H Q := by
  obtain ⟨t, st, r, h⟩ := h
  refine tG_atA r h fun t1 st1 H1 d v E1 R1 p1 q1 => ?_
  refine ⟨t1, st1, R1, ?_⟩
  have q1 := ResA.step E1 q1
  cases e : gs st1 with
  | no => rw [e] at q1; exact q1
  | ex c x st' => rw [e] at q1; exact q1
  | ok ds st' =>
    rw [e] at q1
    exact fun t2 H2 vs E2 R2 p2 => q1 t2 H2 (v :: vs) E2 R2 (sp p1 E2 p2)
theorem da_cons (h : PE X e (tZ X.K W g)) (hr : PA X es (tA X.K W gs (PLz X.K))) (hs : starEach (e :: es) X.env = (false, eval e X.env) :: starEach es X.env) : PA X (e :: es) (tA X.K W (gConsA g gs) (PLz X.K)) :=
  PA.imp (pa_cons h hr hs) fun _ _ _ q => consA_of (P1 := PZ X.K) (fun p1 E p2 => Dats.cons (E.dat p1) p2) q
theorem dv_cons (h : PE X e (tV X.K W g)) (hr : PA X es (tA X.K W gs (Vws X.K))) (hs : starEach (e :: es) X.env = (false, eval e X.env) :: starEach es X.env) : PA X (e :: es) (tA X.K W (gConsA g gs) (Vws X.K)) :=
  PA.imp (pa_cons h hr hs) fun _ _ _ q => consA_of (P1 := PV X.K) (fun p1 E p2 => ⟨_, _, rfl, Vw.step E p1, p2⟩) q
/-! ### displays -/
def gLst (gs : DAs) : DE := fun st => (gs st).bind fun ds st => if ds.length ≤ sizeLine then .ok (.ow (.lst ds)) st else .no
def gTup (gs : DAs) : DE := fun st => (gs st).bind fun ds st => if ds.length ≤ sizeLine then .ok (.sh (.tup ds)) st else .no
theorem de_lst (h : PA X es (tA X.K W gs (PLz X.K))) : PE X (.List es pos) (tD X.K W (gLst gs)) := by
  refine PE.imp (pe_lst h) fun σ H Q ⟨t, st, r, q⟩ => ?_
  refine tA_at r q fun t1 st1 H1 ds vs E1 R1 p1 q1 => ?_
  have p1 : Dats X.K (fz t1 H1) (rho t1) ds vs := p1
  split at q1
  · rename_i hz
    rw [p1.length] at hz
    have q2 := Res.step0 E1 q1
    exact ⟨hz, RO.newL R1.tagOk (res_opt (o := some _) R1 q2) p1⟩
  · exact q1.elim
theorem de_tup {x1 : Nat} (h : PA X es (tA X.K W gs (PLz X.K))) : PE X (.Tuple es x1 pos) (tD X.K W (gTup gs)) := by
  refine PE.imp (pe_tup h) fun σ H Q ⟨t, st, r, q⟩ => ?_
  refine tA_at r q fun t1 st1 H1 ds vs E1 R1 p1 q1 => ?_
  have p1 : Dats X.K (fz t1 H1) (rho t1) ds vs := p1
  split at q1
  · rename_i hz
    rw [p1.length] at hz
    have q2 := Res.step0 E1 q1
    exact ⟨hz, RO.newT R1.tagOk (res_opt (o := some _) R1 q2) p1⟩
  · exact q1.elim
/-! ### built-in functions and types, called by name -/
def rC (K : PySem.W.Frag) (f : List D → Option RV) : List V → Hp → VK → Prop := fun vs H Q => ∃ t ds, TagOk t H ∧ Vws K t H ds vs ∧ RO K t H Q (f ds)
def gCall (f : List D → Option RV) (gs : DAs) : DE := fun st => (gs st).bind fun ds st => opt (f ds) st
theorem callB_of {K : PySem.W.Frag} {f : List D → Option RV} {σ : L2.St} {H : Hp} {Q : VK} (h : tD K W (gCall f gs) σ H Q) : tCB (rC K f) (tA K W gs (Vws K)) σ H Q := by
  obtain ⟨t, st, r, q⟩ := h
  refine tA_at r q fun t1 st1 H1 ds vs E1 R1 p1 q1 => ?_
  exact ⟨t1, ds, R1.tagOk, p1, res_opt R1 (Res.step0 E1 q1)⟩
theorem de_callB {f : List D → Option RV} {x : Str} {id : String} {p : Pos} (hc : CallR X (.builtin id) (rC X.K f)) (hg : Gl X x) (hm : X.mg x = none) (hv : bootBuiltins x = some (.builtin id)) (ha : PA X (e :: es) (tA X.K W gs (Vws X.K))) (hn : x ≠ "__name__") (hdb : (x == ("__debug__" : Str)) = false)
    (he : starEach (e :: es) X.env = (false, eval e X.env) :: starEach es X.env) (hpl : (backTo pos (starEach es X.env)).any (·.1) = false) : PE X (.Call (.Name x p) (e :: es) [] pos) (tD X.K W (gCall f gs)) :=
  PE.imp (pe_callB hc hg hm hv ha hn hdb he hpl) fun _ _ _ q => callB_of q
theorem de_callTy {f : List D → Option RV} {x : Str} {T : String} {p : Pos} (hc : CallR X (.type T) (rC X.K f)) (hg : Gl X x) (hm : X.mg x = none) (hv : bootBuiltins x = some (.type T)) (ha : PA X (e :: es) (tA X.K W gs (Vws X.K))) (hn : x ≠ "__name__") (hdb : (x == ("__debug__" : Str)) = false)
    (he : starEach (e :: es) X.env = (false, eval e X.env) :: starEach es X.env) (hpl : (backTo pos (starEach es X.env)).any (·.1) = false) : PE X (.Call (.Name x p) (e :: es) [] pos) (tD X.K W (gCall f gs)) :=
  PE.imp (pe_callTy hc hg hm hv ha hn hdb he hpl) fun _ _ _ q => callB_of q
def bad : Option RV := none
def lenD : List D → Option RV
  | [.lst xs] => some (.sh (.int xs.length))
  | [.tup xs] => some (.sh (.int xs.length))
  | [.scr xs] => some (.sh (.int xs.length))
  | [.str x] => if x.length ≤ sizeLine then some (.sh (.int x.length)) else none
  | _ => none
theorem vws1 {K : PySem.W.Frag} {t : Tags} {H : Hp} {d : D} {vs : List V} (h : Vws K t H [d] vs) : ∃ v, vs = [v] ∧ Vw K t H d v := by
  obtain ⟨v, us, rfl, h1, h2⟩ := h
  cases h2
  exact ⟨v, rfl, h1⟩
theorem vws2 {K : PySem.W.Frag} {t : Tags} {H : Hp} {d e : D} {vs : List V} (h : Vws K t H [d, e] vs) : ∃ v w, vs = [v, w] ∧ Vw K t H d v ∧ Vw K t H e w := by
  obtain ⟨v, us, rfl, h1, h2⟩ := h
  obtain ⟨w, rfl, h3⟩ := vws1 h2
  exact ⟨v, w, rfl, h1, h3⟩
theorem cr_len : CallR X (.builtin "len") (rC X.K lenD) := by
  intro pins s σ H vs us Q I r ⟨t, ds, tg, m, h⟩
  unfold lenD at h
  split at h
  · obtain ⟨v, rfl, d⟩ := vws1 m
    obtain ⟨a, xs, rfl, sp, _, mp⟩ := d
    exact call_len_seq pins s σ H _ us Q I r ⟨a, xs, rfl, .inl (SqL.of sp), by rw [← mp.length]; exact h.int⟩
  · obtain ⟨v, rfl, d⟩ := vws1 m
    obtain ⟨a, xs, rfl, sp, mp⟩ := d
    exact call_len_seq pins s σ H _ us Q I r ⟨a, xs, rfl, .inr (fz_le.sqT sp), by rw [← mp.length]; exact h.int⟩
  · obtain ⟨v, rfl, d⟩ := vws1 m
    obtain ⟨a, rfl, sp⟩ := d
    exact call_len_seq pins s σ H _ us Q I r ⟨a, _, rfl, .inl (fz_le.sqL sp), by rw [List.length_map]; exact h.int⟩
  · split at h
    · rename_i hz
      obtain ⟨v, rfl, d⟩ := vws1 m
      cases d
      exact call_len_str pins s σ H _ us Q I r ⟨_, rfl, hz, h.int⟩
    · exact h.elim
  · exact h.elim
def absD : List D → Option RV
  | [.int i] => some (.sh (.int (if i < 0 then -i else i)))
  | _ => none
theorem cr_abs : CallR X (.builtin "abs") (rC X.K absD) := by
  intro pins s σ H vs us Q I r ⟨t, ds, tg, m, h⟩
  unfold absD at h
  split at h
  · obtain ⟨v, rfl, d⟩ := vws1 m
    cases d
    exact call_abs pins s σ H _ us Q I r ⟨_, rfl, h.int⟩
  · exact h.elim
def max2D : List D → Option RV
  | [.int i, .int j] => some (.sh (.int (if j > i then j else i)))
  | _ => none
def min2D : List D → Option RV
  | [.int i, .int j] => some (.sh (.int (if j < i then j else i)))
  | _ => none
theorem cr_max2 (hc : X.calm = true) : CallR X (.builtin "max") (rC X.K max2D) := by
  intro pins s σ H vs us Q I r ⟨t, ds, tg, m, h⟩
  unfold max2D at h
  split at h
  · obtain ⟨v, w, rfl, d, e⟩ := vws2 m
    cases d; cases e
    exact call_max2 hc pins s σ H _ us Q I r ⟨_, _, rfl, h.int⟩
  · exact h.elim
theorem cr_min2 (hc : X.calm = true) : CallR X (.builtin "min") (rC X.K min2D) := by
  intro pins s σ H vs us Q I r ⟨t, ds, tg, m, h⟩
  unfold min2D at h
  split at h
  · obtain ⟨v, w, rfl, d, e⟩ := vws2 m
    cases d; cases e
    exact call_min2 hc pins s σ H _ us Q I r ⟨_, _, rfl, h.int⟩
  · exact h.elim
def intD : List D → Option RV
  | [.int i] => some (.sh (.int i))
  | [.bl k] => some (.sh (.int (if k then 1 else 0)))
  | _ => none
theorem cr_int : CallR X (.type "int") (rC X.K intD) := by
  intro pins s σ H vs us Q I r ⟨t, ds, tg, m, h⟩
  unfold intD at h
  split at h
  · obtain ⟨v, rfl, d⟩ := vws1 m
    cases d
    exact call_int1 pins s σ H _ us Q I r (.inl ⟨_, rfl, h.int⟩)
  · obtain ⟨v, rfl, d⟩ := vws1 m
    cases d
    exact call_int1 pins s σ H _ us Q I r (.inr ⟨_, rfl, h.int⟩)
  · exact h.elim
def listD : List D → Option RV
  | [.lst xs] => some (.ow (.lst xs))
  | [.tup xs] => some (.ow (.lst xs))
  | _ => none
theorem cr_list : CallR X (.type "list") (rC X.K listD) := by
  intro pins s σ H vs us Q I r ⟨t, ds, tg, m, h⟩
  unfold listD at h
  split at h
  · obtain ⟨v, rfl, d⟩ := vws1 m
    obtain ⟨a, xs, rfl, sp, _, mp⟩ := d
    exact call_list_of pins s σ H _ us Q I r ⟨a, xs, rfl, .inl (SqL.of sp), h.newL tg mp⟩
  · obtain ⟨v, rfl, d⟩ := vws1 m
    obtain ⟨a, xs, rfl, sp, mp⟩ := d
    exact call_list_of pins s σ H _ us Q I r ⟨a, xs, rfl, .inr (fz_le.sqT sp), h.newL tg mp⟩
  · exact h.elim
def tupleD : List D → Option RV
  | [.lst xs] => some (.sh (.tup xs))
  | [.tup xs] => some (.sh (.tup xs))
  | _ => none
theorem cr_tuple : CallR X (.type "tuple") (rC X.K tupleD) := by
  intro pins s σ H vs us Q I r ⟨t, ds, tg, m, h⟩
  unfold tupleD at h
  split at h
  · obtain ⟨v, rfl, d⟩ := vws1 m
    obtain ⟨a, xs, rfl, sp, _, mp⟩ := d
    exact call_tuple_of pins s σ H _ us Q I r ⟨a, xs, rfl, .inl ⟨SqL.of sp, h.newT tg mp⟩⟩
  · obtain ⟨v, rfl, d⟩ := vws1 m
    have d0 := d
    obtain ⟨a, xs, rfl, sp, mp⟩ := d
    exact call_tuple_of pins s σ H _ us Q I r ⟨a, xs, rfl, .inr ⟨fz_le.sqT sp, h.val (by rw [Dat]; exact d0)⟩⟩
  · exact h.elim
def bools : List D → Option (List Bool)
  | [] => some []
  | .bl b :: ds => (bools ds).map (b :: ·)
  | _ => none
theorem bools_v {K : PySem.W.Frag} {F : Hp} {r : Nat → Addr → Prop} : ∀ {ds : List D} {vs : List V} {bs : List Bool}, bools ds = some bs → Dats K F r ds vs → vs = bs.map V.bl
  | [], vs, bs, e, h => by
    cases e
    rw [Dats] at h
    exact h
  | d :: ds, vs, bs, e, h => by
    rw [Dats] at h
    obtain ⟨v, us, rfl, h1, h2⟩ := h
    cases d with
    | bl b =>
      rw [bools] at e
      obtain ⟨bs', e', rfl⟩ := Option.map_eq_some_iff.mp e
      rw [Dat] at h1
      rw [h1, bools_v e' h2]
      rfl
    | _ => cases e
def allD : List D → Option RV
  | [.lst xs] => (bools xs).map fun bs => .sh (.bl (bs.all id))
  | _ => none
def anyD : List D → Option RV
  | [.lst xs] => (bools xs).map fun bs => .sh (.bl (bs.any id))
  | _ => none
theorem cr_allD (hc : X.calm = true) : CallR X (.builtin "all") (rC X.K allD) := by
  intro pins s σ H vs us Q I r ⟨t, ds, tg, m, h⟩
  unfold allD at h
  split at h
  · obtain ⟨v, rfl, d⟩ := vws1 m
    obtain ⟨a, xs, rfl, sp, _, mp⟩ := d
    rename_i ys _
    cases e : bools ys with
    | none => rw [e] at h; exact h.elim
    | some bs =>
      rw [e] at h
      exact cr_all hc pins s σ H _ us Q I r ⟨a, bs, rfl, by rw [← bools_v e mp]; exact SqL.of sp, RO.bl h⟩
  · exact h.elim
theorem cr_anyD (hc : X.calm = true) : CallR X (.builtin "any") (rC X.K anyD) := by
  intro pins s σ H vs us Q I r ⟨t, ds, tg, m, h⟩
  unfold anyD at h
  split at h
  · obtain ⟨v, rfl, d⟩ := vws1 m
    obtain ⟨a, xs, rfl, sp, _, mp⟩ := d
    rename_i ys _
    cases e : bools ys with
    | none => rw [e] at h; exact h.elim
    | some bs =>
      rw [e] at h
      exact cr_any hc pins s σ H _ us Q I r ⟨a, bs, rfl, by rw [← bools_v e mp]; exact SqL.of sp, RO.bl h⟩
  · exact h.elim
/-! ### methods of texts -/
def gM1 (f : Str → D → Option RV) (za zb : DZ) : DE := fun st => (za st).bind fun a st => match a with
  | .str x => (zb st).bind fun b st => opt (f x b) st
  | _ => .no
def rM (K : PySem.W.Frag) (f : Str → D → Option RV) : V → List V → Hp → VK → Prop := fun x xs H Q => ∃ t y b v, x = .str y ∧ xs = [v] ∧ TagOk t H ∧ Vw K t H b v ∧ RO K t H Q (f y b)
theorem m1_of {K : PySem.W.Frag} {f : Str → D → Option RV} {r' : V → List V → Hp → VK → Prop} (hr : ∀ x xs H Q, rM K f x xs H Q → r' x xs H Q) {σ : L2.St} {H : Hp} {Q : VK} (h : tD K W (gM1 f za zb) σ H Q) : tM1 r' (tV K W za) (tV K W zb) σ H Q := by
  obtain ⟨t, st, r, q⟩ := h
  refine tG_at r q fun t1 st1 H1 a v E1 R1 p1 q1 => ?_
  cases a with
  | str x =>
    have p1 : v = .str x := p1
    refine ⟨⟨x, p1⟩, ?_⟩
    refine tG_at R1 (Res.step0 E1 q1) fun t2 st2 H2 b w E2 R2 p2 q2 => ?_
    exact hr _ _ _ _ ⟨t2, x, b, w, p1, rfl, R2.tagOk, p2, res_opt R2 (Res.step0 E2 q2)⟩
  | _ => exact q1.elim
def strL : List Str → List D := fun ys => ys.map D.str
theorem dats_strs {K : PySem.W.Frag} {F : Hp} {r : Nat → Addr → Prop} : ∀ ys : List Str, Dats K F r (strL ys) (ys.map V.str)
  | [] => Dats.nil
  | y :: ys => Dats.cons (by rw [Dat]) (dats_strs ys)
def splitD (x : Str) : D → Option RV
  | .str y => if (y.length == 0) = false ∧ x.length + 2 ≤ sizeLine then some (.ow (.lst (strL (Txt.split x y)))) else none
  | _ => none
def strsOf : List D → Option (List Str)
  | [] => some []
  | .str x :: ds => (strsOf ds).map (x :: ·)
  | _ => none
theorem strs_v {K : PySem.W.Frag} {F : Hp} {r : Nat → Addr → Prop} : ∀ {ds : List D} {vs : List V} {bs : List Str}, strsOf ds = some bs → Dats K F r ds vs → vs = bs.map V.str
  | [], vs, bs, e, h => by
    cases e
    rw [Dats] at h
    exact h
  | d :: ds, vs, bs, e, h => by
    rw [Dats] at h
    obtain ⟨v, us, rfl, h1, h2⟩ := h
    cases d with
    | str b =>
      rw [strsOf] at e
      obtain ⟨bs', e', rfl⟩ := Option.map_eq_some_iff.mp e
      rw [Dat] at h1
      rw [h1, strs_v e' h2]
      rfl
    | _ => cases e
def joinS (x : Str) (ds : List D) : Option RV := match strsOf ds with
  | some ys => if (ys.map (·.length)).sum + ys.length * x.length ≤ 16777216 then some (.sh (.str (Txt.join x ys))) else none
  | none => none
def joinD (x : Str) : D → Option RV
  | .lst ds => joinS x ds
  | .tup ds => joinS x ds
  | _ => none
theorem de_split {apos : Pos} (ho : PE X a (tV X.K W za)) (he : PE X b (tV X.K W zb)) (hs : starEach [b] X.env = [(false, eval b X.env)]) (hbase : attributeBase a "split" X.env (eval a X.env) = eval a X.env) (hline : (apos.endLine == pos.line) = true) :
    PE X (.Call (.Attribute a "split" apos) [b] [] pos) (tD X.K W (gM1 splitD za zb)) :=
  PE.imp (pe_split ho he hs hbase hline) fun _ _ _ q => m1_of (fun x xs H Q ⟨t, y, d, v, ex, exs, tg, m, h⟩ => by
    unfold splitD at h
    split at h
    · cases m
      split at h
      · rename_i hz
        exact ⟨y, _, ex, exs, hz.1, hz.2, RO.newL tg h (dats_strs _)⟩
      · exact h.elim
    · exact h.elim) q
theorem de_join {apos : Pos} (ho : PE X a (tV X.K W za)) (he : PE X b (tV X.K W zb)) (hs : starEach [b] X.env = [(false, eval b X.env)]) (hbase : attributeBase a "join" X.env (eval a X.env) = eval a X.env) (hline : (apos.endLine == pos.line) = true) :
    PE X (.Call (.Attribute a "join" apos) [b] [] pos) (tD X.K W (gM1 joinD za zb)) :=
  PE.imp (pe_join ho he hs hbase hline) fun _ _ _ q => m1_of (fun x xs H Q ⟨t, y, d, v, ex, exs, tg, m, h⟩ => by
    unfold joinD joinS at h
    split at h
    · obtain ⟨p, vs, rfl, sp, _, mp⟩ := m
      split at h
      · rename_i ys e
        split at h
        · rename_i hz
          exact ⟨y, p, ys, ex, exs, .inl (by rw [← strs_v e mp]; exact SqL.of sp), hz, h.str⟩
        · exact h.elim
      · exact h.elim
    · obtain ⟨p, vs, rfl, sp, mp⟩ := m
      split at h
      · rename_i ys e
        split at h
        · rename_i hz
          exact ⟨y, p, ys, ex, exs, .inr (by rw [← strs_v e mp]; exact fz_le.sqT sp), hz, h.str⟩
        · exact h.elim
      · exact h.elim
    · exact h.elim) q
end
end Dn
end

section
set_option maxHeartbeats 4000000
-- Dn9
/-! Dn9: subscripts, slices, comprehensions, stores, methods of lists -/
namespace Dn
open PySem PySem.Spec L2
section
variable {X : Cx} {W : WX} {e a b : Expr} {g za zb : DZ} {pos : Pos}
theorem de_ix {f : D → D → Option RV} (hr : IxR X (rF X.K f)) (ha : PE X a (tV X.K W za)) (hb : PE X b (tV X.K W zb)) (hs : PlainIx b) : PE X (.Subscript a b pos) (tD X.K W (gBin f za zb)) :=
  PE.imp (pe_ix hr ha hb hs) fun _ _ _ q => bin_of q
/-! ### the cells of the store -/
def cellAt (st : DSt) : D → Option (List D)
  | .cell k => match st.S[k]? with
    | some (.lst xs) => some xs
    | _ => none
  | _ => none
def gCix (za zb : DZ) : DE := fun st => (za st).bind fun a st => (zb st).bind fun b st => match cellAt st a with
  | some xs => opt (ixD (.lst xs) b) st
  | none => .no
theorem cell_of {K : PySem.W.Frag} {t : Tags} {st : DSt} {σ : L2.St} {H : Hp} (r : R K t st σ H) {d : D} {v : V} {xs : List D} (h : Vw K t H d v) (e : cellAt st d = some xs) : ∃ k a vs, d = .cell k ∧ st.S[k]? = some (.lst xs) ∧ v = .ref a ∧ t a = .cell k ∧ H a = some (.lst vs) ∧ Dats K (fz t H) (rho t) xs vs := by
  unfold cellAt at e
  split at e
  · rename_i k
    split at e
    · rename_i ys hk
      cases e
      have h : Dat K (fz t H) (rho t) (.cell k) v := h
      rw [Dat] at h
      obtain ⟨a, rfl, ha⟩ := h
      obtain ⟨a', h1, h2, vs, h3, h4⟩ := r.r0.cel k _ hk
      have ea : a = a' := h2 a ha
      subst ea
      exact ⟨k, a, vs, rfl, hk, rfl, h1, h3, h4⟩
    · cases e
  · cases e
theorem de_cix (ha : PE X a (tV X.K W za)) (hb : PE X b (tV X.K W zb)) (hs : PlainIx b) : PE X (.Subscript a b pos) (tD X.K W (gCix za zb)) := by
  refine PE.imp (pe_ix ix_seq ha hb hs) fun σ H Q ⟨t, st, r, q⟩ => ?_
  refine tG_at r q fun t1 st1 H1 d v E1 R1 p1 q1 => ?_
  refine tG_at R1 (Res.step0 E1 q1) fun t2 st2 H2 i w E2 R2 p2 q2 => ?_
  have p1 : Vw X.K t2 H2 d v := Vw.step E2 p1
  have q9 := Res.step0 E2 q2
  cases ec : cellAt st2 d with
  | none => rw [ec] at q9; exact q9.elim
  | some xs =>
    rw [ec] at q9
    obtain ⟨k, p, vs, ed, hk, rfl, ht, hp, m⟩ := cell_of R2 p1 ec
    have q3 := res_opt R2 q9
    unfold ixD at q3
    cases i with
    | int i =>
      have p2 : w = .int i := p2
      cases ea : atI xs i with
      | none => simp only [ea] at q3; exact q3.elim
      | some x =>
        simp only [ea] at q3
        obtain ⟨u, e1, h1⟩ := m.at ea
        exact .inl ⟨p, vs, i, u, rfl, p2, SqL.of hp, e1, RO.val q3 h1⟩
    | _ => exact q3.elim
/-! ### slices -/
abbrev DP := DSt → Out (Option Int)
def gPart (z : DZ) : DP := fun st => (z st).bind fun d st => match d with
  | .int i => .ok (some i) st
  | _ => .no
def gNoPart : DP := fun st => .ok none st
def ResP (K : PySem.W.Frag) (W : WX) (σ : L2.St) (Q : Option Int → Hp → Prop) (t : Tags) (H : Hp) : Out (Option Int) → Prop
  | .ok o st' => ∀ t' H', Ext t H t' H' → R K t' st' σ H' → Q o H'
  | .ex c x st' => ∀ t' H' d, Ext t H t' H' → R K t' st' σ H' → ExAt K t' H' d x → W (.ref (He.ga K c)) (some d) σ H'
  | .no => False
def tP (K : PySem.W.Frag) (W : WX) (g : DP) : TO := fun σ H Q => ∃ t st, R K t st σ H ∧ ResP K W σ Q t H (g st)
theorem PO.imp {e : Option Expr} {t t' : TO} (h : PO X e t) (i : ∀ σ H Q, t' σ H Q → t σ H Q) : PO X e t' := ⟨fun pins s σ H Q I q => h.run pins s σ H Q I (i σ H Q q)⟩
theorem dp_none : PO X none (tP X.K W gNoPart) := PO.imp po_none fun σ H Q ⟨t, st, r, q⟩ => q t H (Ext.refl t H) r
theorem dp_some (h : PE X e (tV X.K W g)) : PO X (some e) (tP X.K W (gPart g)) := by
  refine PO.imp (po_some h) fun σ H Q ⟨t, st, r, q⟩ => ?_
  refine ⟨t, st, r, ?_⟩
  unfold gPart at q
  cases ee : g st with
  | no => rw [ee] at q; exact q
  | ex c x st' => rw [ee] at q; exact q
  | ok d st' =>
    rw [ee] at q
    intro t1 H1 v E1 R1 p1
    cases d with
    | int i => exact ⟨i, p1, q t1 H1 E1 R1⟩
    | _ => exact q.elim
theorem tP_at {β : Type} {K : PySem.W.Frag} {σ : L2.St} {t : Tags} {H : Hp} {Q : VK} {Q1 : Option Int → Hp → Prop} {P : RP β} {st : DSt} {g : DP} {f : Option Int → DSt → Out β} (r : R K t st σ H)
    (h : Res K W σ Q P t H ((g st).bind f))
    (k : ∀ t1 st1 H1 o, Ext t H t1 H1 → R K t1 st1 σ H1 → Res K W σ Q P t H (f o st1) → Q1 o H1) : tP K W g σ H Q1 := by
  refine ⟨t, st, r, ?_⟩
  cases e : g st with
  | no => rw [e] at h; exact h
  | ex c x st' => rw [e] at h; exact h
  | ok a st' =>
    rw [e] at h
    exact fun t1 H1 E1 R1 => k t1 st' H1 a E1 R1 h
def cutD (xs : List D) (lo hi : Option Int) : List D := (xs.drop (HT.sIx xs.length 0 lo)).take (HT.sIx xs.length xs.length hi - HT.sIx xs.length 0 lo)
theorem Dats.drop {K : PySem.W.Frag} {F : Hp} {r : Nat → Addr → Prop} : ∀ {ds : List D} {vs : List V} (n : Nat), Dats K F r ds vs → Dats K F r (ds.drop n) (vs.drop n)
  | _, _, 0, h => by rw [List.drop_zero, List.drop_zero]; exact h
  | [], vs, n + 1, h => by
    rw [Dats] at h
    subst h
    rw [List.drop_nil, List.drop_nil]
    exact Dats.nil
  | d :: ds, vs, n + 1, h => by
    rw [Dats] at h
    obtain ⟨v, us, rfl, h1, h2⟩ := h
    exact Dats.drop n h2
theorem Dats.take {K : PySem.W.Frag} {F : Hp} {r : Nat → Addr → Prop} : ∀ {ds : List D} {vs : List V} (n : Nat), Dats K F r ds vs → Dats K F r (ds.take n) (vs.take n)
  | _, _, 0, h => by rw [List.take_zero, List.take_zero]; exact Dats.nil
  | [], vs, n + 1, h => by
    rw [Dats] at h
    subst h
    rw [List.take_nil, List.take_nil]
    exact Dats.nil
  | d :: ds, vs, n + 1, h => by
    rw [Dats] at h
    obtain ⟨v, us, rfl, h1, h2⟩ := h
    exact Dats.cons h1 (Dats.take n h2)
theorem dats_cut {K : PySem.W.Frag} {F : Hp} {r : Nat → Addr → Prop} {ds : List D} {vs : List V} (h : Dats K F r ds vs) (lo hi : Option Int) : Dats K F r (cutD ds lo hi) (cutV vs lo hi) := by
  unfold cutD cutV
  rw [h.length]
  exact Dats.take _ (Dats.drop _ h)
def slD (d : D) (lo hi : Option Int) : Option RV := match d with
  | .lst xs => some (.ow (.lst (cutD xs lo hi)))
  | .tup xs => some (.sh (.tup (cutD xs lo hi)))
  | .str x => if x.length ≤ sizeLine then some (.sh (.str (Txt.slice x lo hi))) else none
  | _ => none
def gSlice (z : DZ) (l h : DP) : DE := fun st => (z st).bind fun d st => (l st).bind fun lo st => (h st).bind fun hi st => opt (slD d lo hi) st
theorem de_slice {lo hi : Option Expr} {gl gh : DP} {p2 : Pos} (he : PE X e (tV X.K W g)) (hl : PO X lo (tP X.K W gl)) (hu : PO X hi (tP X.K W gh)) : PE X (.Subscript e (.Slice lo hi none p2) pos) (tD X.K W (gSlice g gl gh)) := by
  refine PE.imp (pe_slice ((SlR.or sl_list sl_tupA).or C8.sl_txt) he hl hu) fun σ H Q ⟨t, st, r, q⟩ => ?_
  refine tG_at r q fun t1 st1 H1 d v E1 R1 p1 q1 => ?_
  refine tP_at R1 (Res.step0 E1 q1) fun t2 st2 H2 o1 E2 R2 q2 => ?_
  refine tP_at R2 (Res.step0 E2 q2) fun t3 st3 H3 o2 E3 R3 q3 => ?_
  have p3 : Vw X.K t3 H3 d v := Vw.step (E2.trans E3) p1
  have q4 := res_opt R3 (Res.step0 E3 q3)
  unfold slD at q4
  split at q4
  · obtain ⟨a, vs, rfl, sp, _, mp⟩ := p3
    exact .inl (.inl ⟨a, vs, rfl, SqL.of sp, q4.newL R3.tagOk (dats_cut mp _ _)⟩)
  · have p4 := p3
    obtain ⟨a, vs, rfl, sp, mp⟩ := p3
    refine .inl (.inr ⟨a, vs, rfl, fz_le.sqT sp, fun hw => ?_, fun _ => q4.newT R3.tagOk (dats_cut mp _ _)⟩)
    rename_i xs
    have ec : cutD xs o1 o2 = xs := by
      unfold cutD
      rw [mp.length, hw.1, hw.2, List.drop_zero, Nat.sub_zero, ← mp.length, List.take_length]
    rw [ec] at q4
    exact q4.val (by rw [Dat]; exact p4)
  · split at q4
    · rename_i hz
      cases p3
      exact .inr ⟨_, rfl, hz, q4.str⟩
    · exact q4.elim
  · exact q4.elim
end

/-! ### comprehensions -/
def wipeE (env : List (Option RV)) : List Nat → List (Option RV)
  | [] => env
  | v :: vs => (wipeE env vs).set v none
/-- what the slots at vs held, and still hold -/
def keepE (old env : List (Option RV)) : List Nat → List (Option RV)
  | [] => env
  | v :: vs => (keepE old env vs).set v (match old[v]? with
    | some (some (.sh d)) => some (.sh d)
    | _ => none)
theorem wipeE_length (env : List (Option RV)) : ∀ vs : List Nat, (wipeE env vs).length = env.length
  | [] => rfl
  | v :: vs => by rw [wipeE, List.length_set, wipeE_length env vs]
theorem keepE_length (old env : List (Option RV)) : ∀ vs : List Nat, (keepE old env vs).length = env.length
  | [] => rfl
  | v :: vs => by rw [keepE, List.length_set, keepE_length old env vs]
theorem wipeE_get {env : List (Option RV)} {i : Nat} {x : RV} : ∀ {vs : List Nat}, (wipeE env vs)[i]? = some (some x) → env[i]? = some (some x) ∧ i ∉ vs
  | [], h => ⟨h, by simp⟩
  | v :: vs, h => by
    rw [wipeE] at h
    by_cases e : v = i
    · subst e
      by_cases hl : v < (wipeE env vs).length
      · rw [List.getElem?_set_self hl] at h; cases h
      · rw [List.getElem?_eq_none (by simpa using hl)] at h; cases h
    · rw [List.getElem?_set_ne e] at h
      obtain ⟨h1, h2⟩ := wipeE_get h
      exact ⟨h1, by simp [Ne.symm e, h2]⟩
theorem keepE_get {old env : List (Option RV)} {i : Nat} {x : RV} : ∀ {vs : List Nat}, (keepE old env vs)[i]? = some (some x) → (env[i]? = some (some x) ∧ i ∉ vs) ∨ (old[i]? = some (some x) ∧ ∃ d, x = .sh d)
  | [], h => .inl ⟨h, by simp⟩
  | v :: vs, h => by
    rw [keepE] at h
    by_cases e : v = i
    · subst e
      by_cases hl : v < (keepE old env vs).length
      · rw [List.getElem?_set_self hl] at h
        split at h
        · rename_i d hd
          cases h
          exact .inr ⟨hd, d, rfl⟩
        · cases h
      · rw [List.getElem?_eq_none (by simpa using hl)] at h; cases h
    · rw [List.getElem?_set_ne e] at h
      rcases keepE_get h with ⟨h1, h2⟩ | h1
      · exact .inl ⟨h1, by simp [Ne.symm e, h2]⟩
      · exact .inr h1
theorem wipe_get {σ : L2.St} {i : Nat} : ∀ {vs : List Nat}, i ∉ vs → (wipe σ vs)[i]? = σ[i]?
  | [], _ => rfl
  | v :: vs, h => by
    rw [wipe, List.getElem?_set_ne (fun e => h (by simp [e]))]
    exact wipe_get fun z => h (by simp [z])
theorem wipe_eq {σ1 σ2 : L2.St} (hl : σ1.length = σ2.length) : ∀ {vs : List Nat}, (∀ j, j ∉ vs → σ1[j]? = σ2[j]?) → wipe σ1 vs = wipe σ2 vs := fun {vs} h => by
  apply List.ext_getElem?
  intro i
  by_cases hi : i ∈ vs
  · have inn : ∀ {σ : L2.St} {ws : List Nat}, i ∈ ws → (wipe σ ws)[i]? = if i < σ.length then some none else none := fun {σ ws} => by
      induction ws with
      | nil => intro z; cases z
      | cons w ws ih =>
        intro z
        rw [wipe]
        by_cases e : w = i
        · subst e
          by_cases hw : w < σ.length
          · rw [List.getElem?_set_self (by rw [wipe_length]; exact hw), if_pos hw]
          · rw [List.getElem?_eq_none (by rw [List.length_set, wipe_length]; omega), if_neg hw]
        · rw [List.getElem?_set_ne e]
          exact ih ((List.mem_cons.mp z).resolve_left (Ne.symm e))
    rw [inn hi, inn hi, hl]
  · rw [wipe_get hi, wipe_get hi]
    exact h i hi
section
variable {K : PySem.W.Frag} {t : Tags} {st : DSt} {σ : L2.St} {H : Hp}
theorem R.wiped (r : R K t st σ H) (vs : List Nat) : R K t { st with env := wipeE st.env vs } (wipe σ vs) H where
  r0 := r.r0
  len := by
    show (wipeE st.env vs).length = _
    rw [wipeE_length, wipe_length]; exact r.len
  env := fun i x h => by
    obtain ⟨h1, h2⟩ := wipeE_get (env := st.env) h
    obtain ⟨v, e, q⟩ := r.env i x h1
    exact ⟨v, by rw [wipe_get h2]; exact e, q⟩
/-- back in the def -/
theorem R.kept {t0 t1 : Tags} {H0 H1 : Hp} {st0 st1 : DSt} {σ1 : L2.St} (r0 : R K t0 st0 σ H0) (E : Ext t0 H0 t1 H1) (r1 : R K t1 st1 σ1 H1) (vs : List Nat) (hl : σ1.length = σ.length) (hs : ∀ j, j ∉ vs → σ1[j]? = σ[j]?) : R K t1 { st1 with env := keepE st0.env st1.env vs } σ H1 where
  r0 := r1.r0
  len := by
    show (keepE st0.env st1.env vs).length = _
    rw [keepE_length, r1.len, hl]
  env := fun i x h => by
    rcases keepE_get (old := st0.env) (env := st1.env) h with ⟨h1, h2⟩ | ⟨h1, d, rfl⟩
    · obtain ⟨v, e, q⟩ := r1.env i x h1
      exact ⟨v, by rw [← hs i h2]; exact e, q⟩
    · obtain ⟨v, e, q⟩ := r0.env i _ h1
      exact ⟨v, e, E.dat q⟩
/-- an object of no one's is written -/
theorem R.updNon (r : R K t st σ H) {a : Addr} {o : HO} (n : t a = .non) : R K t st σ (upd H a o) := by
  have le : Le (fz t H) (fz t (upd H a o)) := fun b u h => by
    obtain ⟨h1, h2⟩ := of_fz h
    have ne : b ≠ a := fun e => by rw [e, n] at h1; cases h1
    rw [fz_of h1, upd_ne ne]; exact h2
  refine ⟨⟨fun b hb => ?_, fun k o' hk => ?_, r.r0.lt⟩, r.len, fun i x h => ?_⟩
  · by_cases e : b = a
    · rw [e, n] at hb; exact absurd rfl hb
    · rw [upd_ne e]; exact r.r0.tag b hb
  · obtain ⟨b, h1, h2, h3⟩ := r.r0.cel k o' hk
    have ne : b ≠ a := fun e => by rw [e, n] at h1; cases h1
    exact ⟨b, h1, h2, h3.mono le (fun _ _ h => h) fun o h => by rw [upd_ne ne]; exact h⟩
  · obtain ⟨v, e, q⟩ := r.env i x h
    refine ⟨v, e, ?_⟩
    cases x with
    | sh d => exact Dat.mono le (fun _ _ h => h) q
    | ow ob =>
      obtain ⟨b, e1, h1, h2⟩ := q
      have ne : b ≠ a := fun e => by rw [e, n] at h1; cases h1
      exact ⟨b, e1, h1, h2.mono le (fun _ _ h => h) fun o h => by rw [upd_ne ne]; exact h⟩
end
def W0 : WX := fun _ _ _ _ => False
def gYes : DT := fun st => .ok true st
/-- nothing may leave a comprehension's block -/
def Out.bindN {α β : Type} : Out α → (α → DSt → Out β) → Out β
  | .ok a st, f => f a st
  | .ex _ _ _, _ => .no
  | .no, _ => .no
/-- the turns of a comprehension -/
def lcL (vs : List Nat) (f : GT) (c : DT) (e : DZ) : List D → List D → DSt → Out (List D)
  | [], acc, st => .ok acc st
  | d :: ds, acc, st => match f d { st with env := wipeE st.env vs } with
    | none => .no
    | some st1 => (c st1).bindN fun k st2 => if k = true then (e st2).bindN fun x st3 => lcL vs f c e ds (acc ++ [x]) st3 else lcL vs f c e ds acc st2
def gLc (s : DL) (vs : List Nat) (f : GT) (c : DT) (e : DZ) : DE := fun st => (s st).bind fun ds st1 => if ds.length ≤ sizeLine then
    (lcL vs f c e ds [] st1).bind fun acc st2 => .ok (.ow (.lst acc)) { st2 with env := keepE st1.env st2.env vs }
  else .no
theorem lc_of {K : PySem.W.Frag} {W : WX} {s : DL} {g : TG} {f : GT} {c : DT} {e : DZ} {vs sl : List Nat} {σ : L2.St} {H : Hp} {Q : VK} (tg : TgOk K g f sl) (hsl : ∀ j ∈ sl, j ∈ vs) (h : tD K W (gLc s vs f c e) σ H Q) :
    tLc (tI K W s) g (tT K W0 c) (tZ K W0 e) vs σ H Q := by
  obtain ⟨t, st, r, q⟩ := h
  refine ⟨t, st, r, ?_⟩
  unfold gLc at q
  cases es : s st with
  | no => rw [es] at q; exact q
  | ex c x st' => rw [es] at q; exact q
  | ok ds st1 =>
    rw [es] at q
    intro t1 H1 J E1 R1 wk D hD
    have q1 := Res.step0 E1 q
    have q1 : Res K W σ Q (IsRV K) t1 H1 (if ds.length ≤ sizeLine then (lcL vs f c e ds [] st1).bind fun acc st2 => .ok (.ow (.lst acc)) { st2 with env := keepE st1.env st2.env vs } else .no) := q1
    split at q1
    · rename_i hz
      have nD : t1 D = .non := R1.non hD
      obtain ⟨EL, RL, _⟩ := R1.laid (o := .lst []) hD
      refine ⟨fun i m H' => ∃ t' s' σ' acc av, Ext t1 H1 t' H' ∧ R K t' s' σ' H' ∧ σ'.length = σ.length ∧ (∀ j, j ∉ vs → σ'[j]? = σ[j]?) ∧ t' D = .non ∧ H' D = some (.lst av) ∧ Dats K (fz t' H') (rho t') acc av ∧ av.length ≤ i ∧ i + m = ds.length ∧
        Res K W σ Q (IsRV K) t1 H1 ((lcL vs f c e (ds.drop i) acc s').bind fun acc st2 => .ok (.ow (.lst acc)) { st2 with env := keepE st1.env st2.env vs }),
        ⟨ds.length, t1, st1, σ, [], [], EL, RL, rfl, fun _ _ => rfl, nD, upd_same, Dats.nil, Nat.le_refl _, by omega, q1⟩, ?_⟩
      rintro i m H2 ⟨t2, s2, σ2, acc, av, E2, R2, l2, o2, n2, e2, m2, la, hl, q2⟩
      cases hd : ds[i]? with
      | none =>
        have hi : ds.length ≤ i := List.getElem?_eq_none_iff.mp hd
        rw [List.drop_eq_nil_of_le hi] at q2
        refine .inl ⟨wk.end_ t2 H2 E2.w i hi, ?_⟩
        have q3 : Res K W σ Q (IsRV K) t1 H1 (.ok (.ow (.lst acc)) { s2 with env := keepE st1.env s2.env vs }) := q2
        exact q3 t2 H2 (.ref D) E2 (R.kept R1 E2 R2 vs l2 o2) ⟨D, rfl, fun _ => hD, n2, av, e2, m2⟩
      | some d =>
        have hi : i < ds.length := (List.getElem?_eq_some_iff.mp hd).1
        obtain ⟨go, step⟩ := wk.at_ t2 H2 E2.w R2.tagOk i d hd
        have ed : ds.drop i = d :: ds.drop (i + 1) := by
          rw [List.drop_eq_getElem_cons hi]
          congr 1
          exact (List.getElem?_eq_some_iff.mp hd).2
        rw [ed] at q2
        refine .inr ⟨go, fun H' => ∃ m', m' < m ∧ ∃ t' s' σ' acc av, Ext t1 H1 t' H' ∧ R K t' s' σ' H' ∧ σ'.length = σ.length ∧ (∀ j, j ∉ vs → σ'[j]? = σ[j]?) ∧ t' D = .non ∧ H' D = some (.lst av) ∧ Dats K (fz t' H') (rho t') acc av ∧ av.length ≤ i + 1 ∧ (i + 1) + m' = ds.length ∧
          Res K W σ Q (IsRV K) t1 H1 ((lcL vs f c e (ds.drop (i + 1)) acc s').bind fun acc st2 => .ok (.ow (.lst acc)) { st2 with env := keepE st1.env st2.env vs }), fun H' ⟨m', lt, z⟩ => ⟨m', lt, z⟩, fun x H3 hy => ?_⟩
        obtain ⟨t3, G3, d3⟩ := step x H3 hy
        have R3 := G3.st _ _ R2
        have E13 := E2.trans G3.ext
        -- the new list is still there
        have keepD : ∀ {ta tb Ha Hb} {av : List V}, Ext ta Ha tb Hb → ta D = .non → Ha D = some (.lst av) → tb D = .non ∧ Hb D = some (.lst av) := fun E n e => E.oth D _ n e
        obtain ⟨n3, e3⟩ := keepD G3.ext n2 e2
        have R4 := R3.wiped vs
        have ew : wipe σ2 vs = wipe σ vs := wipe_eq l2 o2
        rw [ew] at R4
        refine tg t3 _ (wipe σ vs) H3 d x _ R4 d3 ?_
        rw [lcL] at q2
        cases e4 : f d { s2 with env := wipeE s2.env vs } with
        | none => rw [e4] at q2; exact q2.elim
        | some s4 =>
          rw [e4] at q2
          dsimp only at q2
          intro σ4 l4 hs4 R5
          have l4 : σ4.length = σ.length := l4.trans (wipe_length _ _)
          have o4 : ∀ j, j ∉ vs → σ4[j]? = σ[j]? := fun j hj => (hs4 j fun z => hj (hsl j z)).trans (wipe_get hj)
          refine ⟨wipe_eq l4 o4, ?_⟩
          have nxt : ∀ {t' s' H' acc' av'}, Ext t1 H1 t' H' → R K t' s' σ4 H' → t' D = .non → H' D = some (.lst av') → Dats K (fz t' H') (rho t') acc' av' → av'.length ≤ i + 1 →
              Res K W σ Q (IsRV K) t1 H1 ((lcL vs f c e (ds.drop (i + 1)) acc' s').bind fun acc st2 => .ok (.ow (.lst acc)) { st2 with env := keepE st1.env st2.env vs }) →
              ∃ m', m' < m ∧ ∃ t' s' σ' acc av, Ext t1 H1 t' H' ∧ R K t' s' σ' H' ∧ σ'.length = σ.length ∧ (∀ j, j ∉ vs → σ'[j]? = σ[j]?) ∧ t' D = .non ∧ H' D = some (.lst av) ∧ Dats K (fz t' H') (rho t') acc av ∧ av.length ≤ i + 1 ∧ (i + 1) + m' = ds.length ∧
                Res K W σ Q (IsRV K) t1 H1 ((lcL vs f c e (ds.drop (i + 1)) acc s').bind fun acc st2 => .ok (.ow (.lst acc)) { st2 with env := keepE st1.env st2.env vs }) :=
            fun {t' s' H' acc' av'} E' R' n' e' m' la' q' => ⟨m - 1, by omega, t', s', σ4, acc', av', E', R', l4, o4, n', e', m', la', by omega, q'⟩
          refine ⟨t3, s4, R5, ?_⟩
          cases e5 : c s4 with
          | no => rw [e5] at q2; exact q2
          | ex _ _ _ => rw [e5] at q2; exact q2.elim
          | ok k s5 =>
            rw [e5] at q2
            intro t5 H5 E5 R6
            obtain ⟨n5, e5'⟩ := keepD E5 n3 e3
            have E15 := E13.trans E5
            cases k with
            | false => exact nxt E15 R6 n5 e5' ((G3.ext.trans E5).dats m2) (by omega) q2
            | true =>
              have q2 : Res K W σ Q (IsRV K) t1 H1 (((e s5).bindN fun x st3 => lcL vs f c e (ds.drop (i + 1)) (acc ++ [x]) st3).bind fun acc st2 => .ok (.ow (.lst acc)) { st2 with env := keepE st1.env st2.env vs }) := q2
              refine ⟨t5, s5, R6, ?_⟩
              cases e6 : e s5 with
              | no => rw [e6] at q2; exact q2
              | ex _ _ _ => rw [e6] at q2; exact q2.elim
              | ok x6 s6 =>
                rw [e6] at q2
                intro t6 H6 y6 E6 R7 p6
                obtain ⟨n6, e6'⟩ := keepD E6 n5 e5'
                refine ⟨av, e6', by omega, ?_⟩
                have q2 : Res K W σ Q (IsRV K) t1 H1 ((lcL vs f c e (ds.drop (i + 1)) (acc ++ [x6]) s6).bind fun acc st2 => .ok (.ow (.lst acc)) { st2 with env := keepE st1.env st2.env vs }) := q2
                have R8 := R7.updNon (o := .lst (av ++ [y6])) n6
                have le6 : Le (fz t6 H6) (fz t6 (upd H6 D (.lst (av ++ [y6])))) := fun b u h => by
                  obtain ⟨h1, h2⟩ := of_fz h
                  have ne : b ≠ D := fun e => by rw [e, n6] at h1; cases h1
                  rw [fz_of h1, upd_ne ne]; exact h2
                have E16 := E15.trans E6
                refine nxt ⟨fun b hb => ?_, E16.cel, fun b u hb e => ?_, fun b j u hb e => ?_⟩ R8 n6 upd_same ((((G3.ext.trans E5).trans E6).dats m2).append (Dats.cons p6 Dats.nil) |>.mono le6 fun _ _ h => h) (by simp; omega) q2
                · obtain ⟨h1, h2⟩ := E16.frz b hb
                  have ne : b ≠ D := fun e => by rw [e, nD] at hb; cases hb
                  exact ⟨h1, by rw [upd_ne ne]; exact h2⟩
                · obtain ⟨h1, h2⟩ := E16.oth b u hb e
                  have ne : b ≠ D := fun z => by rw [z, hD] at e; cases e
                  exact ⟨h1, by rw [upd_ne ne]; exact h2⟩
                · obtain ⟨h1, h2⟩ := E16.slt b j u hb e
                  have ne : b ≠ D := fun z => by rw [z, hD] at e; cases e
                  exact ⟨by rw [upd_ne ne]; exact h1, h2⟩
    · exact q1.elim
end Dn
end

section
set_option maxHeartbeats 4000000
-- Dn10
/-! Dn10: comprehensions as rules, assignments, methods of lists, stores into cells -/
namespace Dn
open PySem PySem.Spec L2
theorem PTs.imp {X : Cx} {ifs : List Expr} {t t' : TT} (h : PTs X ifs t) (i : ∀ σ H Q, t' σ H Q → t σ H Q) : PTs X ifs t' := ⟨fun pins s σ H Q I q => h.run pins s σ H Q I (i σ H Q q)⟩
section
variable {X : Cx} {W : WX} {e a b : Expr} {g : DE} {za zb : DZ} {pos : Pos}
theorem dts_nil : PTs X [] (tT X.K W gYes) := PTs.imp pts_nil fun σ H Q ⟨t, st, r, q⟩ => q t H (Ext.refl t H) r
theorem dts_one {c : Expr} {tc : DT} (h : PT X c (tT X.K W tc)) : PTs X [c] (tT X.K W tc) := pts_one h
theorem de_lc {elt tg iter : Expr} {ifs : List Expr} {scope : Scope} {own : List (Str × Nat)} {s : DL} {g : TG} {f : GT} {c : DT} {ze : DZ} {sl : List Nat} (hc : X.calm = true) (hN : X.N.Nodup) (hi : PI X tg iter (tI X.K W s)) (ok : BlkOk X.N X.env.scope scope own)
    (tk : TgOk X.K g f sl) (hsl : ∀ j ∈ sl, j ∈ own.map (·.2))
    (hg : ∀ (s : Shared) (H : Hp) (C : Addr) (cl : List (Str × Addr)) (fp : List Addr), PG (X.blk s H scope (compEnvC scope cl C X.env) fp) tg g) (ht : ∀ (s : Shared) (H : Hp) (C : Addr) (cl : List (Str × Addr)) (fp : List Addr), PTs (X.blk s H scope (compEnvC scope cl C X.env) fp) ifs (tT X.K W0 c))
    (he : ∀ (s : Shared) (H : Hp) (C : Addr) (cl : List (Str × Addr)) (fp : List Addr), PE (X.blk s H scope (compEnvC scope cl C X.env) fp) elt (tZ X.K W0 ze)) (hs : ∀ x, foldedSetIterable iter X.env x = pure x) :
    PE X (.ListComp elt [⟨tg, iter, ifs, 0⟩] scope pos) (tD X.K W (gLc s (own.map (·.2)) f c ze)) :=
  PE.imp (pe_lc hc hN hi ok hg ht he hs) fun _ _ _ q => lc_of tk hsl q
theorem ds_setLc {elt tg iter : Expr} {ifs : List Expr} {scope : Scope} {own : List (Str × Nat)} {s : DL} {g : TG} {f : GT} {c : DT} {ze : DZ} {sl : List Nat} {i : Nat} {y : Str} {py spos : Pos} (hc : X.calm = true) (hN : X.N.Nodup) (hy : X.N[i]? = some y) (hyl : X.env.scope.names.lookup y = some .local)
    (hsw : swapsWith (.ListComp elt [⟨tg, iter, ifs, 0⟩] scope pos) (some (.Name y py)) spos.line X.env = pure true) (hi : PI X tg iter (tI X.K W s)) (ok : BlkOk X.N X.env.scope scope own)
    (tk : TgOk X.K g f sl) (hsl : ∀ j ∈ sl, j ∈ own.map (·.2))
    (hg : ∀ (s : Shared) (H : Hp) (C : Addr) (cl : List (Str × Addr)) (fp : List Addr), PG (X.blk s H scope (compEnvC scope cl C X.env) fp) tg g) (ht : ∀ (s : Shared) (H : Hp) (C : Addr) (cl : List (Str × Addr)) (fp : List Addr), PTs (X.blk s H scope (compEnvC scope cl C X.env) fp) ifs (tT X.K W0 c))
    (he : ∀ (s : Shared) (H : Hp) (C : Addr) (cl : List (Str × Addr)) (fp : List Addr), PE (X.blk s H scope (compEnvC scope cl C X.env) fp) elt (tZ X.K W0 ze)) (hs : ∀ x, foldedSetIterable iter X.env x = pure x) :
    PS X (.Assign [.Name y py] (.ListComp elt [⟨tg, iter, ifs, 0⟩] scope pos) spos) (tS X.K W (gSet i (gLc s (own.map (·.2)) f c ze))) :=
  PS.imp (ps_setLc hc hN hy hyl hsw hi ok hg ht he hs) fun D σ H q => lc_of (W := W) tk hsl (set_of q)
/-! ### assignments to several names -/
def gTgt (g : DZ) (f : GT) : DS := fun st => (g st).bindS fun d st => match f d st with
  | some st' => .nx st'
  | none => .no
theorem tgt_of {K : PySem.W.Frag} {g : DZ} {tg : TG} {f : GT} {sl : List Nat} (tk : TgOk K tg f sl) {D : Ends} {σ : L2.St} {H : Hp} (h : tS K W (gTgt g f) D σ H) : tAsg (tZ K W g) tg D σ H := by
  obtain ⟨t, st, r, q⟩ := h
  refine tG_atS r q fun t1 st1 H1 d v E1 R1 p1 q1 => ?_
  refine tk t1 st1 σ H1 d v _ R1 p1 ?_
  cases e : f d st1 with
  | none => rw [e] at q1; exact q1.elim
  | some st2 =>
    rw [e] at q1
    exact fun σ' _ _ R' => q1 t1 σ' H1 E1.w R'
theorem ds_asg {tg : Expr} {gg : TG} {f : GT} {sl : List Nat} (he : PE X e (tZ X.K W za)) (hg : PG X tg gg) (tk : TgOk X.K gg f sl) (hs : swapsWithSole [tg] e pos.line X.env = pure false) (hw : swappedStores [tg] e X.env = pure none) (h1 : (assignEach [tg] X.env).map (·.2) = [assign tg X.env]) :
    PS X (.Assign [tg] e pos) (tS X.K W (gTgt za f)) := PS.imp (ps_asg he hg hs hw h1) fun _ _ _ q => tgt_of tk q
/-- a, b = x, y -/
def gPar (i j : Nat) (gs : DAs) : DS := fun st => (gs st).bindS fun ds st => match ds with
  | [d, e] => .nx (put j (.sh e) (put i (.sh d) st))
  | _ => .no
theorem tA_atS {K : PySem.W.Frag} {D : Ends} {σ : L2.St} {t : Tags} {H : Hp} {st : DSt} {Q1 : List V → Hp → Prop} {P1 : PL} {g : DAs} {f : List Dn.D → DSt → OutS} (r : R K t st σ H)
    (h : ResS K W D t H ((g st).bindS f))
    (k : ∀ t1 st1 H1 ds vs, Ext t H t1 H1 → R K t1 st1 σ H1 → P1 t1 H1 ds vs → ResS K W D t H (f ds st1) → Q1 vs H1) : tA K W g P1 σ H Q1 := by
  refine ⟨t, st, r, ?_⟩
  cases e : g st with
  | no => rw [e] at h; exact h
  | ex c x st' => rw [e] at h; exact fun t' H' d E' R' p => h t' σ H' d E'.w R' p
  | ok a st' =>
    rw [e] at h
    exact fun t1 H1 v E1 R1 p1 => k t1 st' H1 a v E1 R1 p1 h
theorem par_of {K : PySem.W.Frag} {i j : Nat} {gs : DAs} {D : Ends} {σ : L2.St} {H : Hp} (h : tS K W (gPar i j gs) D σ H) : tPar i j (tA K W gs (PLz K)) D σ H := by
  obtain ⟨t, st, r, q⟩ := h
  refine tA_atS r q fun t1 st1 H1 ds vs E1 R1 p1 q1 => ?_
  split at q1
  · have p1 : Dats K (fz t1 H1) (rho t1) _ vs := p1
    simp only [Dats] at p1
    obtain ⟨v, us, rfl, h1, w, us2, rfl, h2, rfl⟩ := p1
    exact ⟨v, w, rfl, q1 t1 _ H1 E1.w ((R1.storeSh h1).storeSh h2)⟩
  · exact q1.elim
theorem ds_par {i j : Nat} {x y : Str} {gs : DAs} {px py pt : Pos} {kt k2 pt2} (hc : X.calm = true) (hN : X.N.Nodup) (hi : X.N[i]? = some x) (hj : X.N[j]? = some y) (hij : i ≠ j)
    (hx : X.env.scope.names.lookup x = some .local) (hy : X.env.scope.names.lookup y = some .local) (ha : PA X [a, b] (tA X.K W gs (PLz X.K)))
    (hw : swappedStores [.Tuple [.Name x px, .Name y py] kt pt] (.Tuple [a, b] k2 pt2) X.env = pure (some [x, y]))
    (hs : swapsWithSole [.Tuple [.Name x px, .Name y py] kt pt] (.Tuple [a, b] k2 pt2) pos.line X.env = pure false) :
    PS X (.Assign [.Tuple [.Name x px, .Name y py] kt pt] (.Tuple [a, b] k2 pt2) pos) (tS X.K W (gPar i j gs)) := PS.imp (ps_par hc hN hi hj hij hx hy ha hw hs) fun _ _ _ q => par_of q
def gPar3 (i j l : Nat) (gs : DAs) : DS := fun st => (gs st).bindS fun ds st => match ds with
  | [d, e, k] => .nx (put l (.sh k) (put j (.sh e) (put i (.sh d) st)))
  | _ => .no
theorem par3_of {K : PySem.W.Frag} {i j l : Nat} {gs : DAs} {D : Ends} {σ : L2.St} {H : Hp} (h : tS K W (gPar3 i j l gs) D σ H) : tPar3 i j l (tA K W gs (PLz K)) D σ H := by
  obtain ⟨t, st, r, q⟩ := h
  refine tA_atS r q fun t1 st1 H1 ds vs E1 R1 p1 q1 => ?_
  split at q1
  · have p1 : Dats K (fz t1 H1) (rho t1) _ vs := p1
    simp only [Dats] at p1
    obtain ⟨v, us, rfl, h1, w, us2, rfl, h2, z, us3, rfl, h3, rfl⟩ := p1
    exact ⟨v, w, z, rfl, q1 t1 _ H1 E1.w (((R1.storeSh h1).storeSh h2).storeSh h3)⟩
  · exact q1.elim
theorem ds_par3 {i j l : Nat} {x y z : Str} {c : Expr} {gs : DAs} {px py pz pt : Pos} {kt k2 pt2} (hc : X.calm = true) (hN : X.N.Nodup) (hi : X.N[i]? = some x) (hj : X.N[j]? = some y) (hl : X.N[l]? = some z) (hij : i ≠ j) (hil : i ≠ l) (hjl : j ≠ l)
    (hx : X.env.scope.names.lookup x = some .local) (hy : X.env.scope.names.lookup y = some .local) (hz : X.env.scope.names.lookup z = some .local) (ha : PA X [a, b, c] (tA X.K W gs (PLz X.K)))
    (hw : swappedStores [.Tuple [.Name x px, .Name y py, .Name z pz] kt pt] (.Tuple [a, b, c] k2 pt2) X.env = pure (some [x, y, z]))
    (hs : swapsWithSole [.Tuple [.Name x px, .Name y py, .Name z pz] kt pt] (.Tuple [a, b, c] k2 pt2) pos.line X.env = pure false) :
    PS X (.Assign [.Tuple [.Name x px, .Name y py, .Name z pz] kt pt] (.Tuple [a, b, c] k2 pt2) pos) (tS X.K W (gPar3 i j l gs)) := PS.imp (ps_par3 hc hN hi hj hl hij hil hjl hx hy hz ha hw hs) fun _ _ _ q => par3_of q
theorem R.look {K : PySem.W.Frag} {t : Tags} {st : DSt} {σ : L2.St} {H : Hp} {i : Nat} {x : RV} (r : R K t st σ H) (e : st.env[i]? = some (some x)) : ∃ v, σ[i]? = some (some v) ∧ Vw K t H x.fz v := by
  obtain ⟨v, ev, sl⟩ := r.env i x e
  refine ⟨v, ev, ?_⟩
  cases x with
  | sh d => exact Vw.of sl
  | ow ob =>
    obtain ⟨p, rfl, h1, h2⟩ := sl
    exact Vw.obj (fun k => by rw [h1]; exact nofun) h2
/-! ### name op= e -/
def gAug (i : Nat) (f : D → D → Option RV) (z : DZ) : DS := fun st => (gN i st).bindS fun d st => (z st).bindS fun e st => (opt (f d e) st).bindS fun r st => .nx (put i r st)
theorem ds_aug {f : D → D → Option RV} {op : Operator} {i : Nat} {x : Str} {p : Pos} (hN : X.N.Nodup) (hi : X.N[i]? = some x) (hx : Loc X.env.scope x) (he : PE X e (tV X.K W za)) (ho : OpR X (inplaceOp op) (rF X.K f)) (hf : X.fn x = true ∨ X.env.scope.names.lookup x = some .local) :
    PS X (.AugAssign (.Name x p) op e pos) (tS X.K W (gAug i f za)) := by
  refine PS.imp (ps_aug hN hi hx he ho hf) fun D σ H ⟨t, st, r, q⟩ => ?_
  unfold gAug gN at q
  cases e : st.env[i]? with
  | none => rw [e] at q; exact q.elim
  | some o =>
    cases o with
    | none => rw [e] at q; exact q.elim
    | some rv =>
      rw [e] at q
      obtain ⟨v, ev, vw⟩ := r.look e
      refine ⟨v, ev, ?_⟩
      refine tG_atS r q fun t1 st1 H1 d y E1 R1 p1 q1 => ?_
      have q2 := ResS.step E1.w q1
      refine ⟨t1, _, d, R1.tagOk, Vw.step E1 vw, p1, ?_⟩
      cases ef : f rv.fz d with
      | none => rw [ef] at q2; exact q2.elim
      | some rr =>
        rw [ef] at q2
        intro t2 H2 z G2 p2
        obtain ⟨t3, E3, R3⟩ := R.stored (i := i) G2.ext (G2.st _ _ R1) p2
        exact q2 t3 _ H2 E3 R3
/-! ### methods of lists of one's own, as statements -/
theorem R.slotAt {K : PySem.W.Frag} {t : Tags} {st : DSt} {σ : L2.St} {H : Hp} {i : Nat} {xs : List D} (r : R K t st σ H) (e : st.env[i]? = some (some (.ow (.lst xs)))) : ∃ p vs, σ[i]? = some (some (.ref p)) ∧ t p = .slot i ∧ H p = some (.lst vs) ∧ Dats K (fz t H) (rho t) xs vs := by
  obtain ⟨v, ev, p, rfl, h1, vs, h2, h3⟩ := r.env i _ e
  exact ⟨p, vs, ev, h1, h2, h3⟩
theorem R.updSlot {K : PySem.W.Frag} {t : Tags} {st : DSt} {σ : L2.St} {H : Hp} {i : Nat} {p : Addr} {vs : List V} {xs : List D} (r : R K t st σ H) (hp : σ[i]? = some (some (.ref p))) (ht : t p = .slot i) (m : Dats K (fz t H) (rho t) xs vs) :
    ExtW t H t (upd H p (.lst vs)) ∧ R K t { st with env := st.env.set i (some (.ow (.lst xs))) } σ (upd H p (.lst vs)) := by
  have ne : ∀ b, t b ≠ .slot i → b ≠ p := fun b h e => h (e ▸ ht)
  have le : Le (fz t H) (fz t (upd H p (.lst vs))) := fun b u h => by
    obtain ⟨h1, h2⟩ := of_fz h
    rw [fz_of h1, upd_ne (ne b (by rw [h1]; exact nofun))]; exact h2
  refine ⟨⟨fun b hb => ⟨hb, upd_ne (ne b (by rw [hb]; exact nofun))⟩, fun _ _ h => h, fun b o hb e => ⟨hb, by rw [upd_ne (ne b (by rw [hb]; exact nofun))]; exact e⟩⟩, ⟨fun b hb => ?_, fun k o' hk => ?_, r.r0.lt⟩, by simpa using r.len, fun j x h => ?_⟩
  · by_cases e : b = p
    · rw [e, upd_same]; exact nofun
    · rw [upd_ne e]; exact r.r0.tag b hb
  · obtain ⟨b, h1, h2, h3⟩ := r.r0.cel k o' hk
    have nb : b ≠ p := ne b (by rw [h1]; exact nofun)
    exact ⟨b, h1, h2, h3.mono le (fun _ _ h => h) fun o h => by rw [upd_ne nb]; exact h⟩
  · have h : (st.env.set i (some (.ow (.lst xs))))[j]? = some (some x) := h
    by_cases hj : i = j
    · subst hj
      by_cases hl : i < st.env.length
      · rw [List.getElem?_set_self hl] at h
        cases h
        exact ⟨.ref p, hp, p, rfl, ht, vs, upd_same, m.mono le fun _ _ h => h⟩
      · rw [List.getElem?_eq_none (by simpa using hl)] at h
        cases h
    · rw [List.getElem?_set_ne hj] at h
      obtain ⟨v, e, q⟩ := r.env j x h
      refine ⟨v, e, ?_⟩
      cases x with
      | sh d => exact Dat.mono le (fun _ _ h => h) q
      | ow ob =>
        obtain ⟨b, e1, h1, h2⟩ := q
        have nb : b ≠ p := ne b (by rw [h1]; intro z; injection z with z; exact hj z.symm)
        exact ⟨b, e1, h1, h2.mono le (fun _ _ h => h) fun o h => by rw [upd_ne nb]; exact h⟩
def ownL (st : DSt) (i : Nat) : Option (List D) := match st.env[i]? with
  | some (some (.ow (.lst xs))) => some xs
  | _ => none
theorem ownL_of {st : DSt} {i : Nat} {xs : List D} (h : ownL st i = some xs) : st.env[i]? = some (some (.ow (.lst xs))) := by
  unfold ownL at h
  split at h
  · cases h; assumption
  · cases h
def gApp (i : Nat) (z : DZ) : DS := fun st => match ownL st i with
  | none => .no
  | some _ => (z st).bindS fun d st1 => match ownL st1 i with
    | none => .no
    | some xs => if xs.length < sizeLine then .nx { st1 with env := st1.env.set i (some (.ow (.lst (xs ++ [d])))) } else .no
theorem ds_append {i : Nat} {x : Str} {p apos cpos : Pos} (hN : X.N[i]? = some x) (hv : Vis X.env.scope x) (hd : (x == ("__debug__" : Str)) = false) (hcd : (x == ("__classdict__" : Str)) = false) (he : PE X e (tZ X.K W za))
    (hs : swapsWith (.Call (.Attribute (.Name x p) "append" apos) [e] [] cpos) none pos.line X.env = pure false)
    (hbase : attributeBase (.Name x p) "append" X.env (eval (.Name x p) X.env) = eval (.Name x p) X.env)
    (hfew : ((backTo cpos (starEach [e] X.env)).all (fun x => !x.1) && (backToKw cpos (keywordEach [] X.env)).all (fun x => x.1.isSome)
      && decide (([e] : List Expr).length + ([] : List Keyword).length + (if ([] : List Keyword).isEmpty then 0 else 1) < 30)) = true)
    (hline : (apos.endLine == cpos.line) = true) (hst : starEach [e] X.env = (false, eval e X.env) :: starEach [] X.env) (hplain : (backTo cpos (starEach [] X.env)).any (·.1) = false) :
    PS X (.Expr (.Call (.Attribute (.Name x p) "append" apos) [e] [] cpos) pos) (tS X.K W (gApp i za)) := by
  refine PS.imp (ps_expr (pe_bm F.plainAttrs_list F.slot_list_append F.type_list_append mt_append (pe_var hN hv hd hcd) (pa_cons he pa_nil hst) hbase hfew hline hst hplain) hs) fun D σ H ⟨t, st, r, q⟩ => ?_
  unfold gApp at q
  cases e1 : ownL st i with
  | none => rw [e1] at q; exact q.elim
  | some ys =>
    rw [e1] at q
    obtain ⟨p1, vs1, hp1, ht1, hH1, m1⟩ := r.slotAt (ownL_of e1)
    refine ⟨.ref p1, hp1, .inl ⟨rfl, vs1, SqL.of hH1⟩, ?_⟩
    refine tG_atS r q fun t1 st1 H1 d y E1 R1 p1 q1 => ?_
    have q2 := ResS.step E1.w q1
    cases e2 : ownL st1 i with
    | none => rw [e2] at q2; exact q2.elim
    | some xs =>
      rw [e2] at q2
      obtain ⟨p2, vs2, hp2, ht2, hH2, m2⟩ := R1.slotAt (ownL_of e2)
      rw [hp1] at hp2
      cases hp2
      dsimp only at q2
      split at q2
      · rename_i hz
        obtain ⟨EW, RW⟩ := R1.updSlot hp1 ht2 (m2.append (Dats.cons p1 Dats.nil))
        exact ⟨_, vs2, y, rfl, rfl, hH2, by rw [← m2.length]; exact hz, q2 t1 σ _ EW RW⟩
      · exact q2.elim
def gExt (i : Nat) (z : DZ) : DS := fun st => match ownL st i with
  | none => .no
  | some _ => (z st).bindS fun d st1 => match ownL st1 i, d with
    | some xs, .lst ys => if xs.length + ys.length ≤ sizeLine then .nx { st1 with env := st1.env.set i (some (.ow (.lst (xs ++ ys)))) } else .no
    | _, _ => .no
theorem ds_extend {i : Nat} {x : Str} {p apos cpos : Pos} (hN : X.N[i]? = some x) (hv : Vis X.env.scope x) (hd : (x == ("__debug__" : Str)) = false) (hcd : (x == ("__classdict__" : Str)) = false) (he : PE X e (tV X.K W za))
    (hs : swapsWith (.Call (.Attribute (.Name x p) "extend" apos) [e] [] cpos) none pos.line X.env = pure false)
    (hbase : attributeBase (.Name x p) "extend" X.env (eval (.Name x p) X.env) = eval (.Name x p) X.env)
    (hfew : ((backTo cpos (starEach [e] X.env)).all (fun x => !x.1) && (backToKw cpos (keywordEach [] X.env)).all (fun x => x.1.isSome)
      && decide (([e] : List Expr).length + ([] : List Keyword).length + (if ([] : List Keyword).isEmpty then 0 else 1) < 30)) = true)
    (hline : (apos.endLine == cpos.line) = true) (hst : starEach [e] X.env = (false, eval e X.env) :: starEach [] X.env) (hplain : (backTo cpos (starEach [] X.env)).any (·.1) = false) :
    PS X (.Expr (.Call (.Attribute (.Name x p) "extend" apos) [e] [] cpos) pos) (tS X.K W (gExt i za)) := by
  refine PS.imp (ps_expr (pe_bm F.plainAttrs_list F.slot_list_extend F.type_list_extend mt_extend (pe_var hN hv hd hcd) (pa_cons he pa_nil hst) hbase hfew hline hst hplain) hs) fun D σ H ⟨t, st, r, q⟩ => ?_
  unfold gExt at q
  cases e1 : ownL st i with
  | none => rw [e1] at q; exact q.elim
  | some ys =>
    rw [e1] at q
    obtain ⟨p1, vs1, hp1, ht1, hH1, m1⟩ := r.slotAt (ownL_of e1)
    refine ⟨.ref p1, hp1, .inl ⟨rfl, vs1, SqL.of hH1⟩, ?_⟩
    refine tG_atS r q fun t1 st1 H1 d y E1 R1 p1 q1 => ?_
    have q2 := ResS.step E1.w q1
    cases e2 : ownL st1 i with
    | none => rw [e2] at q2; exact q2.elim
    | some xs =>
      rw [e2] at q2
      obtain ⟨p2, vs2, hp2, ht2, hH2, m2⟩ := R1.slotAt (ownL_of e2)
      rw [hp1] at hp2
      cases hp2
      cases d with
      | lst zs =>
        obtain ⟨b, zv, rfl, hb, _, mz⟩ := p1
        dsimp only at q2
        split at q2
        · rename_i hz
          obtain ⟨EW, RW⟩ := R1.updSlot hp1 ht2 (m2.append mz)
          exact ⟨_, b, vs2, zv, rfl, rfl, hH2, hb, by rw [← m2.length, ← mz.length]; exact hz, q2 t1 σ _ EW RW⟩
        · exact q2.elim
      | _ => exact q2.elim
/-! ### name[i] = e: a cell of the store, or a list of one's own -/
theorem R.updCell {K : PySem.W.Frag} {t : Tags} {st : DSt} {σ : L2.St} {H : Hp} {k : Nat} {p : Addr} {vs : List V} {xs : List D} (r : R K t st σ H) (ht : t p = .cell k) (un : ∀ b, t b = .cell k → b = p) (m : Dats K (fz t H) (rho t) xs vs) :
    ExtW t H t (upd H p (.lst vs)) ∧ R K t { st with S := st.S.set k (.lst xs) } σ (upd H p (.lst vs)) := by
  have ne : ∀ b, t b ≠ .cell k → b ≠ p := fun b h e => h (e ▸ ht)
  have le : Le (fz t H) (fz t (upd H p (.lst vs))) := fun b u h => by
    obtain ⟨h1, h2⟩ := of_fz h
    rw [fz_of h1, upd_ne (ne b (by rw [h1]; exact nofun))]; exact h2
  refine ⟨⟨fun b hb => ⟨hb, upd_ne (ne b (by rw [hb]; exact nofun))⟩, fun _ _ h => h, fun b o hb e => ⟨hb, by rw [upd_ne (ne b (by rw [hb]; exact nofun))]; exact e⟩⟩, ⟨fun b hb => ?_, fun j o' hk => ?_, fun b j h => by simpa using r.r0.lt b j h⟩, r.len, fun j x h => ?_⟩
  · by_cases e : b = p
    · rw [e, upd_same]; exact nofun
    · rw [upd_ne e]; exact r.r0.tag b hb
  · have hk : (st.S.set k (.lst xs))[j]? = some o' := hk
    by_cases hj : k = j
    · subst hj
      by_cases hl : k < st.S.length
      · rw [List.getElem?_set_self hl] at hk
        cases hk
        exact ⟨p, ht, un, vs, upd_same, m.mono le fun _ _ h => h⟩
      · rw [List.getElem?_eq_none (by simpa using hl)] at hk
        cases hk
    · rw [List.getElem?_set_ne hj] at hk
      obtain ⟨b, h1, h2, h3⟩ := r.r0.cel j o' hk
      have nb : b ≠ p := ne b (by rw [h1]; intro z; injection z with z; exact hj z.symm)
      exact ⟨b, h1, h2, h3.mono le (fun _ _ h => h) fun o h => by rw [upd_ne nb]; exact h⟩
  · obtain ⟨v, e, q⟩ := r.env j x h
    refine ⟨v, e, ?_⟩
    cases x with
    | sh d => exact Dat.mono le (fun _ _ h => h) q
    | ow ob =>
      obtain ⟨b, e1, h1, h2⟩ := q
      have nb : b ≠ p := ne b (by rw [h1]; exact nofun)
      exact ⟨b, e1, h1, h2.mono le (fun _ _ h => h) fun o h => by rw [upd_ne nb]; exact h⟩
theorem Dats.set {K : PySem.W.Frag} {F : Hp} {r : Nat → Addr → Prop} {d : D} {v : V} (h : Dat K F r d v) : ∀ {ds : List D} {vs : List V} (n : Nat), Dats K F r ds vs → Dats K F r (ds.set n d) (vs.set n v)
  | [], vs, _, m => by
    rw [Dats] at m
    subst m
    exact Dats.nil
  | d :: ds, vs, 0, m => by
    rw [Dats] at m
    obtain ⟨u, us, rfl, h1, h2⟩ := m
    exact Dats.cons h h2
  | d :: ds, vs, n + 1, m => by
    rw [Dats] at m
    obtain ⟨u, us, rfl, h1, h2⟩ := m
    exact Dats.cons h1 (Dats.set h n h2)
def gSetAt (i : Nat) (z zi : DZ) : DS := fun st => (z st).bindS fun d st => (gN i st).bindS fun a st => (zi st).bindS fun ix st => match ix with
  | .int n => (match cellAt st a with
    | some xs => (match ixN xs.length n, a with
      | some j, .cell k => .nx { st with S := st.S.set k (.lst (xs.set j d)) }
      | _, _ => .no)
    | none => (match ownL st i with
      | some xs => (match ixN xs.length n with
        | some j => .nx { st with env := st.env.set i (some (.ow (.lst (xs.set j d)))) }
        | none => .no)
      | none => .no))
  | _ => .no
theorem ds_setAt {i : Nat} {x : Str} {p spos : Pos} {zi : DZ} (hN : X.N[i]? = some x) (hv : Vis X.env.scope x) (hd : (x == ("__debug__" : Str)) = false) (hcd : (x == ("__classdict__" : Str)) = false) (he : PE X e (tZ X.K W za)) (hi : PE X b (tV X.K W zi))
    (ha : ∀ v, assign (.Subscript (.Name x p) b spos) X.env v = (do
      let ov ← holding [v] (eval (.Name x p) X.env)
      let iv ← holding [v, ov] (eval b X.env)
      standAt spos
      holding [v, ov, iv] (setItem ov iv v)
      release [v, ov, iv] []))
    (hs : swapsWithSole [.Subscript (.Name x p) b spos] e pos.line X.env = pure false) (hw : swappedStores [.Subscript (.Name x p) b spos] e X.env = pure none) (h1 : (assignEach [.Subscript (.Name x p) b spos] X.env).map (·.2) = [assign (.Subscript (.Name x p) b spos) X.env]) :
    PS X (.Assign [.Subscript (.Name x p) b spos] e pos) (tS X.K W (gSetAt i za zi)) := by
  refine PS.imp (ps_asg he (pg_sub (pe_var hN hv hd hcd) hi set_list ha) hs hw h1) fun D σ H ⟨t, st, r, q⟩ => ?_
  refine tG_atS r q fun t1 st1 H1 d y E1 R1 p1 q1 => ?_
  have q2 := ResS.step E1.w q1
  unfold gN at q2
  cases e0 : st1.env[i]? with
  | none => rw [e0] at q2; exact q2.elim
  | some o =>
    cases o with
    | none => rw [e0] at q2; exact q2.elim
    | some rv =>
      rw [e0] at q2
      obtain ⟨v, ev, vw⟩ := R1.look e0
      refine ⟨v, ev, ?_⟩
      refine tG_atS R1 q2 fun t2 st2 H2 ix w E2 R2 p2 q3 => ?_
      have q4 := ResS.step E2.w q3
      have vw2 := Vw.step E2 vw
      have p1' : Dat X.K (fz t2 H2) (rho t2) d y := E2.dat p1
      cases ix with
      | int n =>
        have p2 : w = .int n := p2
        dsimp only at q4
        cases ec : cellAt st2 rv.fz with
        | some xs =>
          rw [ec] at q4
          obtain ⟨k, a, vs, ed, hk, rfl, ht, hp, m⟩ := cell_of R2 vw2 ec
          obtain ⟨a', z1, z2, _⟩ := R2.r0.cel k _ hk
          have ea := z2 a ht
          subst ea
          dsimp only at q4
          cases ej : ixN xs.length n with
          | none => rw [ej] at q4; exact q4.elim
          | some j =>
            rw [ej, ed] at q4
            obtain ⟨EW, RW⟩ := R2.updCell ht z2 (Dats.set p1' j m)
            exact ⟨a, vs, n, j, rfl, p2, hp, by rw [← m.length]; exact ej, q4 t2 σ _ EW RW⟩
        | none =>
          rw [ec] at q4
          dsimp only at q4
          cases eo : ownL st2 i with
          | none => rw [eo] at q4; exact q4.elim
          | some xs =>
            rw [eo] at q4
            obtain ⟨p2', vs2, hp2, ht2, hH2, m2⟩ := R2.slotAt (ownL_of eo)
            rw [ev] at hp2
            cases hp2
            dsimp only at q4
            cases ej : ixN xs.length n with
            | none => rw [ej] at q4; exact q4.elim
            | some j =>
              rw [ej] at q4
              obtain ⟨EW, RW⟩ := R2.updSlot ev ht2 (Dats.set p1' j m2)
              exact ⟨p2', vs2, n, j, rfl, p2, hH2, by rw [← m2.length]; exact ej, q4 t2 σ _ EW RW⟩
      | _ => exact q4.elim
end
end Dn
end

section
set_option maxHeartbeats 4000000
-- Dn11
/-! Dn11: what a def promises, its call -/
namespace Dn
open PySem PySem.Spec L2

inductive FOut where
  | ok (r : RV) (S : List OD)
  | ex (c : Str) (x : D) (S : List OD)
  | no
abbrev Fm := List D → List OD → FOut
/-- what is wanted of a call -/
def ResF (K : PySem.W.Frag) (Q : VK) (E : XK) (t : Tags) (H : Hp) : FOut → Prop
  | .ok r S' => ∀ t' H' v, ExtW t H t' H' → R0 K t' S' H' → IsRV K t H t' H' r v → Q v H'
  | .ex c x S' => ∀ t' H' d, ExtW t H t' H' → R0 K t' S' H' → ExAt K t' H' d x → E (.ref (He.ga K c)) (some d) H'
  | .no => False
def spD (K : PySem.W.Frag) (n : Nat) (m : Fm) : Sp := fun vs H Q E => ∃ t S ds, R0 K t S H ∧ (∀ a i, t a ≠ .slot i) ∧ Dats K (fz t H) (rho t) ds vs ∧ ds.length = n ∧ ResF K Q E t H (m ds S)
theorem spD.len {K : PySem.W.Frag} {n : Nat} {m : Fm} {vs : List V} {H : Hp} {Q : VK} {E : XK} (h : spD K n m vs H Q E) : vs.length = n := by
  obtain ⟨t, S, ds, _, _, d, l, _⟩ := h
  rw [← d.length, l]
/-- a body as a promise: N names, their slots -/
def outF : OutS → FOut
  | .nx st => .ok (.sh .non) st.S
  | .rt r st => .ok r st.S
  | .ex c x st => .ex c x st.S
  | _ => .no
def fm (n : Nat) (g : DS) : Fm := fun ds S => outF (g ⟨ds.map (fun d => some (.sh d)) ++ List.replicate (n - ds.length) none, S⟩)
theorem body_of {K : PySem.W.Frag} {E : XK} {Q : VK} {N : List Str} {n : Nat} {g : DS} {vs : List V} {H : Hp} (h : spD K n (fm N.length g) vs H Q E) : tS K (fun cls d _ H => E cls d H) g { nx := fun _ H' => Q .non H', rt := Q } (start N vs) H := by
  obtain ⟨t, S, ds, r0, ns, dd, l, q⟩ := h
  refine ⟨t, ⟨ds.map (fun d => some (.sh d)) ++ List.replicate (N.length - ds.length) none, S⟩, ⟨r0, ?_, fun i x e => ?_⟩, ?_⟩
  · show (ds.map (fun d => some (RV.sh d)) ++ List.replicate (N.length - ds.length) none).length = (start N vs).length
    unfold L2.start
    simp [dd.length]
  · have e : (ds.map (fun d => some (RV.sh d)) ++ List.replicate (N.length - ds.length) none)[i]? = some (some x) := e
    by_cases hi : i < ds.length
    · rw [List.getElem?_append_left (by simpa using hi), List.getElem?_map] at e
      obtain ⟨d, hd, e2⟩ := Option.map_eq_some_iff.mp e
      cases e2
      obtain ⟨v, hv, dv⟩ := dd.get hd
      refine ⟨v, ?_, dv⟩
      unfold L2.start
      rw [List.getElem?_append_left (by rw [List.length_map, ← dd.length]; exact hi), List.getElem?_map, hv]
      rfl
    · rw [List.getElem?_append_right (by simpa using hi), List.getElem?_replicate] at e
      split at e <;> cases e
  · unfold fm at q
    cases e : g ⟨ds.map (fun d => some (.sh d)) ++ List.replicate (N.length - ds.length) none, S⟩ with
    | nx st =>
      rw [e] at q
      exact fun t' σ' H' E' R' => q t' H' .non E' R'.r0 (by show Dat _ _ _ _ _; rw [Dat])
    | rt rv st =>
      rw [e] at q
      exact fun t' σ' H' v E' R' p => q t' H' v E' R'.r0 p
    | ex c x st =>
      rw [e] at q
      exact fun t' σ' H' d E' R' p => q t' H' d E' R'.r0 p
    | bk _ => rw [e] at q; exact q.elim
    | ct _ => rw [e] at q; exact q.elim
    | no => rw [e] at q; exact q.elim

/-! ### the caller's slots are no one's for the callee -/
def unslot (t : Tags) : Tags := fun a => match t a with
  | .slot _ => .non
  | x => x
theorem unslot_frz {t : Tags} {a : Addr} : unslot t a = .frz ↔ t a = .frz := by
  unfold unslot; cases t a <;> simp
theorem unslot_cell {t : Tags} {a : Addr} {k : Nat} : unslot t a = .cell k ↔ t a = .cell k := by
  unfold unslot; cases t a <;> simp
theorem unslot_slot {t : Tags} {a : Addr} {i : Nat} : unslot t a ≠ .slot i := by
  unfold unslot; cases t a <;> simp
theorem unslot_non {t : Tags} {a : Addr} (h : t a = .non) : unslot t a = .non := by
  unfold unslot; rw [h]
theorem fz_unslot {t : Tags} {H : Hp} : fz (unslot t) H = fz t H := by
  funext a
  unfold fz
  by_cases h : t a = .frz
  · rw [if_pos h, if_pos (unslot_frz.mpr h)]
  · rw [if_neg h, if_neg fun z => h (unslot_frz.mp z)]
theorem rho_unslot {t : Tags} : rho (unslot t) = rho t := by
  funext k a
  exact propext unslot_cell
theorem R0.unslot {K : PySem.W.Frag} {t : Tags} {S : List OD} {H : Hp} (r : R0 K t S H) : R0 K (unslot t) S H where
  tag := fun a h => r.tag a fun e => h (unslot_non e)
  cel := fun k o h => by
    obtain ⟨a, h1, h2, h3⟩ := r.cel k o h
    exact ⟨a, unslot_cell.mpr h1, fun b hb => h2 b (unslot_cell.mp hb), by rw [fz_unslot, rho_unslot]; exact h3⟩
  lt := fun a k h => r.lt a k (unslot_cell.mp h)
/-- the caller's tags behind a call -/
def joinT (t t' : Tags) : Tags := fun a => match t a with
  | .slot i => .slot i
  | _ => unslot t' a
section
variable {K : PySem.W.Frag} {t t' : Tags} {H H' : Hp} {st : DSt} {σ : L2.St} {S' : List OD}
theorem joinT_ne {a : Addr} (h : ∀ i, t a ≠ .slot i) : joinT t t' a = unslot t' a := by
  unfold joinT
  cases e : t a <;> first | rfl | exact absurd e (h _)
theorem joinT_slot {a : Addr} {i : Nat} (h : t a = .slot i) : joinT t t' a = .slot i := by
  unfold joinT; rw [h]
theorem slot_non (r : R0 K t st.S H) (E : ExtW (unslot t) H t' H') {a : Addr} {i : Nat} (h : t a = .slot i) : t' a = .non ∧ H' a = H a := by
  cases q : H a with
  | none => exact absurd q (r.tag a (by rw [h]; exact nofun))
  | some o =>
    have e : unslot t a = .non := by unfold unslot; rw [h]
    exact E.oth a o e q
theorem fz_joinT (r : R0 K t st.S H) (E : ExtW (unslot t) H t' H') : fz (joinT t t') H' = fz t' H' ∧ rho (joinT t t') = rho t' := by
  have key : ∀ a (x : Tag), (∀ i, x ≠ .slot i) → x ≠ .non → (joinT t t' a = x ↔ t' a = x) := fun a x hx hn => by
    by_cases h : ∃ i, t a = .slot i
    · obtain ⟨i, h⟩ := h
      rw [joinT_slot h, (slot_non r E h).1]
      exact ⟨fun z => absurd z.symm (hx i), fun z => absurd z.symm hn⟩
    · have h : ∀ i, t a ≠ .slot i := fun i z => h ⟨i, z⟩
      rw [joinT_ne h]
      cases x with
      | non => exact absurd rfl hn
      | frz => exact unslot_frz
      | cell k => exact unslot_cell
      | slot i => exact absurd rfl (hx i)
  constructor
  · funext a
    unfold fz
    by_cases h : t' a = .frz
    · rw [if_pos h, if_pos ((key a .frz nofun nofun).mpr h)]
    · rw [if_neg h, if_neg fun z => h ((key a .frz nofun nofun).mp z)]
  · funext k a
    exact propext (key a (.cell k) nofun nofun)
/-- behind a call -/
theorem R.call (r : R K t st σ H) (E : ExtW (unslot t) H t' H') (r' : R0 K t' S' H') : Ext t H (joinT t t') H' ∧ R K (joinT t t') { st with S := S' } σ H' := by
  obtain ⟨ef, er⟩ := fz_joinT r.r0 E
  have X : Ext t H (joinT t t') H' := {
    frz := fun a h => by
      obtain ⟨h1, h2⟩ := E.frz a (unslot_frz.mpr h)
      exact ⟨by rw [joinT_ne (fun i => by rw [h]; exact nofun)]; exact unslot_frz.mpr h1, h2⟩
    cel := fun a k h => by
      rw [joinT_ne (fun i => by rw [h]; exact nofun)]
      exact unslot_cell.mpr (E.cel a k (unslot_cell.mpr h))
    oth := fun a o h e => by
      obtain ⟨h1, h2⟩ := E.oth a o (unslot_non h) e
      exact ⟨by rw [joinT_ne (fun i => by rw [h]; exact nofun)]; exact unslot_non h1, h2⟩
    slt := fun a i o h e => by
      obtain ⟨h1, h2⟩ := slot_non r.r0 E h
      exact ⟨h2.trans e, fun k => by rw [joinT_slot h]; exact nofun⟩ }
  refine ⟨X, ⟨fun a h => ?_, fun k o h => ?_, fun a k h => r'.lt a k (by have e : rho (joinT t t') k a := h; rw [er] at e; exact e)⟩, r.len, fun i x h => ?_⟩
  · by_cases hs : ∃ i, t a = .slot i
    · obtain ⟨i, hs⟩ := hs
      rw [(slot_non r.r0 E hs).2]
      exact r.r0.tag a (by rw [hs]; exact nofun)
    · rw [joinT_ne fun i z => hs ⟨i, z⟩] at h
      exact r'.tag a fun e => h (unslot_non e)
  · obtain ⟨a, h1, h2, h3⟩ := r'.cel k o h
    refine ⟨a, ?_, fun b hb => ?_, by rw [ef, er]; exact h3⟩
    · have e : rho t' k a := h1
      rw [← er] at e
      exact e
    · have e : rho (joinT t t') k b := hb
      rw [er] at e
      exact h2 b e
  · obtain ⟨v, e, q⟩ := r.env i x h
    refine ⟨v, e, ?_⟩
    cases x with
    | sh d => exact X.dat q
    | ow o =>
      obtain ⟨a, e1, h1, h2⟩ := q
      exact ⟨a, e1, joinT_slot h1, h2.mono X.le X.rh fun o h => by rw [(slot_non r.r0 E h1).2]; exact h⟩
theorem IsRV.call (r : R0 K t st.S H) (E : ExtW (unslot t) H t' H') {x : RV} {v : V} (p : IsRV K (unslot t) H t' H' x v) : IsRV K t H (joinT t t') H' x v := by
  obtain ⟨ef, er⟩ := fz_joinT r E
  cases x with
  | sh d =>
    show Dat _ _ _ _ _
    rw [ef, er]; exact p
  | ow o =>
    obtain ⟨a, e, h1, h2, h3⟩ := p
    have ns : ∀ i, t a ≠ .slot i := fun i z => by
      have z2 := h1 (by unfold unslot; rw [z])
      exact r.tag a (by rw [z]; exact nofun) z2
    exact ⟨a, e, fun n => h1 (unslot_non n), by rw [joinT_ne ns]; exact unslot_non h2, by rw [ef, er]; exact h3⟩
end

/-! ### a def -/
/-- a def's promise, where no repr is under way -/
def FnG (P : Program) (w : World) (K : PySem.W.Frag) (mg : Str → Option Value) (base : Heap) (k : Nat) (f : Addr) (fd : FuncData) (ps : List Str) (m : Fm) : Prop :=
  ∀ (A : Around) (outer : List Env) (s : Shared) (H : Hp) (args : Args) (us : List Value) (vs : List V) (Q : VK) (E : XK), Room k A → A.guards = some [] → Env0 P w K mg base A outer s H → BindsTo s fd args (ps.zip us) → Vals vs us → spD K ps.length m vs H Q E →
    codeAny (model P w) A (.call (.ref f) args) (CR (CX P w) outer P w H s Q E) s
theorem FnG.mono {P : Program} {w : World} {K : PySem.W.Frag} {mg : Str → Option Value} {base : Heap} {j k : Nat} {f : Addr} {fd : FuncData} {ps : List Str} {m : Fm} (F : FnG P w K mg base j f fd ps m) (h : j ≤ k) : FnG P w K mg base k f fd ps m :=
  fun A outer s H args us vs Q E hr hg => F A outer s H args us vs Q E (hr.mono h) hg
/-- what the body's rules may lean on -/
structure Body (X : Cx) (k : Nat) (W : WX) : Prop where
  room : Room k X.A
  gds : X.A.guards = some []
  calm : X.calm = true
  own : PassesOwn (model X.prog X.w) X.A X.env X.xe
  tk : Takes X W
  fn : ∀ x, X.fn x = true
  st : X.stack = X.env :: X.outer
  fr : X.env.frame = some X.env.locals
  ex : X.ex = []
abbrev cxG (P : Program) (w : World) (K : PySem.W.Frag) (mg : Str → Option Value) (base : Heap) (N : List Str) (qual : Str) (scope : Scope) (f : Addr) (cdv : Value) (A : Around) (outer : List Env) (s : Shared) (H : Hp) (E : XK) : Cx :=
  cxOf (CX P w) P w K mg base N qual scope f cdv A outer s H E
theorem fnG_of {P : Program} {w : World} {K : PySem.W.Frag} {mg : Str → Option Value} {base : Heap} {k : Nat} {f : Addr} {x qual : Str} {params : Arguments} {body : List Stmt} {scope : Scope} {dvs : List V} {kws : List (Str × V)} {fd : FuncData}
    {N ps : List Str} {g : DS} (F : FunD K x qual params body scope dvs kws f fd) (S : FnScope N ps scope)
    (hbody : ∀ (cdv : Value) (A : Around) (outer : List Env) (s : Shared) (H : Hp) (E : XK) (W : WX), W = (fun cls d _ H => E cls d H) → Body (cxG P w K mg base N qual scope f cdv A outer s H E) k W →
      PSs (cxG P w K mg base N qual scope f cdv A outer s H E) body (tS K W g)) :
    FnG P w K mg base (k + 1) f fd ps (fm N.length g) := by
  obtain ⟨oc, od, dV, kV, doc, pm, an, cdv, ct, osl, rfl, lk, hcd, _, _⟩ := F.ex
  intro A outer s H args us vs Q E room gd env0 hbind vals want
  have hlen : vs.length = ps.length := want.len
  have stay : ∀ b o, base.get? b = some o → s.heap.get? b = some o := fun b o e => (env0.bs b o e).1
  have inS : K.In s.heap := env0.mod.kin.keeps stay
  have noLim : s.heap.NoLimit := env0.mod.nolimit.keeps stay
  refine codeAny_call_function room.depth (inS _ _ lk) rfl S.co S.gen rfl (PySem.W.codeRec_of inS hcd) (hbind _ _ _ _ ?_)
  refine wpAny_newFunctionEnv_cells S.kind (fun y hy => ?_) fun env he s1 x => ?_
  · obtain ⟨n, v⟩ := y
    exact (S.par n (List.of_mem_zip hy).1).imp id fun q => ⟨q, PySem.W.cellsFrom_some _ _ _ (.inl q)⟩
  subst he
  refine ⟨noLim.keeps x.toInCall.keep, codeAny_func ?_⟩
  have inv : Inv (cxG P w K mg base N qual scope f cdv A outer s H E) [] (start N vs) H s1 := inv_start S room.hd env0 hlen vals x
  have bd : Body (cxG P w K mg base N qual scope f cdv A outer s H E) k (fun cls d _ H => E cls d H) := ⟨room.deeper _, gd, rfl, passes_of rfl, takes_of rfl rfl rfl rfl, fun _ => rfl, rfl, rfl, rfl⟩
  have run := (hbody cdv A outer s H E _ rfl bd).run [] s1 (start N vs) H _ inv (body_of (N := N) want)
  refine wpAny_mono run (fun fl s' hs => ?_) fun e s' hs => hs
  match fl, hs with
  | .ret u, ⟨v, σ', H', J, rv, q⟩ => exact ⟨v, H', J.os, J.bare, J.base, J.hok, rv, q⟩
  | .next, ⟨σ', H', J, q⟩ => exact ⟨V.non, H', J.os, J.bare, J.base, J.hok, (rfl : Value.none = Value.none), q⟩
  | .brk, ⟨_, _, _, q⟩ => exact False.elim q
  | .cont, ⟨_, _, _, q⟩ => exact False.elim q

/-! ### the call of a def by its name -/
def outE : FOut → DSt → Out RV
  | .ok r S, st => .ok r { st with S := S }
  | .ex c x S, st => .ex c x { st with S := S }
  | .no, _ => .no
def gFn (m : Fm) (gs : DAs) : DE := fun st => (gs st).bind fun ds st => outE (m ds st.S) st
section
variable {X : Cx} {W : WX} {k : Nat} {f : Addr} {fd : FuncData} {ps : List Str} {m : Fm} {x : Str} {p pos : Pos} {e : Expr} {es : List Expr} {gs : DAs}
/-- the callee runs -/
theorem run_G (F : FnG X.prog X.w X.K X.mg X.base k f fd ps m) (room : Room k X.A) (gd : X.A.guards = some []) (hb : Binds X.K fd ps []) (hx : ∀ (E : XK) (t : Tags), True) {pins : List (Addr × Obj)} {σ : L2.St} {H : Hp} {s : Shared} {Q : VK} {us : List Value} {vs : List V} {E : XK}
    (hp : ∀ e s', CX X.prog X.w X.stack H s E e s' → X.xe e s') (I : Inv X pins σ H s) (r : Vals vs us) (h : spD X.K ps.length m vs H Q E) : wpAny (model X.prog X.w) X.A (call (.ref f) us) (EP X pins σ Q) X.xe s := by
  have hl : us.length = ps.length := by rw [← r.length]; exact h.len
  have hb' := hb s us I.kIn (by rw [List.append_nil]; exact hl)
  rw [List.append_nil] at hb'
  refine wpAny_call (codeAny_mono (F X.A X.stack s H ⟨us, []⟩ us vs Q E room gd I.env0 hb' r h) fun res s' hq => ?_)
  match res, hq with
  | .error e, hq => exact hp e s' hq
  | .ok (.ret u), hq => exact I.after hq
  | .ok .next, hq => exact False.elim hq
  | .ok .brk, hq => exact False.elim hq
  | .ok .cont, hq => exact False.elim hq
/-- what the caller wants, from what the call gives -/
theorem call_want {σ : L2.St} {H : Hp} {Q : VK} {t : Tags} {st : DSt} {ds : List D} {vs : List V} {n : Nat} {K : PySem.W.Frag} (r : R K t st σ H) (d : Dats K (fz t H) (rho t) ds vs) (hl : ds.length = n) (q : Res K W σ Q (IsRV K) t H (outE (m ds st.S) st)) :
    spD K n m vs H Q (fun cls d H' => W cls d σ H') := by
  refine ⟨unslot t, st.S, ds, r.r0.unslot, fun _ _ => unslot_slot, by rw [fz_unslot, rho_unslot]; exact d, hl, ?_⟩
  cases e : m ds st.S with
  | ok rv S' =>
    rw [e] at q
    intro t' H' v E' r' p
    obtain ⟨X', RX⟩ := r.call E' r'
    exact q _ H' v X' RX (p.call r.r0 E')
  | ex c x S' =>
    rw [e] at q
    intro t' H' d' E' r' ⟨u, h1, h2, h3⟩
    obtain ⟨X', RX⟩ := r.call E' r'
    obtain ⟨ef, er⟩ := fz_joinT r.r0 E'
    refine q _ H' d' X' RX ⟨u, h1, ?_, by rw [ef, er]; exact h3⟩
    have hs : ∀ i, t d' ≠ .slot i := fun i z => by rw [(slot_non r.r0 E' z).1] at h2; cases h2
    rw [joinT_ne hs]
    exact unslot_frz.mpr h2
  | no => rw [e] at q; exact q.elim
def gLen (n : Nat) (gs : DAs) : DAs := fun st => (gs st).bind fun ds st => if ds.length = n then .ok ds st else .no
theorem de_call (F : FnG X.prog X.w X.K X.mg X.base k f fd ps m) (room : Room k X.A) (gd : X.A.guards = some []) (tk : Takes X W) (hg : Gl X x) (hm : X.mg x = some (.ref f)) (hk : PySem.W.keepIn X.K (.ref f) = true) (hb : Binds X.K fd ps [])
    (ha : PA X (e :: es) (tA X.K W gs (PLz X.K))) (hdb : (x == ("__debug__" : Str)) = false) (he : starEach (e :: es) X.env = (false, eval e X.env) :: starEach es X.env) (hpl : (backTo pos (starEach es X.env)).any (·.1) = false) :
    PE X (.Call (.Name x p) (e :: es) [] pos) (tD X.K W (gFn m (gLen ps.length gs))) := by
  refine ⟨fun pins s σ H Q I ⟨t, st, r, q⟩ => ?_⟩
  have q : Res X.K W σ Q (IsRV X.K) t H (((gs st).bind fun ds st => if ds.length = ps.length then .ok ds st else .no).bind fun ds st => outE (m ds st.S) st) := q
  have want : tA X.K W gs (PLz X.K) σ H fun vs H1 => spD X.K ps.length m vs H1 Q (fun cls d H' => W cls d σ H') := by
    refine ⟨t, st, r, ?_⟩
    cases eg : gs st with
    | no => rw [eg] at q; exact q
    | ex c x st' => rw [eg] at q; exact q
    | ok ds st1 =>
      rw [eg] at q
      intro t1 H1 vs E1 R1 p1
      have q1 : Res X.K W σ Q (IsRV X.K) t H ((if ds.length = ps.length then Out.ok ds st1 else Out.no).bind fun ds st => outE (m ds st.S) st) := q
      by_cases hl : ds.length = ps.length
      · rw [if_pos hl] at q1
        exact call_want R1 p1 hl (Res.step0 E1 q1)
      · rw [if_neg hl] at q1; exact q1.elim
  refine wpAny_Call_Name_kw (ld_glob I hg hm ?_ hdb)
  refine PySem.W.callWith_K (h₀ := X.base) I.ok.mod.kin hk (thn (ha.run pos pins s σ H _ I want) fun us s1 ⟨vs, H1, I1, rv, q1⟩ => ⟨I1.kIn, ?_⟩) he hpl
  exact run_G F room gd hb (fun _ _ => trivial) (fun e s' c => tk e s' (XE.of_call I1 (fun _ _ _ h => h) c)) I1 rv q1
end
end Dn
end

section
set_option maxHeartbeats 4000000
-- Dn12
/-! Dn12: the end: a law's def, at the heap behind the top -/
namespace Dn
open PySem PySem.Spec L2
open PyProof.Rows (IntsAre AllBare)

/-- the heap's view at the law's call: nothing tracked, or the script alone -/
structure Scr (P : Program) (w : World) (K : PySem.W.Frag) (H : Hp) (h : Heap) (a : Addr) (ns : List Int) : Prop where
  only : Only H
  sq : SqL K H a (ns.map V.int)
  ok : HOk P w H h
  at_ : ∀ b, H b ≠ none → b = a
  new : H a ≠ none → K.lookup a = none
theorem scr_ex {P : Program} {w : World} {K : PySem.W.Frag} {h : Heap} {a : Addr} {vs : List Value} {ns : List Int} (KX : K.In h) (ha : h.get? a = some { cls := .type "list", data := .seq vs.toArray }) (hi : IntsAre vs ns) (hl : ns.length ≤ sizeLine) : ∃ H, Scr P w K H h a ns := by
  have rv := vals_ints hi
  have lv := hi.length
  cases hk : K.lookup a with
  | some o =>
    have e : h.get? a = some o := KX a o hk
    obtain rfl : o = { cls := .type "list", data := .seq vs.toArray } := by rw [ha] at e; exact (Option.some.inj e).symm
    exact ⟨fun _ => none, fun _ => .inl rfl, .inr ⟨_, vs.toArray, _, hk, rfl, rfl, rfl, by simpa [lv] using hl, by simpa using rv⟩, fun b u z => absurd z nofun, fun b z => absurd rfl z, fun z => absurd rfl z⟩
  | none =>
    let H : Hp := fun b => if b = a then some (.frz { cls := .type "list", data := .seq vs.toArray } (.lst (ns.map V.int))) else none
    have self : H a = some (.frz { cls := .type "list", data := .seq vs.toArray } (.lst (ns.map V.int))) := if_pos rfl
    have other : ∀ b, b ≠ a → H b = none := fun b hb => if_neg hb
    refine ⟨H, fun b => ?_, .inl (.inr ⟨_, self⟩), fun b u z => ?_, fun b z => ?_, fun _ => hk⟩
    · by_cases hb : b = a
      · subst hb; exact .inr ⟨_, _, self⟩
      · exact .inl (other b hb)
    · by_cases hb : b = a
      · subst hb
        rw [self] at z
        cases z
        exact ⟨ha, by simpa using hl, vs, _, rv, ha⟩
      · rw [other b hb] at z; cases z
    · exact Classical.byContradiction fun hb => z (other b hb)
theorem scr_env {P : Program} {w : World} {K : PySem.W.Frag} {mg mb : Str → Option Value} {H : Hp} {s₁ : Shared} {a : Addr} {vs : List Value} {ns : List Int} (q : Scr P w K H s₁.heap a ns) (KX : K.In s₁.heap) (hns : s₁.heap.Ns mainGlobals mg) (hb : s₁.heap.Ns builtinsNs mb) (hbb : ∀ x : Str, x ≠ "__name__" → mb x = bootBuiltins x)
    (lim : s₁.heap.NoLimit) (hg : s₁.gens = #[]) (ha : s₁.heap.get? a = some { cls := .type "list", data := .seq vs.toArray }) :
    K.In (hidT s₁.heap H) ∧ (hidT s₁.heap H).Ns mainGlobals mg ∧ Env0 P w K mg (hidT s₁.heap H) callerA [] s₁ H := by
  have noDict : ∀ {b : Addr} {o : Obj} {es : Array DictEntry} {ep : Nat}, s₁.heap.get? b = some o → o.data = .dict es ep → H b = none := fun {b o es ep} e d => by
    refine Classical.byContradiction fun z => ?_
    obtain rfl := q.at_ b z
    obtain rfl : o = { cls := .type "list", data := .seq vs.toArray } := by rw [ha] at e; exact (Option.some.inj e).symm
    cases d
  have ns' : ∀ {b : Addr} {m : Str → Option Value}, s₁.heap.Ns b m → (hidT s₁.heap H).Ns b m := fun {b m} z => by
    obtain ⟨o, es, ep, e, d, r⟩ := z
    exact ⟨o, es, ep, hidT_get e (noDict e d), d, r⟩
  have kin : K.In (hidT s₁.heap H) := fun b o e => by
    refine hidT_get (KX b o e) (Classical.byContradiction fun z => ?_)
    obtain rfl := q.at_ b z
    rw [q.new z] at e; cases e
  obtain ⟨mc, l1, l2⟩ := lim
  have md : Mod K mg (hidT s₁.heap H) := { kin := kin, glob := ns' hns, blt := ⟨mb, ns' hb, hbb⟩, nolimit := ⟨mc, ns' l1, l2⟩ }
  exact ⟨kin, ns' hns, { frames := rfl, mod := md, bs := fun _ _ e => of_hidT e, bsz := Nat.le_of_eq (hidT_size _ _), funs := trivial, frf := fun _ z => absurd z List.not_mem_nil, hok := q.ok, bare := .of_eq hg }⟩
/-- what is left of the heap behind the law -/
theorem scr_old {P : Program} {w : World} {K : PySem.W.Frag} {H H' : Hp} {h h' : Heap} {a : Addr} {ns : List Int} (q : Scr P w K H h a ns) (un : Un (frs []) [] H H' h h') (ok' : HOk P w H' h') : OldK h h' := OldK.of_keep fun b o e => by
  have no : ∀ {l : List Addr}, l = [] → b ∉ l := fun z => by rw [z]; exact List.not_mem_nil
  rcases q.only b with z | ⟨ob, xs, z⟩
  · exact un.keep b o e z (no rfl) (no rfl)
  · obtain ⟨e1, _⟩ := q.ok b _ z
    obtain ⟨e2, _⟩ := ok' b _ (un.frzs b ob _ z)
    rw [e1] at e
    cases e
    exact e2
theorem lawG {P : Program} {w : World} {K : PySem.W.Frag} {mg mb : Str → Option Value} {k : Nat} {fa a : Addr} {fd : FuncData} {x : Str} {m : Fm} {s₁ : Shared} {vs : List Value} {ns : List Int} {S' : List OD}
    (KX : K.In s₁.heap) (hns : s₁.heap.Ns mainGlobals mg) (hb : s₁.heap.Ns builtinsNs mb) (hbb : ∀ x : Str, x ≠ "__name__" → mb x = bootBuiltins x) (lim : s₁.heap.NoLimit) (hg : s₁.gens = #[])
    (ha : s₁.heap.get? a = some { cls := .type "list", data := .seq vs.toArray }) (hi : IntsAre vs ns) (hl : ns.length ≤ sizeLine) (hr : Room k callerA)
    (F : ∀ base : Heap, K.In base → base.Ns mainGlobals mg → FnG P w K mg base k fa fd [x] m) (hbind : ∀ (s : Shared) (u : Value), BindsTo s fd ⟨[u], []⟩ [(x, u)]) (hm : m [.scr ns] [] = .ok (.sh (.bl true)) S') :
    codeAny (model P w) callerA (.call (.ref fa) ⟨[.ref a], []⟩) (fun r s' => r = .ok (.ret (.bool true)) ∧ OldK s₁.heap s'.heap ∧ s'.os = s₁.os ∧ AllBare s'.gens) s₁ := by
  obtain ⟨H, q⟩ := scr_ex (P := P) (w := w) KX ha hi hl
  obtain ⟨kin, ns', e0⟩ := scr_env q KX hns hb hbb lim hg ha
  let t : Tags := fun b => if H b = none then .non else .frz
  have tf : fz t H = H := by
    funext b
    unfold fz
    by_cases z : H b = none
    · rw [if_neg (by show t b ≠ .frz; simp [t, z]), z]
    · rw [if_pos (by show t b = .frz; simp [t, z])]
  have tn : ∀ b k, t b ≠ .cell k := fun b k => by by_cases z : H b = none <;> simp [t, z]
  have ts : ∀ b i, t b ≠ .slot i := fun b i => by by_cases z : H b = none <;> simp [t, z]
  have want : spD K 1 m [.ref a] H (fun v _ => v = .bl true) (fun _ _ _ => False) := by
    refine ⟨t, [], [.scr ns], ⟨fun b hb => ?_, fun k o h => by simp at h, fun b k h => absurd h (tn b k)⟩, ts, Dats.cons ?_ Dats.nil, rfl, ?_⟩
    · intro z
      exact hb (by simp [t, z])
    · rw [Dat, tf]
      exact ⟨a, rfl, q.sq⟩
    · rw [hm]
      intro t' H' v _ _ p
      have p : Dat K (fz t' H') (rho t') (.bl true) v := p
      rw [Dat] at p
      exact p
  refine codeAny_mono (F _ kin ns' callerA [] s₁ H ⟨[.ref a], []⟩ [.ref a] [.ref a] _ _ hr rfl e0 (hbind s₁ (.ref a)) (.cons rfl .nil) want) fun r s' h => ?_
  match r, h with
  | .error e, ⟨_, _, _, _, _, _, _, _, _, _, _, _, z⟩ => exact z.elim
  | .ok .next, h => exact False.elim h
  | .ok .brk, h => exact False.elim h
  | .ok .cont, h => exact False.elim h
  | .ok (.ret u), ⟨v, H', os, bare, un, ok', rv, e⟩ =>
    have e : v = .bl true := e
    subst e
    obtain rfl : u = Value.bool true := rv
    exact ⟨rfl, scr_old q un ok', os, bare⟩
theorem walkG {l : PySem.W.OpenLaw} {n k : Nat} {q : Program} {loose : List Str} {XP : (Str → Option Value) → Heap → Prop} {YP : World → Heap → Prop} {d : DefRec} {x : Str}
    (hn : l.most = some n) (hn2 : n ≤ sizeLine) (hdf : d.params.defaults = []) (hr : Room k callerA)
    (F : ∀ (w : World) (mg : Str → Option Value) (fa : Addr) (h : Heap), YP w h → h.Ns mainGlobals mg → mg d.name = some (.ref fa) →
      ∃ (K : PySem.W.Frag) (fd : FuncData) (m : Fm), K.In h ∧ (∀ (s : Shared) (u : Value), BindsTo s fd ⟨[u], []⟩ [(x, u)]) ∧ (∀ ns : List Int, ns.length ≤ n → ∃ S', m [.scr ns] [] = .ok (.sh (.bl true)) S') ∧
        ∀ base : Heap, K.In base → base.Ns mainGlobals mg → FnG l.prog w K mg base k fa fd [x] m) :
    PySem.W.WalkO q loose XP YP l.row.toRowW d [] (fun f vs => PySem.call f vs) := by
  refine Att.attach_call hn hdf fun w s₀ s₁ mg mb fa o pm cd doc a vs ns G Y _ _ _ hmg obj its1 len gens => ?_
  obtain ⟨K, fd, m, KX, bind, pure_, fn⟩ := F w mg fa _ Y G.T.g hmg
  obtain ⟨S', e⟩ := pure_ ns len
  exact lawG KX G.T.g G.T.b G.T.builtins G.T.nolimit gens obj its1 (Nat.le_trans len hn2) hr fn bind e
end Dn
end

section
set_option maxHeartbeats 4000000
-- Dn13
/-! Dn13: repr, isinstance with built-in types -/
namespace Dn
open PySem PySem.Spec L2
def isT (T t : String) : Bool := t == T || (t == "bool" && T == "int")
def tys : List String := ["str", "int", "bool", "tuple", "list", "dict"]
def tyD : D → Option String
  | .non => some "NoneType"
  | .bl _ => some "bool"
  | .int _ => some "int"
  | .str _ => some "str"
  | .tup _ => some "tuple"
  | .lst _ => some "list"
  | .dct _ => some "dict"
  | _ => none
theorem kit_bt {K : PySem.W.Frag} {T t : String} {d : D} (hT : T ∈ tys) (ht : tyD d = some t) : PySem.W.kitOne K (.type t) (.type T) = some (isT T t) := by
  simp only [tys, List.mem_cons, List.not_mem_nil, or_false] at hT
  unfold tyD at ht
  split at ht <;> cases ht <;> rcases hT with rfl | rfl | rfl | rfl | rfl | rfl <;> kernel_rfl
section
variable {X : Cx} {W : WX} {K : PySem.W.Frag} {t : Tags} {H : Hp}
theorem ty_vw {d : D} {v : V} {s : String} (h : Vw K t H d v) (e : tyD d = some s) : TyX K H v (.type s) := by
  cases d with
  | non => cases h; cases e; exact .base .non
  | bl b => cases h; cases e; exact .base (.bl b)
  | int b => cases h; cases e; exact .base (.int b)
  | str b => cases h; cases e; exact .base (.str b)
  | tup xs =>
    obtain ⟨a, vs, rfl, sq, _⟩ := h
    cases e
    rcases sq with (sq | ⟨o, sq⟩) | ⟨o, its, n, lk, c, _⟩
    · exact .base (.tup (fz_le _ _ sq))
    · exact .fTuple (fz_le _ _ sq)
    · exact .kTuple lk c
  | lst xs =>
    obtain ⟨a, vs, rfl, sp, _⟩ := h
    cases e
    exact .base (.lst sp)
  | dct kvs =>
    obtain ⟨a, ks, rfl, sp, _⟩ := h
    cases e
    rcases sp with sp | ⟨o, sp⟩
    · exact .base (.dK sp)
    · exact .fDict sp
  | _ => cases e
def isiD (T : String) (d : D) : Option RV := (tyD d).map fun t => .sh (.bl (isT T t))
def gIsi (T : String) (z : DZ) : DE := fun st => (z st).bind fun d st => opt (isiD T d) st
theorem de_isi {e e2 : Expr} {z : DZ} {T : String} {x : Str} {p pos p2 : Pos} (hT : T ∈ tys) (ha : PE X e (tV X.K W z)) (hx : PE X e2 (tC (.ty T))) (hg : Gl X "isinstance") (hm : X.mg "isinstance" = none)
    (hs : starEach [e, e2] X.env = (false, eval e X.env) :: starEach [e2] X.env) (hs2 : starEach [e2] X.env = (false, eval e2 X.env) :: starEach [] X.env) (hpl : (backTo pos (starEach [e2] X.env)).any (·.1) = false) :
    PE X (.Call (.Name "isinstance" p) [e, e2] [] pos) (tD X.K W (gIsi T z)) := by
  refine PE.imp (pe_callB call_isi hg hm (by decide +kernel) (pa_cons ha (pa_cons hx pa_nil hs2) hs) (by decide) (by decide) hs hpl) fun σ H Q ⟨t, st, r, q⟩ => ?_
  refine tG_at r q fun t1 st1 H1 d v E1 R1 p1 q1 => ?_
  have q2 := res_opt R1 (Res.step0 E1 q1)
  unfold isiD at q2
  cases e : tyD d with
  | none => rw [e] at q2; exact q2.elim
  | some s =>
    rw [e] at q2
    exact ⟨v, .ty T, _, _, _, rfl, .ty T, ty_vw p1 e, kit_bt hT e, RO.bl q2⟩

/-! ### repr -/
def shownD (d : D) : Option Str := match toP d with
  | some p => if p.showable = true ∧ p.depth < 60 ∧ p.shown.length ≤ sizeLine then some p.shown else none
  | none => none
def reprD : List D → Option RV
  | [d] => (shownD d).map fun x => .sh (.str x)
  | _ => none
end
mutual
theorem toP_nodict : ∀ {d : D} {p : PyData}, toP d = some p → p.hasDict = false
  | .non, p, e => by cases e; rfl
  | .bl _, p, e => by cases e; rfl
  | .int _, p, e => by cases e; rfl
  | .str _, p, e => by cases e; rfl
  | .tup xs, p, e => by
    rw [toP] at e
    obtain ⟨ps, e1, rfl⟩ := Option.map_eq_some_iff.mp e
    rw [PyData.hasDict]; exact toPs_nodict e1
  | .lst xs, p, e => by
    rw [toP] at e
    obtain ⟨ps, e1, rfl⟩ := Option.map_eq_some_iff.mp e
    rw [PyData.hasDict]; exact toPs_nodict e1
  | .dct _, _, e => by rw [toP] at e <;> first | cases e | exact nofun
  | .ins _ _, _, e => by rw [toP] at e <;> first | cases e | exact nofun
  | .exc _ _, _, e => by rw [toP] at e <;> first | cases e | exact nofun
  | .cell _, _, e => by rw [toP] at e <;> first | cases e | exact nofun
  | .scr _, _, e => by rw [toP] at e <;> first | cases e | exact nofun
theorem toPs_nodict : ∀ {ds : List D} {ps : List PyData}, toPs ds = some ps → PyData.hasDictAll ps = false
  | [], ps, e => by cases e; rfl
  | d :: ds, ps, e => by
    rw [toPs] at e
    cases e1 : toP d with
    | none => rw [e1] at e; cases e
    | some p =>
      cases e2 : toPs ds with
      | none => rw [e1, e2] at e; cases e
      | some qs =>
        rw [e1, e2] at e
        cases e
        rw [PyData.hasDictAll, toP_nodict e1, toPs_nodict e2]
        rfl
end
section
variable {X : Cx}
theorem cr_repr (gd : X.A.guards = some []) (hu : X.A.units + 64 < cLine) : CallR X (.builtin "repr") (rC X.K reprD) := by
  intro pins s σ H vs us Q I r ⟨t, ds, tg, m, h⟩
  unfold reprD shownD at h
  split at h
  · rename_i d
    obtain ⟨v, rfl, dv⟩ := vws1 m
    obtain ⟨u, rfl, rx⟩ := vals1 r
    split at h
    · rename_i p e
      split at h
      · rename_i hc
        have h := RO.str h
        have dp := dp_vw dv e
        obtain ⟨as, rd⟩ := Dp.reads I p v u dp rx
        have fin : ∀ (h' : Heap) (tk tk' : Nat), (∀ b o, s.heap.get? b = some o → h'.get? b = some o) → EP X pins σ Q (.str p.shown tk) { s with heap := h', toks := tk' } := fun h' tk tk' k => ⟨.str p.shown, H, I.kept k, ⟨_, rfl⟩, h⟩
        cases rd with
        | none => exact PySem.P.repr_of_none (fin s.heap _ _ fun _ _ e => e)
        | bool b => exact PySem.P.repr_of_bool (fin s.heap _ _ fun _ _ e => e)
        | int i tk => exact PySem.P.repr_of_int (by simpa [PyData.showable] using hc.1) (fin s.heap _ _ fun _ _ e => e)
        | str x tk => exact PySem.P.repr_of_str (fin s.heap _ _ fun _ _ e => e) (by simpa [PyData.shown] using hc.2.2)
        | list h1 h2 h3 h4 => exact repr_of_reads' (.list h1 h2 h3 h4) hc.1 (PyData.noDict_hsm (toP_nodict e)) gd (by have := hc.2.1; omega) (fun _ _ e => e) (fun h' tk tk' k => fin h' tk tk' k) hc.2.2
        | tuple h1 h2 h3 h4 => exact repr_of_reads' (.tuple h1 h2 h3 h4) hc.1 (PyData.noDict_hsm (toP_nodict e)) gd (by have := hc.2.1; omega) (fun _ _ e => e) (fun h' tk tk' k => fin h' tk tk' k) hc.2.2
        | dict h1 h2 h3 h4 h5 => exact absurd (toP_nodict e) (by simp [PyData.hasDict])
      · exact h.elim
    · exact h.elim
  · exact h.elim
end
end Dn
end

section
set_option maxHeartbeats 4000000
-- Dn14
/-! Dn14: an __init__ of the text that says super().__init__(value), then self.value = value -/
namespace Dn
open PySem PySem.Spec PySem.W
/-- what the written part says of a class C that has the __init__ of D -/
structure XCls (K : PySem.W.Frag) (C D fI : Addr) : Prop where
  T : L2.OexC K C
  sup : ks_superIn K C D "__init__" = some (some (.builtin "ValueError.__init__"))
  clsD : (clsIn K D).isSome = true
  sub : mroIn K C (.ref D) = some true
  isVE : subIn K (.ref C) (.type "ValueError") = some true
  noV : findIn K (.ref C) "value" = some none
  ini : findIn K (.ref C) "__init__" = some (some (.ref fI))
/-- .. and of that __init__ -/
structure XIni (P : Program) (K : PySem.W.Frag) (D fI : Addr) (body : List Stmt) : Prop where
  fn : ∃ oc od osl name qual params scope dV kV doc pm an cda ct cc, K.lookup fI = some ⟨oc, od, .func (ksFn name qual params body scope dV kV doc pm an (.ref cda) ct cc), osl⟩ ∧ codeIn K (.ref cda) qual = true ∧
    (∀ e v : Value, ∀ s, PySem.BindsTo s (ksFn name qual params body scope dV kV doc pm an (.ref cda) ct cc) ⟨[e, v], []⟩ [("self", e), ("value", v)]) ∧ (∀ x ∈ scope.names, x.2 ≠ .cell) ∧ scope.isCoroutine = false ∧ scope.isGenerator = false ∧ scope.kind = .function ∧
    scope.names.lookup ("self" : Str) = some .local ∧ scope.names.lookup ("value" : Str) = some .local ∧ scope.names.lookup ("super" : Str) = some .globalImplicit ∧ scope.names.lookup ("__class__" : Str) = some .free ∧
    (∃ ar, (params.posonlyargs ++ params.args).head? = some ar ∧ ar.arg = ("self" : Str)) ∧ (∃ ccl cdd vs ccs file tf, K.lookup cda = some ⟨ccl, cdd, .fields vs, ccs⟩ ∧ vs[2]? = some (.str file tf) ∧ ((P.main.file : Str) == file) = true) ∧
    ∃ cl cld csl, K.lookup cc = some ⟨cl, cld, .cell (some (.ref D)), csl⟩
  tyF : typeIn K (.ref fI) = some (.type "function")
  opq : nsIn K cStatics "thirdparty.any" = some none
  noS : nsIn K mainGlobals "super" = some none
  top : (P.main.scope.names.lookup ("super" : Str)).isSome = false
  bod : ∃ p0 p1 p2 p3 p4 p5 p6 p7 p8 p9, body = [.Expr (.Call (.Attribute (.Call (.Name "super" p0) [] [] p1) "__init__" p2) [.Name "value" p3] [] p4) p5, .Assign [.Attribute (.Name "self" p6) "value" p7] (.Name "value" p8) p9] ∧ ∃ pl : Sem Bool, ∀ env : Env,
    eval (.Call (.Attribute (.Call (.Name "super" p0) [] [] p1) "__init__" p2) [.Name "value" p3] [] p4) env = (do
      let ov ← attributeBase (.Call (.Name "super" p0) [] [] p1) "__init__" env (eval (.Call (.Name "super" p0) [] [] p1) env)
      standAt p2.atName
      let (f, first) ← holding [ov] (getMethod ov "__init__" pl)
      callWith p4 f first (backTo p4 (starEach [.Name "value" p3] env)) [])
section
variable {prog : Program} {w : World} {A : Around} {E : Value → Shared → Prop} {h : Heap} {g : Array GenState} {d : Drawn} {t : Nat} {os : OsState}
variable {nm q : Str} {C N : Addr} {bs bm : List Value} {hdct : Bool} {sn : List Str} {sub : List Value} {ab : Bool} {col : Option Bool} {dd : Option Addr} {k0 k1 k2 k3 k5 : Option Value}
/-- ValueError.__init__, bound, called: the args are laid anew -/
theorem call_mw {u e t0 : Addr} {rest : List Value} {Q : Value → Shared → Prop}
    (hC : h.get? C = some (excClassObj nm q C N bs bm hdct sn sub ab col dd k0 k1 k2 k3 k5 "ValueError.__new__")) (he : h.get? e = some (HandSPX.excO C t0)) (hu : h.get? u = some (kxs_mw "ValueError.__init__" e)) (hz : rest.length ≤ sizeLine)
    (hq : ∀ h' t1, (∀ b o, b ≠ e → h.get? b = some o → h'.get? b = some o) → h'.get? e = some (HandSPX.excO C t1) → Q .none ⟨h', g, d, t, os⟩) : wpAny (model prog w) A (call (.ref u) rest) Q E ⟨h, g, d, t, os⟩ := by
  refine wpAny_call (codeAny_of_tree (show wpAny _ A.in1 (callAny (.ref u) ⟨rest, []⟩) _ _ _ from ?_))
  simp only [callAny]
  refine wpAny_bind (wpAny_load hu ?_)
  have hm : (Value.type "method-wrapper" == Value.type "method" || Value.type "method-wrapper" == Value.type "builtin_function_or_method" || Value.type "method-wrapper" == Value.type "method-wrapper") = true := by decide
  simp only [kxs_mw, hm, if_true]
  refine KFB.if_so (by decide) (wpAny_bind (check_bound_init F.excBase_ValueError.toExcCallFacts hC he rfl (wpAny_bind (wpAny_pure (wpAny_pure ⟨plainId_quiet F.excBase_ValueError.init.plain _, codeAny_builtin F.excBase_ValueError.initEntry ?_⟩)))))
  exact exc_init_tree (cls := .ref C) (t0 := t0) (dv := none) (c2 := .none) (c3 := .none) (b4 := .bool false) he hz fun h' k e' t' => hq h' _ k e'
end
section
variable {prog : Program} {w : World} {A : Around} {K : PySem.W.Frag} {mg mb : Str → Option Value}
/-- the __init__ runs: the exception has its dict -/
theorem init_run {C D fI e t0 : Addr} {v : Value} {body : List Stmt} {hp : Heap} {g : Array GenState} {d : Drawn} {t : Nat} {os : OsState} {R : Result → Shared → Prop} (I : XIni prog K D fI body) (c : XCls K C D fI) (X : K.In hp) (room : A.depth < recursionLimit) (lim : hp.NoLimit)
    (gl : hp.Ns mainGlobals mg) (bl : hp.Ns builtinsNs mb) (hbb : ∀ x : Str, x ≠ "__name__" → mb x = bootBuiltins x) (he : hp.get? e = some (HandSPX.excO C t0)) (ne : K.lookup e = none)
    (hR : ∀ h' t1 dx tk', (∀ b o, b ≠ e → hp.get? b = some o → h'.get? b = some o) → hp.objs.size ≤ dx → dx ≠ e → h'.get? e = some { cls := .ref C, dict := some dx, data := .fields #[.ref t1, .none, .none, .none, .bool false, .none] } →
      h'.Ns1 dx (fun y => if y = ("value" : Str) then some v else none) → R (.ok (.ret .none)) ⟨h', g, d, tk', os⟩) :
    codeAny (model prog w) A (.call (.ref fI) ⟨[.ref e, v], []⟩) R ⟨hp, g, d, t, os⟩ := by
  obtain ⟨oc, od, osl, name, qual, params, scope, dV, kV, doc, pm, an, cda, ct, cc, lk, hcd, hbind, hcell, hco, hgen, hk, kSelf, kVal, kSup, kCls, ⟨ar, har, ears⟩, ⟨ccl, cdd, vs, ccs, file, tf, lcd, hvs, hfile⟩, ⟨cl, cld, csl, lcc⟩⟩ := I.fn
  obtain ⟨p0, p1, p2, p3, p4, p5, p6, p7, p8, p9, eb, pl, hev⟩ := I.bod
  obtain ⟨nm, q, N, bs, bm, sn, sub, ab, col, dd, k0, k1, k2, k3, k5, hC, hbm⟩ := c.T.cls
  have hcl : clsIn K C = some { name := nm, bases := bs, mro := .ref C :: bm, ns := N, qualname := q, hasDict := true, slotNames := sn, subclasses := sub, abstract := ab, collection := col, hasDel := false } := by unfold clsIn; rw [hC] <;> rfl
  obtain ⟨cdD, hcD⟩ := Option.isSome_iff_exists.mp c.clsD
  subst eb
  refine ks_codeAny_call_defAt room (X _ _ lk) rfl lim (codeRec_of X hcd) rfl (hbind (.ref e) v _) hcell (fun x hx => ?_) (fun h1 hns k1' => ?_) hco hgen hk
  · rcases List.mem_cons.mp hx with e1 | hx
    · rw [e1]; exact kSelf
    · rcases List.mem_cons.mp hx with e1 | hx
      · rw [e1]; exact kVal
      · cases hx
  have X1 : K.In h1 := X.keeps k1'
  have he1 := k1' _ _ he
  have vSelf : ([("self", Value.ref e), ("value", v)] : List (Str × Value)).reverse.lookup ("self" : Str) = some (.ref e) := rfl
  have vVal : ([("self", Value.ref e), ("value", v)] : List (Str × Value)).reverse.lookup ("value" : Str) = some v := rfl
  obtain ⟨oD, hD1, hD2⟩ : ∃ oD, h1.get? D = some oD ∧ oD.data = .cls cdD := by
    unfold clsIn at hcD
    split at hcD
    · rename_i c' d' cd' sl ho
      cases hcD
      exact ⟨_, X1 _ _ ho, rfl⟩
    · cases hcD
  refine ks_wpAt_execs_cons (ks_wpAt_Expr_any (hi := by unfold interactive; simp [callEnv, newEnv, hk]) (ks_wpAt_MethodCall (pl := pl) (he := hev _) (ks_wpAt_super_base (attr := "__init__") kSup kCls rfl rfl (X1 _ _ lk) rfl har rfl (X1 _ _ lcd) rfl hvs hfile I.top ?_)))
  refine ks_loadName_global hk kSup (Calls.loadGlobal_builtin (gl.keeps k1') (mg_none_of X gl I.noS) (bl.keeps k1') ((hbb _ (by decide)).trans (by decide +kernel)) ⟨rfl, ?_⟩)
  refine wpAny_loadName_free hk kCls rfl ⟨_, X1 _ _ lcc, rfl⟩ ?_
  rw [ears]
  refine wpAny_loadName_local hk kSelf hns vSelf ?_
  refine ks_wpAny_isType_cls hD1 hD2 ⟨rfl, ?_⟩
  refine ks_wpAny_call_super hD1 hD2 he1 rfl (fun c' z => by cases z) (looks_mroIn X1 c.sub) (fun h2 eso k2 => ?_)
  have X2 : K.In h2 := X1.keeps k2
  have he2 := k2 _ _ he1
  have ns2 : h2.Ns hp.objs.size fun x => ([("self", Value.ref e), ("value", v)] : List (Str × Value)).reverse.lookup x := hns.keeps k2
  have ie2 : InstAt h2 e (HandSPX.excO C t0) C none := ⟨he2, rfl, rfl, trivial⟩
  have hsup : alongIn K "__init__" (((Value.ref C :: bm).dropWhile (· != .ref D)).drop 1) = some (some (.builtin "ValueError.__init__")) := by
    have z := c.sup
    unfold ks_superIn at z
    rw [hcl] at z
    exact z
  refine kxs_getMethod kxs_ValueError eso (looks_opaque X2 I.opq) (l₀ := .ref C :: bm) ?_ rfl X2 hsup (ie2.type.andThen (looks_subIn X2 c.isVE)) (ks_ne X2 ie2 hcl) (by decide) ?_
  · exact fun A' Q' E' s' k' q' => wpAny_bind ((looks_clsIn X2 hcl) A' _ E' s' k' (wpAny_pure q'))
  have mw : (h2.push (kxs_mw "ValueError.__init__" e)).get? h2.objs.size = some (kxs_mw "ValueError.__init__" e) := Heap.get?_push_at rfl rfl
  have k3 : ∀ b o, h2.get? b = some o → (h2.push (kxs_mw "ValueError.__init__" e)).get? b = some o := fun b o z => Heap.get?_push_of_some _ z
  refine kxs_callWith (i := "ValueError.__init__") (x := e) rfl (Calls.evalArgs_plain (Calls.spliced_cons (wpAny_Name (wpAny_loadName_local hk kVal (ns2.keeps k3) vVal (Calls.spliced_nil ⟨mw, ?_⟩)) (by decide))))
  refine call_mw (X2.keeps k3 _ _ hC) (k3 _ _ he2) mw (show 1 ≤ sizeLine by decide) fun h4 t1 k4 he4 => ?_
  have neL : hp.objs.size ≠ e := Nat.ne_of_gt (Heap.lt_size he)
  have old : ∀ b o, b ≠ e → hp.get? b = some o → h4.get? b = some o := fun b o hb z => k4 b o hb (k3 _ _ (k2 _ _ (k1' _ _ z)))
  have ns4 : h4.Ns hp.objs.size fun x => ([("self", Value.ref e), ("value", v)] : List (Str × Value)).reverse.lookup x := by
    obtain ⟨o, es, ep, ho, r⟩ := ns2.keeps k3
    exact ⟨o, es, ep, k4 _ _ neL ho, r⟩
  have X4 : K.In h4 := fun b o z => by
    have zb : b ≠ e := fun z1 => by rw [z1, ne] at z; cases z
    exact old b o zb (X _ _ z)
  refine ks_wpAt_execs_cons (ks_wpAt_Assign_Attr (wpAt_of_wpAny (wpAny_Name (wpAny_loadName_local hk kVal ns4 vVal (wpAny_Name (wpAny_loadName_local hk kSelf ns4 vSelf ?_) (by decide))) (by decide))))
  refine set_plain X4 (ox := HandSPX.excO C t1) (od := none) ⟨he4, rfl, rfl, trivial⟩ c.T.sa ?_
  refine HandSPX.exc_osa X4 he4 hcl (show HandSPX.refsVE (.ref C :: bm) = true from hbm) rfl c.noV fun h5 tk' dx k5 dn dne hx hn => ?_
  refine wpAt_of_wpAny (wpAny_execs_nil ?_)
  exact hR h5 t1 dx tk' (fun b o hb z => k5 b o hb (old b o hb z)) (by
    obtain ⟨_, _, _, ho, _⟩ := ns4
    exact Nat.le_trans (Nat.le_of_lt (Heap.lt_size ho)) dn) dne hx hn
end
end Dn
end

section
set_option maxHeartbeats 4000000
-- Dn15
/-! Dn15: an exception of the text's own classes is made and raised -/
namespace Dn
open PySem PySem.Spec L2
def tMkX (C : Addr) (ta : TA) : L2.St → Hp → XK → Prop := fun σ H Q => ta σ H fun vs H1 => ∃ v, vs = [v] ∧ ∀ d, H1 d = none → Q (.ref C) (some d) (upd H1 d (.xd [("value", v)]))
/-- C(v) where nothing may be left behind but the exception -/
theorem make_bad {X : Cx} {pins : List (Addr × Obj)} {σ : L2.St} {H : Hp} {s : Shared} {C D fI : Addr} {body : List Stmt} {k : Nat} {v : V} {u : Value} {Q : Value → Shared → Prop} (ini : XIni X.prog X.K D fI body) (c : XCls X.K C D fI) (room : Room (k + 1) X.A) (I : Inv X pins σ H s) (rv : RelV v u)
    (hQ : ∀ (a d : Addr) (h' G : Heap) (t1 : Addr) (tk : Nat), H d = none → Inv X pins σ (upd H d (.xd [("value", v)])) ⟨G, s.gens, s.drawn, tk, s.os⟩ → (∀ b o, G.get? b = some o → h'.get? b = some o) → (∀ b o, h'.get? b = some o → b ≠ a → G.get? b = some o) → G.get? a = none → s.heap.objs.size ≤ a → a ≠ d →
      h'.get? a = some { cls := .ref C, dict := some d, data := .fields #[.ref t1, .none, .none, .none, .bool false, .none] } → Q (.ref a) ⟨h', s.gens, s.drawn, tk, s.os⟩) :
    wpAny (model X.prog X.w) X.A (call (.ref C) [u]) Q X.xe s := by
  obtain ⟨nm, q, N, bs, bm, sn, sub, ab, col, dd, k0, k1, k2, k3, k5, hC, hbm⟩ := c.T.cls
  obtain ⟨mb, hb1, hb2⟩ := I.mod.blt
  obtain ⟨hp, g, dr, tk, os⟩ := s
  have hn : X.K.lookup (hp.objs.size + 1) = none := by
    cases z : X.K.lookup (hp.objs.size + 1) with
    | none => rfl
    | some o => exact absurd (Heap.lt_size (I.kIn _ _ z)) (Nat.not_lt_of_le (Nat.le_succ _))
  have kk : ∀ b o, hp.get? b = some o → ((hp.push (PySem.W.kdv_tup [u])).push (PySem.HandSPX.excO C hp.objs.size)).get? b = some o := fun b o e => Heap.get?_push_of_some _ (Heap.get?_push_of_some _ e)
  have self : ((hp.push (PySem.W.kdv_tup [u])).push (PySem.HandSPX.excO C hp.objs.size)).get? (hp.objs.size + 1) = some (PySem.HandSPX.excO C hp.objs.size) := by heap_get
  have bk : ∀ b o, X.base.get? b = some o → ((hp.push (PySem.W.kdv_tup [u])).push (PySem.HandSPX.excO C hp.objs.size)).get? b = some o := fun b o e => kk _ _ (I.bk b o e)
  refine wpAny_call (PySem.HandSPX.call_own F.excBase_ValueError (fun Y => PySem.HandSPX.refsVE_contains Y bm hbm) (I.kIn _ _ hC) (PySem.W.looks_findIn I.kIn c.ini) (fun self => PySem.W.bind_fn I.kIn self ini.tyF) (show 1 ≤ sizeLine by decide) ?_)
  refine init_run (mg := X.mg) (mb := mb) ini c (I.kIn.keeps kk) (room.make C [u] []).depth (I.mod.nolimit.keeps bk) (I.mod.glob.keeps bk) (hb1.keeps bk) hb2 self hn fun h' t1 dx tk' k4 dn dne hx hns => ?_
  refine ⟨rfl, ?_⟩
  obtain ⟨G, g1, g2⟩ := restrict h' fun b => decide (b ≠ hp.objs.size + 1)
  have gk : ∀ b, b ≠ hp.objs.size + 1 → G.get? b = h'.get? b := fun b hb => g1 b (decide_eq_true hb)
  have ga : G.get? (hp.objs.size + 1) = none := g2 _ (by simp)
  have sub' : ∀ b o, G.get? b = some o → h'.get? b = some o := fun b o z => by
    by_cases hb : b = hp.objs.size + 1
    · rw [hb, ga] at z; cases z
    · rw [← gk b hb]; exact z
  have sz : hp.objs.size ≤ dx := by
    have z : hp.objs.size + 1 < ((hp.push (PySem.W.kdv_tup [u])).push (PySem.HandSPX.excO C hp.objs.size)).objs.size := Heap.lt_size self
    omega
  have old : ∀ b o, hp.get? b = some o → G.get? b = some o := fun b o z => by
    have hb : b ≠ hp.objs.size + 1 := Nat.ne_of_lt (Nat.lt_succ_of_lt (Heap.lt_size z))
    rw [gk b hb]
    exact k4 b o hb (kk _ _ z)
  have J : Inv X pins σ (upd H dx (.xd [("value", v)])) ⟨G, g, dr, tk', os⟩ := I.laid (t' := tk') old sz ⟨_, hns.at fun o z => (gk dx dne).trans z, fun f => by
    have key := relO_put (f := ("value" : Str)) (fs := []) (mA := fun _ => none) rv (fun g => True.intro) f
    exact key⟩
  exact hQ _ dx h' G t1 tk' (I.hok.fresh sz) J sub' (fun b o z hb => (gk b hb).trans z) ga (Nat.le_succ _) (Ne.symm dne) hx
theorem pmk_bad {X : Cx} {x : Str} {C D fI : Addr} {body : List Stmt} {k : Nat} {e : Expr} {ta : TA} {p pos : Pos} (ini : XIni X.prog X.K D fI body) (c : XCls X.K C D fI) (room : Room (k + 1) X.A) (hg : Gl X x) (hm : X.mg x = some (.ref C)) (ha : PA X [e] ta)
    (hdb : (x == ("__debug__" : Str)) = false) (he : starEach [e] X.env = (false, eval e X.env) :: starEach [] X.env) (hpl : (backTo pos (starEach [] X.env)).any (·.1) = false) : PMk X (.Call (.Name x p) [e] [] pos) (tMkX C ta) := by
  intro pins s σ H Q I h
  refine wpAny_Call_Name_kw (ld_glob I hg hm ?_ hdb)
  refine PySem.W.callWith_K (h₀ := X.base) I.ok.mod.kin c.T.kC (thn (ha.run pos pins s σ H _ I h) fun us s1 ⟨vs, H1, I1, r1, v, ev, q1⟩ => ⟨I1.kIn, ?_⟩) he hpl
  subst ev
  obtain ⟨u, rfl, rv⟩ := vals1 r1
  refine make_bad ini c room I1 rv fun a d h' G t1 tk hd J sub' _ ga sz ne hx => ?_
  refine ⟨a, _, _, ⟨G, s1.gens, s1.drawn, tk, s1.os⟩, _, .ref C, some d, rfl, J, sub', ga, hx, ⟨rfl, rfl⟩, rfl, rfl, ?_, rfl, I1.bare, raises_own c.T.exC c.T.tyC, q1 d hd⟩
  rw [upd_ne ne]
  exact I1.hok.fresh sz
def gRaise (c : Str) (z : DZ) : DS := fun st => (z st).bindS fun d st => .ex c d st
theorem ds_raise {X : Cx} {W : WX} {x cn : Str} {D fI : Addr} {body : List Stmt} {k : Nat} {e : Expr} {z : DZ} {p pos pos2 : Pos} (ini : XIni X.prog X.K D fI body) (c : XCls X.K (He.ga X.K cn) D fI) (room : Room (k + 1) X.A) (calm : X.calm = true) (tk : Takes X W) (hg : Gl X x) (hm : X.mg x = some (.ref (He.ga X.K cn)))
    (he : PE X e (tZ X.K W z)) (hdb : (x == ("__debug__" : Str)) = false) (hst : starEach [e] X.env = (false, eval e X.env) :: starEach [] X.env) (hpl : (backTo pos (starEach [] X.env)).any (·.1) = false) :
    PS X (.Raise (some (.Call (.Name x p) [e] [] pos)) none pos2) (tS X.K W (gRaise cn z)) := by
  refine PS.imp (ps_raise calm tk (pmk_bad ini c room hg hm (pa_cons he pa_nil hst) hdb hst hpl)) fun D' σ H ⟨t, st, r, q⟩ => ?_
  refine tG_atS r q fun t1 st1 H1 d v E1 R1 p1 q1 => ?_
  refine ⟨v, rfl, fun a ha => ?_⟩
  obtain ⟨E2, R2, e2⟩ := R1.alloc (o := .xd [("value", v)]) ha
  exact q1 _ σ _ a (E1.trans E2).w R2 ⟨v, (of_fz e2).2, setT_same, E2.dat p1⟩
end Dn
end

section
set_option maxHeartbeats 4000000
-- Dn16
/-! Dn16: try .. except C as n: return (const, n.value) -/
namespace Dn
open PySem PySem.Spec L2
/-- which of the raised classes a clause takes -/
abbrev Mt := Str → Option Bool
def gTryRet (mt : Mt) (cn : Str) (i : Nat) (d1 : D) (b : DS) : DS := fun st => match b st with
  | .ex c x st' => (match mt c with
    | some true => if c = cn ∧ i < st'.env.length then .rt (.sh (.tup [d1, x])) st' else .no
    | some false => .ex c x st'
    | none => .no)
  | o => o
section
variable {X : Cx} {W : WX} {x n cn : Str} {i : Nat} {body : List Stmt} {np pos pos' p1 p2 p3 p4 : Pos} {gb : DS} {mt : Mt} {e1 : Expr} {v1 : V} {d1 : D} {k1 : Nat}
theorem ds_try_ret (hs : X.stack = X.env :: X.outer) (hf : X.env.frame = some X.env.locals) (hN : X.N.Nodup) (hi : X.N[i]? = some n) (hln : X.env.kindOf n = some .local) (hc : Names X x (.ref (He.ga X.K cn))) (tk : Takes X W)
    (hmt : ∀ c b, mt c = some b → PySem.W.exmOne X.K (.ref (He.ga X.K c)) (.ref (He.ga X.K cn)) = some b)
    (hb : ∀ (W : WX) (pn : List (Addr × Obj)) (xe : Value → Shared → Prop), Takes (X.tr pn xe) W → PassesOwn (model X.prog X.w) X.A X.env xe → PSs (X.tr pn xe) body (tS X.K W gb))
    (T : XfC X.K (He.ga X.K cn)) (hno : PySem.W.findIn X.K (.ref (He.ga X.K cn)) "value" = some none) (hd1 : ∀ F r, Dat X.K F r d1 v1)
    (he1 : ∀ (a : Addr) (oe : Obj) (pn : List (Addr × Obj)), PE (X.suite a ((a, oe) :: pn)) e1 (tC v1)) (hv : Vis X.env.scope n) (hd : (n == ("__debug__" : Str)) = false) (hcd : (n == ("__classdict__" : Str)) = false)
    (hst : ∀ env, starEach [e1, .Attribute (.Name n p1) "value" p2] env = (false, eval e1 env) :: starEach [.Attribute (.Name n p1) "value" p2] env) (hst2 : ∀ env, starEach [.Attribute (.Name n p1) "value" p2] env = (false, eval (.Attribute (.Name n p1) "value" p2) env) :: starEach [] env)
    (hab : ∀ env, attributeBase (.Name n p1) "value" env (eval (.Name n p1) env) = eval (.Name n p1) env) :
    PS X (.Try body [.ExceptHandler (some (.Name x np)) (some n) [.Return (some (.Tuple [e1, .Attribute (.Name n p1) "value" p2] k1 p3)) p4] pos'] [] [] pos) (tS X.K W (gTryRet mt cn i d1 gb)) := by
  refine PS.imp (ps_try_as (tb := fun W => tS X.K W gb) (ts := fun a cls d => tRet (tTup (tCons (tC v1) (tCons (tXf a cls d (He.ga X.K cn) "value" (tVar i)) tNil)))) hs hf hN hi hln hc tk hb fun a oe cls d pn hz hvs => ?_) fun D' σ H ⟨t, st, r, q⟩ => ?_
  · have hv' : Vis (X.suite a ((a, oe) :: pn)).env.scope n := hv
    exact pss_one (ps_ret (pe_tup (pa_cons (he1 a oe pn) (pa_cons (pe_xf T hno hz hvs (pe_var (X := X.suite a ((a, oe) :: pn)) hi hv' hd hcd) (hab _)) pa_nil (hst2 _)) (hst _))))
  · refine ⟨t, st, r, ?_⟩
    unfold gTryRet at q
    cases eb : gb st with
    | nx _ => rw [eb] at q; exact q
    | rt _ _ => rw [eb] at q; exact q
    | bk _ => rw [eb] at q; exact q
    | ct _ => rw [eb] at q; exact q
    | no => rw [eb] at q; exact q
    | ex c y st' =>
      rw [eb] at q
      dsimp only at q
      intro t1 σ1 H1 d E1 R1 ⟨u, hd1', hdt, du⟩
      cases em : mt c with
      | none => rw [em] at q; exact q.elim
      | some b =>
        rw [em] at q
        refine ⟨b, hmt c b em, fun hbt a ha => ?_, fun hbf => ?_⟩
        · subst hbt
          dsimp only at q
          split at q
          · rename_i hcn
            have hsl : (σ1.set i (some (V.ref a)))[i]? = some (some (.ref a)) := List.getElem?_set_self (by rw [← R1.len]; exact hcn.2)
            refine ⟨.ref a, hsl, rfl, by rw [hcn.1], d, [("value", u)], u, rfl, hd1', by rfl, ?_⟩
            refine ⟨show 2 ≤ sizeLine by decide, fun p hp => ?_⟩
            obtain ⟨E2, R2, e2⟩ := R1.alloc (o := .tup [v1, u]) hp
            refine q _ σ1 _ (.ref p) (E1.trans E2.w) R2 ?_
            show Dat _ _ _ _ _
            rw [Dat]
            exact ⟨p, _, rfl, .inl (.inl e2), Dats.cons (hd1 _ _) (Dats.cons (E2.dat du) Dats.nil)⟩
          · exact q.elim
        · subst hbf
          exact q t1 σ1 H1 d E1 R1 ⟨u, hd1', hdt, du⟩
end
end Dn
end

section
set_option maxHeartbeats 4000000
-- Dn17
/-! Dn17: try .. except C as n: m = n, the exception kept as a value -/
namespace Dn
open PySem PySem.Spec L2
theorem exH_ok {P : Program} {w : World} {H : Hp} {h : Heap} {a d : Addr} {cls : Value} {oe : Obj} {vs : Array Value} (e : h.get? a = some oe) (c : oe.cls = cls) (dd : oe.dict = some d) (f : oe.data = .fields vs) : ObjOk P w H h a (ExH cls d a) :=
  ⟨⟨oe, vs, e, c, dd, f⟩, ⟨oe, e⟩, fun _ _ ⟨o, v, q, r⟩ k => ⟨o, v, k o q, r⟩⟩
section
variable {X : Cx} {pins : List (Addr × Obj)} {σ : L2.St} {H : Hp} {s : Shared}
/-- an object of the heap that is no one's comes under the abstract heap -/
theorem Inv.track {a : Addr} {o : HO} (I : Inv X pins σ H s) (na : H a = none) (n0 : X.s_0.heap.get? a = none) (nl : a ≠ X.env.locals) (nc : ∀ x c, X.env.cells.lookup x = some c → c ≠ a) (np : ∀ p ∈ X.pn ++ pins, p.1 ≠ a) (new : ObjOk X.prog X.w (upd H a o) s.heap a o) : Inv X pins σ (upd H a o) s := by
  have ne : ∀ {b u}, H b = some u → b ≠ a := fun e => ne_of_none e na
  refine ⟨I.ok, I.os, I.bare, ⟨I.base.keep, I.base.slot, fun b o' e n hx => ?_, I.base.there, fun b xs e => ?_, fun b o' u e => ?_, fun b ps e => ?_⟩, I.loc, I.cell, ?_, fun x c e => ?_, fun p hp => ?_, fun b u e => ?_, I.len⟩
  · rw [upd_ne (fun z => by rw [z, n0] at e; cases e)]; exact I.base.free b o' e n hx
  · have q := I.base.tups b xs e
    rw [upd_ne (ne q)]; exact q
  · have q := I.base.frzs b o' u e
    rw [upd_ne (ne q)]; exact q
  · obtain ⟨m, q⟩ := I.base.tbls b ps e
    exact ⟨m, by rw [upd_ne (ne q)]; exact q⟩
  · rw [upd_ne (Ne.symm nl)]; exact I.free
  · rw [upd_ne (nc x c e)]; exact I.freeC x c e
  · obtain ⟨q1, q2, q3⟩ := I.pin p hp
    exact ⟨q1, by rw [upd_ne (np p hp)]; exact q2, q3⟩
  · by_cases hb : b = a
    · subst hb
      rw [upd_same] at e
      cases e
      exact new
    · rw [upd_ne hb] at e
      exact (I.hok b u e).stay (fun c v _ q => q) (fun c q => by rw [upd_ne (ne q)]; exact q) fun c xs q => by rw [upd_ne (ne q)]; exact q
end
/-- the wish of a clause that keeps the exception by the name j -/
def wHold (K : PySem.W.Frag) (c : Value) (i j : Nat) (Wout : WX) (D : Ends) : WX := fun cls d σ H => ∃ b, PySem.W.exmOne K cls c = some b ∧
  (b = true → ∃ dd, d = some dd ∧ ∀ a, H a = none → D.nx (((σ.set i (some (.ref a))).set j (some (.ref a))).set i none) (upd H a (ExH cls dd a))) ∧ (b = false → Wout cls d σ H)
section
variable {X : Cx} {x n y : Str} {c : Value} {i j : Nat} {body : List Stmt} {np pos pos' py p1 p2 : Pos} {tb : WX → TS} {Wout : WX}
theorem ps_try_hold (hs : X.stack = X.env :: X.outer) (hf : X.env.frame = some X.env.locals) (hex : X.ex = []) (hN : X.N.Nodup) (hi : X.N[i]? = some n) (hj : X.N[j]? = some y) (hln : X.env.kindOf n = some .local) (hly : X.env.scope.names.lookup y = some .local) (hc : Names X x c) (tk : Takes X Wout)
    (hb : ∀ (W : WX) (pn : List (Addr × Obj)) (xe : Value → Shared → Prop), Takes (X.tr pn xe) W → PassesOwn (model X.prog X.w) X.A X.env xe → PSs (X.tr pn xe) body (tb W))
    (hd : (n == ("__debug__" : Str)) = false) (hcd : (n == ("__classdict__" : Str)) = false) (hsw : ∀ env, swapsWith (.Name n p1) (some (.Name y py)) p2.line env = pure false) :
    PS X (.Try body [.ExceptHandler (some (.Name x np)) (some n) [.Assign [.Name y py] (.Name n p1) p2] pos'] [] [] pos) (fun D σ H => tb (wHold X.K c i j Wout D) D σ H) := by
  refine ⟨fun pins s σ H D I start => ?_⟩
  have ok := I.ok
  have frames : X.A.frames = some (X.env :: X.outer) := by rw [ok.frames, hs]
  have local_ : Loc X.env.scope n := .inl hln
  let clause : ExceptHandler := .ExceptHandler (some (.Name x np)) (some n) [.Assign [.Name y py] (.Name n p1) p2] pos'
  let catch_ : Value → Shared → Prop := fun e s₁ => wpAny (model X.prog X.w) X.A (noteFrame e X.env) (fun _ s₂ => wpAny (model X.prog X.w) X.A (setFlight e none) (fun _ s₃ => wpAny (model X.prog X.w) X.A (handleBy e X.env [clause]) (SP X pins D) X.xe s₃) X.xe s₂) X.xe s₁
  have bodyRun := (hb (wHold X.K c i j Wout D) (X.pn ++ pins) catch_ (fun u s' xx => ?_) PassesOwn.looking).run [] s σ H D (I.toTry _) start
  · refine wpAny_Try_except (wpAny_mono bodyRun (fun f s1 hsp => ?_) fun e s1 he => he)
    match f, hsp with
    | .next, ⟨σ', H', J', q⟩ => exact wpAny_execs_nil ⟨σ', H', J'.ofTry ok, q⟩
    | .brk, ⟨σ', H', J', q⟩ => exact ⟨σ', H', J'.ofTry ok, q⟩
    | .cont, ⟨σ', H', J', q⟩ => exact ⟨σ', H', J'.ofTry ok, q⟩
    | .ret u, ⟨v, σ', H', J', r, q⟩ => exact ⟨v, σ', H', J'.ofTry ok, r, q⟩
  · obtain ⟨a, B, sI, pins', σ', H', cls, d, rfl, J0, nb, up, sky, na, os, ag, b, match_, hyes, hno⟩ := xx
    have J : Inv X pins σ' H' sI := J0.ofTry ok
    have sky2 : Sky B (X.env :: X.outer) a (Zc cls d) X.env.locals s'.heap := by rw [← hs]; exact sky
    show wpAny (model X.prog X.w) X.A (noteFrame (.ref a) X.env) _ _ _
    refine Sky.land Zc.steady frames hf sky2 fun h3 fl3 up3 => ?_
    have J3 : Inv X pins σ' H' { s' with heap := h3 } := J.landed nb fl3.1 (up.trans up3) os ag
    obtain ⟨oe3, vs3, he3, hz3, hd3⟩ := fl3.there
    have notFrame : a ∉ frs (X.env :: X.outer) := fun hm => by
      obtain ⟨_, o', e', hnf⟩ := fl3.2.2.1.mem hm
      rw [he3] at e'
      cases e'
      exact hnf _ hd3
    have nL : a ≠ X.env.locals := fun z => notFrame (List.mem_filterMap.mpr ⟨X.env, List.mem_cons_self, by rw [hf, z]⟩)
    have nF : a ∉ X.fs := fun hm => by
      obtain ⟨e, he, q⟩ := List.mem_filterMap.mp hm
      exact notFrame (List.mem_filterMap.mpr ⟨e, List.mem_cons_of_mem _ he, q⟩)
    have S3 := J3.suite he3 hd3 na nL nF
    refine wpAny_handleBy_cons (codeAny_handlers_test ?_) (by intro q; cases q)
    have typ : PySem.W.Looks (model X.prog X.w) h3 (typeOf (.ref a)) cls := fun A Q E s k q => wpAny_typeOf_ref (k _ _ he3) (by rw [hz3.1]; exact q)
    have isC := PySem.W.exm_one (M := model X.prog X.w) J3.kIn typ match_
    have named : ∀ {Q : Value → Shared → Prop} {E : Value → Shared → Prop}, Q c { s' with heap := h3 } → wpAny (model X.prog X.w) (X.A.mark (some (.ref a))) (eval (.Name x np) X.env) Q E { s' with heap := h3 } := fun {Q E} q => by
      obtain ⟨hg, hdbg, hm | ⟨hm, hv, hnn⟩⟩ := hc
      · exact ld_glob (X := X.suite a ((a, oe3) :: (X.pn ++ pins))) S3 hg hm q hdbg
      · exact ld_blt (X := X.suite a ((a, oe3) :: (X.pn ++ pins))) S3 hg hm hv q hnn hdbg
    refine named (isC.here ?_)
    -- a is new here
    have notI : sI.heap.get? a = none := by
      cases z : sI.heap.get? a with
      | none => rfl
      | some o =>
        have z2 := nb a o z (by rw [hs]; exact notFrame)
        rw [fl3.2.1] at z2
        cases z2
    have n0 : X.s_0.heap.get? a = none := by
      cases z : X.s_0.heap.get? a with
      | none => rfl
      | some o =>
        obtain ⟨o', z2⟩ := J.base.there a o z (by rw [hex]; exact List.not_mem_nil)
        rw [notI] at z2
        cases z2
    have np' : ∀ p ∈ X.pn ++ pins, p.1 ≠ a := fun p hp z => by
      have q := (J.pin p hp).1
      rw [z, notI] at q
      cases q
    cases b with
    | true =>
      obtain ⟨dd, ed, hyes⟩ := hyes rfl
      refine codeAny_handlers_suite_as (HandSPX.lands_againZ fl3 fun h4 fl4 up4 => ?_)
      have J4 : Inv X pins σ' H' { s' with heap := h4 } := J.landed nb fl4.1 ((up.trans up3).trans up4) os ag
      obtain ⟨oe4, vs4, he4, hz4, hd4⟩ := fl4.there
      have S4 := J4.suite he4 hd4 na nL nF
      refine store_ok (X := X.suite a ((a, oe4) :: (X.pn ++ pins))) (v := .ref a) S4 hN hi local_ rfl (fun s5 S5 => ?_) (.inr hln)
      have vis : Vis (X.suite a ((a, oe4) :: (X.pn ++ pins))).env.scope n := .inl hln
      by_cases hlt : i < σ'.length
      · have asg : PSs (X.suite a ((a, oe4) :: (X.pn ++ pins))) [.Assign [.Name y py] (.Name n p1) p2] (tAsg (tVar i) (gName j)) := pss_one (ps_set (X := X.suite a ((a, oe4) :: (X.pn ++ pins))) hN hj (.inl hly) (pe_var (X := X.suite a ((a, oe4) :: (X.pn ++ pins))) hi vis hd hcd) (hsw _) (.inr hly))
        have run := asg.run [] s5 (σ'.set i (some (V.ref a))) H' { nx := fun σ6 H6 => σ6 = (σ'.set i (some (V.ref a))).set j (some (V.ref a)) ∧ H6 = H', rt := fun _ _ => False, bk := fun _ _ => False, ct := fun _ _ => False } S5 ⟨.ref a, List.getElem?_set_self hlt, rfl, rfl⟩
        refine wpAny_mono run (fun f s6 hsp => ?_) (fun _ _ z => False.elim z)
        match f, hsp with
        | .brk, ⟨_, _, _, z⟩ => exact z.elim
        | .cont, ⟨_, _, _, z⟩ => exact z.elim
        | .ret _, ⟨_, _, _, _, _, z⟩ => exact z.elim
        | .next, ⟨σ6, H6, S6, e6, eH6⟩ =>
          subst e6 eH6
          have J6 : Inv (X.tr ((a, oe4) :: (X.pn ++ pins)) X.xe) [] ((σ'.set i (some (V.ref a))).set j (some (V.ref a))) H6 s6 := ⟨ok.toTry _ _, S6.os, S6.bare, S6.base, S6.loc, S6.cell, S6.free, S6.freeC, S6.pin, S6.hok, S6.len⟩
          refine gone_ok (X := X.tr ((a, oe4) :: (X.pn ++ pins)) X.xe) J6 hN hi hln fun s7 J7 => ?_
          obtain ⟨g7, n7, _⟩ := J7.pin (a, oe4) (List.mem_append_left _ List.mem_cons_self)
          have I7 : Inv X pins (((σ'.set i (some (V.ref a))).set j (some (V.ref a))).set i none) H6 s7 := ⟨ok, J7.os, J7.bare, J7.base, J7.loc, J7.cell, J7.free, J7.freeC, fun p hp => J7.pin p (List.mem_append_left _ (List.mem_cons_of_mem _ hp)), J7.hok, J7.len⟩
          have ncell : ∀ x c, X.env.cells.lookup x = some c → c ≠ a := fun x c e z => by
            obtain ⟨v, o, ho, hdt⟩ := I7.cell x c e
            rw [z] at ho
            have g7 : s7.heap.get? a = some oe4 := g7
            rw [g7] at ho
            cases ho
            rw [hd4] at hdt
            cases hdt
          have I8 := Inv.track (o := ExH cls dd a) I7 n7 n0 nL ncell np' (exH_ok g7 hz4.1 (hz4.2.trans ed) hd4)
          exact ⟨_, _, I8, hyes a na⟩
      · exact absurd (by have := J.len; have := (List.getElem?_eq_some_iff.mp hi).1; omega) hlt
    | false =>
      show wpAny _ X.A (handleBy (.ref a) X.env []) _ _ _
      refine wpAny_handleBy_nil ?_
      obtain ⟨k1, k2, k3, oe, vs, T, oT, ts', he, hz, hd', h1, hr⟩ := id fl3
      unfold PySem.passOn
      refine wpAny_bind (wpAny_field he hd' h1 ?_)
      rw [if_neg (show ¬ ((Value.ref T == Value.none) = true) by simp)]
      have onward : wpAny (model X.prog X.w) X.A (setFlight (.ref a) X.env.frame) (fun _ s4 => wpAny (model X.prog X.w) X.A (throw (.ref a) : Sem Flow) (SP X pins D) X.xe s4) X.xe { s' with heap := h3 } := by
        rw [hf]
        exact HandSPX.setFlight_upZ fl3 fun h4 hh4 up4 => wpAny_throw (tk _ _ ⟨a, B, sI, pins, σ', H', cls, d, rfl, J, nb, (up.trans up3).trans up4, .inr (.inr (by rw [hs]; exact hh4)), na, os, ag, hno rfl⟩)
      first
        | exact wpAny_bind (wpAny_pure (wpAny_bind onward))
        | exact wpAny_bind onward
end
end Dn
end

section
set_option maxHeartbeats 4000000
-- Dn18
/-! Dn18: exceptions kept, made, read as values -/
namespace Dn
open PySem PySem.Spec L2
theorem R.clear {K : PySem.W.Frag} {t : Tags} {H : Hp} {st : DSt} {σ : L2.St} (r : R K t st σ H) (i : Nat) : R K t { st with env := st.env.set i none } (σ.set i none) H where
  r0 := r.r0
  len := by simpa using r.len
  env := fun j y ej => by
    have ej : (st.env.set i none)[j]? = some (some y) := ej
    by_cases hj : i = j
    · subst hj
      by_cases hl : i < st.env.length
      · rw [List.getElem?_set_self hl] at ej; cases ej
      · rw [List.getElem?_eq_none (by simpa using hl)] at ej; cases ej
    · rw [List.getElem?_set_ne hj] at ej ⊢
      exact r.env j y ej
def gTryHold (mt : Mt) (cn : Str) (i j : Nat) (b : DS) : DS := fun st => match b st with
  | .ex c x st' => (match mt c with
    | some true => if c = cn then .nx { put j (.sh (.exc cn x)) st' with env := (put j (.sh (.exc cn x)) st').env.set i none } else .no
    | some false => .ex c x st'
    | none => .no)
  | o => o
section
variable {X : Cx} {W : WX} {x n y cn : Str} {i j : Nat} {body : List Stmt} {np pos pos' py p1 p2 : Pos} {gb : DS} {mt : Mt}
theorem ds_try_hold (hs : X.stack = X.env :: X.outer) (hf : X.env.frame = some X.env.locals) (hex : X.ex = []) (hN : X.N.Nodup) (hi : X.N[i]? = some n) (hj : X.N[j]? = some y) (hij : i ≠ j) (hln : X.env.kindOf n = some .local) (hly : X.env.scope.names.lookup y = some .local) (hc : Names X x (.ref (He.ga X.K cn))) (tk : Takes X W)
    (hmt : ∀ c b, mt c = some b → PySem.W.exmOne X.K (.ref (He.ga X.K c)) (.ref (He.ga X.K cn)) = some b)
    (hb : ∀ (W : WX) (pn : List (Addr × Obj)) (xe : Value → Shared → Prop), Takes (X.tr pn xe) W → PassesOwn (model X.prog X.w) X.A X.env xe → PSs (X.tr pn xe) body (tS X.K W gb))
    (hd : (n == ("__debug__" : Str)) = false) (hcd : (n == ("__classdict__" : Str)) = false) (hsw : ∀ env, swapsWith (.Name n p1) (some (.Name y py)) p2.line env = pure false) :
    PS X (.Try body [.ExceptHandler (some (.Name x np)) (some n) [.Assign [.Name y py] (.Name n p1) p2] pos'] [] [] pos) (tS X.K W (gTryHold mt cn i j gb)) := by
  refine PS.imp (ps_try_hold (tb := fun W => tS X.K W gb) hs hf hex hN hi hj hln hly hc tk hb hd hcd hsw) fun D' σ H ⟨t, st, r, q⟩ => ⟨t, st, r, ?_⟩
  unfold gTryHold at q
  cases eb : gb st with
  | nx _ => rw [eb] at q; exact q
  | rt _ _ => rw [eb] at q; exact q
  | bk _ => rw [eb] at q; exact q
  | ct _ => rw [eb] at q; exact q
  | no => rw [eb] at q; exact q
  | ex c z st' =>
    rw [eb] at q
    dsimp only at q
    intro t1 σ1 H1 d E1 R1 ⟨u, hd1', hdt, du⟩
    cases em : mt c with
    | none => rw [em] at q; exact q.elim
    | some b =>
      rw [em] at q
      refine ⟨b, hmt c b em, fun hbt => ⟨d, rfl, fun a ha => ?_⟩, fun hbf => ?_⟩
      · subst hbt
        dsimp only at q
        split at q
        · rename_i hcn
          obtain ⟨E2, R2, e2⟩ := R1.alloc (o := ExH (.ref (He.ga X.K c)) d a) ha
          have dd : Dat X.K (fz (setT t1 a .frz) (upd H1 a (ExH (.ref (He.ga X.K c)) d a))) (rho (setT t1 a .frz)) (.exc cn z) (.ref a) := by
            rw [Dat]
            obtain ⟨f1, f2⟩ := E2.frz d hdt
            exact ⟨a, d, u, rfl, by rw [← hcn]; exact e2, by rw [fz_of f1, f2]; exact hd1', E2.dat du⟩
          have R3 := (R2.storeSh (i := j) dd).clear i
          have es : ((σ1.set i (some (V.ref a))).set j (some (V.ref a))).set i none = (σ1.set j (some (V.ref a))).set i none := by
            apply List.ext_getElem?
            intro k
            simp only [List.getElem?_set, List.length_set]
            by_cases h1 : i = k <;> by_cases h2 : j = k <;> simp [h1, h2]
          rw [es]
          exact q _ _ _ (E1.trans E2.w) R3
        · exact q.elim
      · subst hbf
        exact q t1 σ1 H1 d E1 R1 ⟨u, hd1', hdt, du⟩
end
/-! ### e.value of an exception -/
def gValue (cs : List Str) (z : DZ) : DE := fun st => (z st).bind fun d st => match d with
  | .exc c x => if c ∈ cs then .ok (.sh x) st else .no
  | _ => .no
section
variable {X : Cx} {W : WX} {e : Expr} {z : DZ} {pos : Pos} {cs : List Str}
theorem de_value (hT : ∀ c ∈ cs, XfC X.K (He.ga X.K c) ∧ PySem.W.findIn X.K (.ref (He.ga X.K c)) "value" = some none) (he : PE X e (tV X.K W z)) (hb : attributeBase e "value" X.env (eval e X.env) = eval e X.env) : PE X (.Attribute e "value" pos) (tD X.K W (gValue cs z)) := by
  refine ⟨fun pins s σ H Q I ⟨t, st, r, q⟩ => ?_⟩
  have want : tV X.K W z σ H fun v H1 => ∃ a d u c, c ∈ cs ∧ v = .ref a ∧ H1 a = some (ExH (.ref (He.ga X.K c)) d a) ∧ H1 d = some (.xd [("value", u)]) ∧ Q u H1 := by
    refine tG_at r q fun t1 st1 H1 d v E1 R1 p1 q1 => ?_
    cases d with
    | exc c x =>
      have q2 := Res.step0 E1 q1
      dsimp only at q2
      split at q2
      · rename_i hc
        have p1 : Dat X.K (fz t1 H1) (rho t1) (.exc c x) v := p1
        rw [Dat] at p1
        obtain ⟨a, dd, u, rfl, e1, e2, e3⟩ := p1
        exact ⟨a, dd, u, c, hc, rfl, (of_fz e1).2, (of_fz e2).2, q2 t1 H1 u (Ext.refl _ _) R1 e3⟩
      · exact q2.elim
    | _ => exact q1.elim
  refine attr_of hb (thn (he.run pins s σ H _ I want) fun u0 s1 ⟨v, H1, I1, rx, a, d, u, c, hc, ev, ea, ed, q1⟩ => ?_)
  subst ev
  obtain rfl : u0 = Value.ref a := rx
  obtain ⟨T, hno⟩ := hT c hc
  have hx : ObjOk X.prog X.w H1 s1.heap a (ExH (.ref (He.ga X.K c)) d a) := I1.hok a _ ea
  obtain ⟨⟨oe, vs, g1, g2, g3, g4⟩, _⟩ := hx
  have hy : ObjOk X.prog X.w H1 s1.heap d (.xd [("value", u)]) := I1.hok d _ ed
  obtain ⟨mA, hns, hr⟩ := hy
  obtain ⟨od, ho, hl⟩ := lookIn_ns hns
  have hv := hr ("value" : Str)
  obtain ⟨uu, hu, ru⟩ := RelO.some_of (v := u) (o := mA "value") (by exact hv)
  have J : PySem.W.InstAt s1.heap a oe (He.ga X.K c) (some od) := ⟨g1, g2, by unfold PySem.W.notCls; rw [g4] <;> rfl, by rw [g3]; exact ho⟩
  exact HandSPX.exc_get I1.kIn J T.ga T.gg T.exC (PySem.W.findObj_own T.hdC hno rfl (by rw [hl, hu])) (handed_of ru) ⟨u, H1, I1.tok _, ru, q1⟩
end
/-! ### C(e) as a value -/
def gNewX (cn : Str) (z : DZ) : DE := fun st => (z st).bind fun d st => .ok (.sh (.exc cn d)) st
section
variable {X : Cx} {W : WX} {x cn : Str} {D fI : Addr} {body : List Stmt} {k : Nat} {e : Expr} {z : DZ} {p pos : Pos}
theorem de_newX (ini : XIni X.prog X.K D fI body) (c : XCls X.K (He.ga X.K cn) D fI) (room : Room (k + 1) X.A) (hg : Gl X x) (hm : X.mg x = some (.ref (He.ga X.K cn)))
    (he : PE X e (tZ X.K W z)) (hdb : (x == ("__debug__" : Str)) = false) (hst : starEach [e] X.env = (false, eval e X.env) :: starEach [] X.env) (hpl : (backTo pos (starEach [] X.env)).any (·.1) = false) :
    PE X (.Call (.Name x p) [e] [] pos) (tD X.K W (gNewX cn z)) := by
  refine ⟨fun pins s σ H Q I ⟨t, st, r, q⟩ => ?_⟩
  have want : tCons (tZ X.K W z) tNil σ H fun vs H1 => ∃ v, vs = [v] ∧ ∀ a d, H1 a = none → H1 d = none → a ≠ d → Q (.ref a) (upd (upd H1 d (.xd [("value", v)])) a (ExH (.ref (He.ga X.K cn)) d a)) := by
    refine tG_at r q fun t1 st1 H1 d v E1 R1 p1 q1 => ⟨v, rfl, fun a dx ha hd ne => ?_⟩
    have q2 := Res.step0 E1 q1
    obtain ⟨E2, R2, e2⟩ := R1.alloc (o := .xd [("value", v)]) hd
    obtain ⟨E3, R3, e3⟩ := R2.alloc (a := a) (o := ExH (.ref (He.ga X.K cn)) dx a) (by rw [upd_ne ne]; exact ha)
    refine q2 _ _ (.ref a) (E2.trans E3) R3 ?_
    show Dat _ _ _ _ _
    rw [Dat]
    exact ⟨a, dx, v, rfl, e3, E3.le _ _ e2, (E2.trans E3).dat p1⟩
  refine wpAny_Call_Name_kw (ld_glob I hg hm ?_ hdb)
  refine PySem.W.callWith_K (h₀ := X.base) I.ok.mod.kin c.T.kC (thn ((pa_cons he pa_nil hst).run pos pins s σ H _ I want) fun us s1 ⟨vs, H1, I1, r1, v, ev, q1⟩ => ⟨I1.kIn, ?_⟩) hst hpl
  subst ev
  obtain ⟨u, rfl, rv⟩ := vals1 r1
  refine make_bad ini c room I1 rv fun a d h' G t1 tk hd J sub' old ga sz ne hx => ?_
  have na : upd H1 d (.xd [("value", v)]) a = none := by rw [upd_ne ne]; exact I1.hok.fresh sz
  have I2 : Inv X pins σ (upd (upd H1 d (.xd [("value", v)])) a (ExH (.ref (He.ga X.K cn)) d a)) ⟨h', s1.gens, s1.drawn, tk, s1.os⟩ := J.laidN (t' := tk) sub' ga na (exH_ok hx rfl rfl rfl)
  exact ⟨.ref a, _, I2, rfl, q1 a d (I1.hok.fresh sz) hd ne⟩
end
end Dn
end

section
set_option maxHeartbeats 4000000
-- Dn19
/-! Dn19: chains of comparisons, cells made of lists, defs by name, short words -/
namespace Dn
open PySem PySem.Spec L2
/-! ### a op b op c -/
def tTest2 (ta : TE) (r1 : R2) (tb : TE) (r2 : R2) (tc : TE) : TT := fun σ H Q => ta σ H fun x H1 => tb σ H1 fun y H2 => r1 x y H2 fun z H3 => ∃ k, z = .bl k ∧ (if k = true then tc σ H3 fun u H4 => r2 y u H4 fun z2 H5 => ∃ k2, z2 = .bl k2 ∧ Q k2 H5 else Q false H3)
theorem pt_cmp2 {X : Cx} {a b c : Expr} {o1 o2 : CmpOp} {ta tb tc : TE} {r1 r2 : R2} {pos : Pos} (h1 : OpR X (compareOp o1) r1) (h2 : OpR X (compareOp o2) r2) (ha : PE X a ta) (hb : PE X b tb) (hc : PE X c tc) (hm : lastMarks [o1, o2] [b, c] = false) : PT X (.Compare a [o1, o2] [b, c] pos) (tTest2 ta r1 tb r2 tc) := by
  refine ⟨fun pins s σ H Q I h => PyProof.Rows.isTrue_chain ?_ hm⟩
  refine thn (ha.run pins s σ H _ I h) fun v s1 ⟨x, H1, I1, rx, q1⟩ => PyProof.Rows.test_link ?_
  refine thn (hb.run pins s1 σ H1 _ I1 q1) fun u s2 ⟨y, H2, I2, ry, q2⟩ => ?_
  refine thn (h1 pins s2 σ H2 x y v u _ I2 rx ry q2) fun c1 s3 ⟨z, H3, I3, rz, k, ez, q3⟩ => ?_
  subst ez
  cases rz
  refine wpAny_truthy_bool ?_
  cases k with
  | false => exact ⟨H3, I3, q3⟩
  | true =>
    refine PyProof.Rows.test_last (thn (hc.run pins s3 σ H3 _ I3 q3) fun w s4 ⟨u', H4, I4, ru, q4⟩ => ?_)
    refine thn (h2 pins s4 σ H4 y u' u w _ I4 ry ru q4) fun c2 s5 ⟨z2, H5, I5, rz2, k2, ez2, q5⟩ => ?_
    subst ez2
    cases rz2
    exact wpAny_truthy_bool ⟨H5, I5, q5⟩
def gCmp2 (f1 f2 : D → D → Option RV) (za zb zc : DZ) : DT := fun st => (za st).bind fun a st => (zb st).bind fun b st => match f1 a b with
  | some (.sh (.bl true)) => (zc st).bind fun c st => (match f2 b c with
    | some (.sh (.bl k)) => .ok k st
    | _ => .no)
  | some (.sh (.bl false)) => .ok false st
  | _ => .no
section
variable {X : Cx} {W : WX} {a b c e : Expr} {za zb zc : DZ} {f1 f2 : D → D → Option RV} {o1 o2 : CmpOp} {pos : Pos}
theorem dt_cmp2 (h1 : OpR X (compareOp o1) (rF X.K f1)) (h2 : OpR X (compareOp o2) (rF X.K f2)) (ha : PE X a (tV X.K W za)) (hb : PE X b (tV X.K W zb)) (hc : PE X c (tV X.K W zc)) (hm : lastMarks [o1, o2] [b, c] = false) : PT X (.Compare a [o1, o2] [b, c] pos) (tT X.K W (gCmp2 f1 f2 za zb zc)) := by
  refine PT.imp (pt_cmp2 h1 h2 ha hb hc hm) fun σ H Q ⟨t, st, r, q⟩ => ?_
  refine tG_atT r q fun t1 st1 H1 x v E1 R1 p1 q1 => ?_
  refine tG_atT R1 (q1.step E1) fun t2 st2 H2 y u E2 R2 p2 q2 => ?_
  have p1 : Vw X.K t2 H2 x v := Vw.step E2 p1
  have q2 := q2.step E2
  refine ⟨t2, x, y, R2.tagOk, p1, p2, ?_⟩
  split at q2
  · rename_i e1
    rw [e1]
    intro t3 H3 z G3 pz
    have R3 := G3.st _ _ R2
    have pz : Dat X.K (fz t3 H3) (rho t3) (.bl true) z := pz
    rw [Dat] at pz
    refine ⟨true, pz, ?_⟩
    rw [if_pos rfl]
    refine tG_atT R3 (q2.step G3.ext) fun t4 st4 H4 w u4 E4 R4 p4 q4 => ?_
    have q4 := q4.step E4
    refine ⟨t4, y, w, R4.tagOk, Vw.step (G3.ext.trans E4) p2, p4, ?_⟩
    split at q4
    · rename_i e2
      rw [e2]
      intro t5 H5 z5 G5 p5
      have p5 : Dat X.K (fz t5 H5) (rho t5) (.bl _) z5 := p5
      rw [Dat] at p5
      exact ⟨_, p5, q4 t5 H5 G5.ext (G5.st _ _ R4)⟩
    · exact q4.elim
  · rename_i e1
    rw [e1]
    intro t3 H3 z G3 pz
    have pz : Dat X.K (fz t3 H3) (rho t3) (.bl false) z := pz
    rw [Dat] at pz
    refine ⟨false, pz, ?_⟩
    rw [if_neg Bool.false_ne_true]
    exact q2 t3 H3 G3.ext (G3.st _ _ R2)
  · exact q2.elim
end
/-! ### a list of one's own becomes a cell of the store -/
theorem R.mkCell {K : PySem.W.Frag} {t : Tags} {st : DSt} {σ : L2.St} {H : Hp} {p : Addr} {o : OD} (r : R K t st σ H) (n : t p ≠ .frz) (c : ∀ k, t p ≠ .cell k) (ob : ObjAt K (fz t H) (rho t) H p o) (env' : List (Option RV)) (hl : env'.length = st.env.length)
    (he : ∀ (j : Nat) (x : RV), env'[j]? = some (some x) → (∃ v, σ[j]? = some (some v) ∧ SlotIs K (setT t p (.cell st.S.length)) H j x v)) : R K (setT t p (.cell st.S.length)) { st with env := env', S := st.S ++ [o] } σ H where
  r0 := {
    tag := fun b h => by
      by_cases e : b = p
      · rw [e]; exact ob.there
      · rw [setT_ne e] at h; exact r.r0.tag b h
    cel := fun k o' h => by
      have rt : ∀ k b, rho t k b → rho (setT t p (.cell st.S.length)) k b := fun k b hb => by
        have ne : b ≠ p := fun e => c k (e ▸ hb)
        show setT t p _ b = _
        rw [setT_ne ne]; exact hb
      have h : (st.S ++ [o])[k]? = some o' := h
      by_cases hk : k < st.S.length
      · rw [List.getElem?_append_left hk] at h
        obtain ⟨b, h1, h2, h3⟩ := r.r0.cel k o' h
        have ne : b ≠ p := fun e => c k (e ▸ h1)
        refine ⟨b, by rw [setT_ne ne]; exact h1, fun b' hb' => ?_, h3.mono (le_untag (x := .cell st.S.length) n nofun) rt fun _ h => h⟩
        by_cases e : b' = p
        · rw [e, setT_same] at hb'
          injection hb' with hb'
          omega
        · rw [setT_ne e] at hb'; exact h2 b' hb'
      · rw [List.getElem?_append_right (by omega)] at h
        have hk0 : k = st.S.length := by
          cases e : k - st.S.length with
          | zero => omega
          | succ m => rw [e] at h; simp at h
        subst hk0
        rw [Nat.sub_self] at h
        cases h
        refine ⟨p, setT_same, fun b hb => ?_, ob.mono (le_untag (x := .cell st.S.length) n nofun) rt fun _ h => h⟩
        by_cases e : b = p
        · exact e
        · rw [setT_ne e] at hb
          exact absurd (r.r0.lt b _ hb) (Nat.lt_irrefl _)
    lt := fun b k h => by
      show k < (st.S ++ [o]).length
      rw [List.length_append, List.length_singleton]
      by_cases e : b = p
      · rw [e, setT_same] at h
        injection h with h
        omega
      · rw [setT_ne e] at h
        have := r.r0.lt b k h
        omega }
  len := by rw [hl]; exact r.len
  env := he
/-- what stays of the slots when p becomes a cell -/
theorem SlotIs.mkCell {K : PySem.W.Frag} {t : Tags} {H : Hp} {j : Nat} {x : RV} {v : V} {p : Addr} {k0 : Nat} (n : t p ≠ .frz) (c : ∀ k, t p ≠ .cell k) (ns : t p ≠ .slot j) (h : SlotIs K t H j x v) : SlotIs K (setT t p (.cell k0)) H j x v := by
  have rt : ∀ k b, rho t k b → rho (setT t p (.cell k0)) k b := fun k b hb => by
    have ne : b ≠ p := fun e => c k (e ▸ hb)
    show setT t p _ b = _
    rw [setT_ne ne]; exact hb
  cases x with
  | sh d => exact Dat.mono (le_untag (x := .cell k0) n nofun) rt h
  | ow ob =>
    obtain ⟨b, eb, s1, s2⟩ := h
    have ne : b ≠ p := fun e => ns (e ▸ s1)
    exact ⟨b, eb, by rw [setT_ne ne]; exact s1, s2.mono (le_untag (x := .cell k0) n nofun) rt fun _ h => h⟩
def cellR (r : RV) (st : DSt) : Out D := match r with
  | .ow o => .ok (.cell st.S.length) { st with S := st.S ++ [o] }
  | .sh (.cell k) => .ok (.cell k) st
  | _ => .no
def gCell (g : DE) : DZ := fun st => (g st).bind cellR
section
variable {X : Cx} {W : WX} {k : Nat} {f : Addr} {fd : FuncData} {ps : List Str} {m : Fm} {x : Str} {p pos : Pos} {e : Expr} {es : List Expr} {gs : DAs}
theorem call_wantC {σ : L2.St} {H : Hp} {Q : VK} {t : Tags} {st : DSt} {ds : List D} {vs : List V} {n : Nat} {K : PySem.W.Frag} (r : R K t st σ H) (d : Dats K (fz t H) (rho t) ds vs) (hl : ds.length = n) (q : Res K W σ Q (PZ K) t H ((outE (m ds st.S) st).bind cellR)) :
    spD K n m vs H Q (fun cls d H' => W cls d σ H') := by
  refine ⟨unslot t, st.S, ds, r.r0.unslot, fun _ _ => unslot_slot, by rw [fz_unslot, rho_unslot]; exact d, hl, ?_⟩
  cases e : m ds st.S with
  | ok rv S' =>
    rw [e] at q
    intro t' H' v E' r' p
    obtain ⟨X', RX⟩ := r.call E' r'
    have p2 := p.call r.r0 E'
    have q : Res K W σ Q (PZ K) t H (cellR rv { st with S := S' }) := q
    unfold cellR at q
    split at q
    · rename_i o
      obtain ⟨a, rfl, h1, h2, h3⟩ := p
      obtain ⟨_, ea, _, j2, j3⟩ := p2
      cases ea
      have hn : H a = none := h1 (by
        cases z : unslot t a with
        | non => rfl
        | frz => have := (E'.frz a z).1; rw [h2] at this; cases this
        | cell k => have := E'.cel a k z; rw [h2] at this; cases this
        | slot i => exact absurd z unslot_slot)
      have nf : joinT t t' a ≠ .frz := by rw [j2]; exact nofun
      have nc : ∀ k, joinT t t' a ≠ .cell k := fun k => by rw [j2]; exact nofun
      have R2 := RX.mkCell nf nc j3 st.env rfl fun j x hx => by
        obtain ⟨w, ew, sw⟩ := RX.env j x hx
        exact ⟨w, ew, sw.mkCell nf nc (by rw [j2]; exact nofun)⟩
      refine q _ H' (.ref a) ⟨fun b hb => ?_, fun b k hb => ?_, fun b u hb e => ?_, fun b i u hb e => ?_⟩ R2 ?_
      · obtain ⟨z1, z2⟩ := X'.frz b hb
        have ne : b ≠ a := fun e => nf (e ▸ z1)
        exact ⟨by rw [setT_ne ne]; exact z1, z2⟩
      · have z := X'.cel b k hb
        have ne : b ≠ a := fun e => nc k (e ▸ z)
        rw [setT_ne ne]; exact z
      · have ne : b ≠ a := fun z => by rw [z, hn] at e; cases e
        obtain ⟨z1, z2⟩ := X'.oth b u hb e
        exact ⟨by rw [setT_ne ne]; exact z1, z2⟩
      · have ne : b ≠ a := fun z => by rw [z, hn] at e; cases e
        obtain ⟨z1, z2⟩ := X'.slt b i u hb e
        exact ⟨z1, fun k => by rw [setT_ne ne]; exact z2 k⟩
      · show Dat _ _ _ _ _
        rw [Dat]
        exact ⟨a, rfl, setT_same⟩
    · exact q _ H' v X' RX p2
    · exact q.elim
  | ex c x S' =>
    rw [e] at q
    intro t' H' d' E' r' ⟨u, h1, h2, h3⟩
    obtain ⟨X', RX⟩ := r.call E' r'
    obtain ⟨ef, er⟩ := fz_joinT r.r0 E'
    refine q _ H' d' X' RX ⟨u, h1, ?_, by rw [ef, er]; exact h3⟩
    have hs : ∀ i, t d' ≠ .slot i := fun i z => by rw [(slot_non r.r0 E' z).1] at h2; cases h2
    rw [joinT_ne hs]
    exact unslot_frz.mpr h2
  | no => rw [e] at q; exact q.elim
/-- f(..), f a def: what it hands back becomes a cell -/
theorem dz_callC (F : FnG X.prog X.w X.K X.mg X.base k f fd ps m) (room : Room k X.A) (gd : X.A.guards = some []) (tk : Takes X W) (hg : Gl X x) (hm : X.mg x = some (.ref f)) (hk : PySem.W.keepIn X.K (.ref f) = true) (hb : Binds X.K fd ps [])
    (ha : PA X (e :: es) (tA X.K W gs (PLz X.K))) (hdb : (x == ("__debug__" : Str)) = false) (he : starEach (e :: es) X.env = (false, eval e X.env) :: starEach es X.env) (hpl : (backTo pos (starEach es X.env)).any (·.1) = false) :
    PE X (.Call (.Name x p) (e :: es) [] pos) (tZ X.K W (gCell (gFn m (gLen ps.length gs)))) := by
  refine ⟨fun pins s σ H Q I ⟨t, st, r, q⟩ => ?_⟩
  have q : Res X.K W σ Q (PZ X.K) t H ((((gs st).bind fun ds st => if ds.length = ps.length then .ok ds st else .no).bind fun ds st => outE (m ds st.S) st).bind cellR) := q
  have want : tA X.K W gs (PLz X.K) σ H fun vs H1 => spD X.K ps.length m vs H1 Q (fun cls d H' => W cls d σ H') := by
    refine ⟨t, st, r, ?_⟩
    cases eg : gs st with
    | no => rw [eg] at q; exact q
    | ex c x st' => rw [eg] at q; exact q
    | ok ds st1 =>
      rw [eg] at q
      intro t1 H1 vs E1 R1 p1
      have q1 : Res X.K W σ Q (PZ X.K) t H (((if ds.length = ps.length then Out.ok ds st1 else Out.no).bind fun ds st => outE (m ds st.S) st).bind cellR) := q
      by_cases hl : ds.length = ps.length
      · rw [if_pos hl] at q1
        exact call_wantC R1 p1 hl (q1.step sta_z E1)
      · rw [if_neg hl] at q1; exact q1.elim
  refine wpAny_Call_Name_kw (ld_glob I hg hm ?_ hdb)
  refine PySem.W.callWith_K (h₀ := X.base) I.ok.mod.kin hk (thn (ha.run pos pins s σ H _ I want) fun us s1 ⟨vs, H1, I1, rv, q1⟩ => ⟨I1.kIn, ?_⟩) he hpl
  exact run_G F room gd hb (fun _ _ => trivial) (fun e s' c => tk e s' (XE.of_call I1 (fun _ _ _ h => h) c)) I1 rv q1
/-- name = f(..), what it hands back becomes a cell -/
def gSetZ (i : Nat) (z : DZ) : DS := fun st => (z st).bindS fun d st => .nx (put i (.sh d) st)
theorem ds_setZ {z : DZ} {i : Nat} {pos' : Pos} (hN : X.N.Nodup) (hi : X.N[i]? = some x) (hx : Loc X.env.scope x) (he : PE X e (tZ X.K W z)) (hs : swapsWith e (some (.Name x pos')) pos.line X.env = pure false) (hf : X.fn x = true ∨ X.env.scope.names.lookup x = some .local) :
    PS X (.Assign [.Name x pos'] e pos) (tS X.K W (gSetZ i z)) := PS.imp (ps_set hN hi hx he hs hf) fun D' σ H ⟨t, st, r, q⟩ => tG_atS r q fun t1 st1 H1 d v E1 R1 p1 q1 => q1 t1 _ H1 E1.w (R1.storeSh p1)
end
end Dn
end

section
set_option maxHeartbeats 4000000
-- Dn20
/-! Dn20: range, enumerate; short words for the printed proofs -/
namespace Dn
open PySem PySem.Spec L2
theorem tA_atI {K : PySem.W.Frag} {W : WX} {σ : L2.St} {t : Tags} {H : Hp} {Q : It → Hp → Prop} {Q1 : List V → Hp → Prop} {P1 : PL} {st : DSt} {g : DAs} {f : List D → DSt → Out (List D)} (r : R K t st σ H)
    (h : ResI K W σ Q t H ((g st).bind f))
    (k : ∀ t1 st1 H1 ds vs, Ext t H t1 H1 → R K t1 st1 σ H1 → P1 t1 H1 ds vs → ResI K W σ Q t H (f ds st1) → Q1 vs H1) : tA K W g P1 σ H Q1 := by
  refine ⟨t, st, r, ?_⟩
  cases e : g st with
  | no => rw [e] at h; exact h
  | ex c x st' => rw [e] at h; exact h
  | ok a st' =>
    rw [e] at h
    exact fun t1 H1 v E1 R1 p1 => k t1 st' H1 a v E1 R1 p1 h
def upTo (lo : Int) (n : Nat) : List D := (List.range n).map fun (k : Nat) => D.int (lo + (k : Int))
theorem wk_rng {K : PySem.W.Frag} {t : Tags} {H : Hp} {lo : Int} {n : Nat} : Wk K t H (Itr lo n) (upTo lo n) where
  at_ := fun t1 H1 E1 _ i d hd => by
    unfold upTo at hd
    rw [List.getElem?_map] at hd
    obtain ⟨c, hc, rfl⟩ := Option.map_eq_some_iff.mp hd
    have hi : i < n := by
      have := (List.getElem?_eq_some_iff.mp hc).1
      simpa using this
    rw [List.getElem?_range hi] at hc
    cases hc
    refine ⟨hi, fun v H2 ⟨e, ev⟩ => ?_⟩
    subst e
    exact ⟨t1, Grow.refl, by rw [Dat]; exact ev⟩
  end_ := fun t1 H1 E1 i hi => by
    show n ≤ i
    simpa [upTo] using hi
def gRng1 (gs : DAs) : DL := fun st => (gs st).bind fun ds st => match ds with
  | [.int j] => if -(2 ^ 62) ≤ j ∧ j < 2 ^ 62 then .ok (upTo 0 j.toNat) st else .no
  | _ => .no
def gRng2 (gs : DAs) : DL := fun st => (gs st).bind fun ds st => match ds with
  | [.int i, .int j] => if -(2 ^ 62) ≤ i ∧ i < 2 ^ 62 ∧ -(2 ^ 62) ≤ j ∧ j < 2 ^ 62 then .ok (upTo i (j - i).toNat) st else .no
  | _ => .no
def gEnum (gs : DAs) : DL := fun st => (gs st).bind fun ds st => match ds with
  | [.lst xs] => .ok (xs.zipIdx.map fun p => .tup [.int p.2, p.1]) st
  | _ => .no
section
variable {X : Cx} {W : WX} {tg a b e : Expr} {gs : DAs} {p pos tpos : Pos} {elts : List Expr} {kk : Nat}
theorem di_rng1 (hg : Gl X "range") (hm : X.mg "range" = none) (ha : PA X [a] (tA X.K W gs (Vws X.K))) (hs : starEach [a] X.env = [(false, eval a X.env)]) : PI X tg (.Call (.Name "range" p) [a] [] pos) (tI X.K W (gRng1 gs)) := by
  refine PI.imp (pi_range1 hg hm ha hs) fun σ H Q ⟨t, st, r, q⟩ => ?_
  refine tA_atI r q fun t1 st1 H1 ds vs E1 R1 p1 q1 => ?_
  split at q1
  · split at q1
    · rename_i hc
      obtain ⟨v, rfl, d⟩ := vws1 p1
      cases d
      exact ⟨_, rfl, hc.1, hc.2, q1 t1 H1 _ E1 R1 wk_rng⟩
    · exact q1.elim
  · exact q1.elim
theorem di_rng2 (hg : Gl X "range") (hm : X.mg "range" = none) (ha : PA X [a, b] (tA X.K W gs (Vws X.K))) (hs : starEach [a, b] X.env = [(false, eval a X.env), (false, eval b X.env)]) (hs2 : starEach [b] X.env = [(false, eval b X.env)]) : PI X tg (.Call (.Name "range" p) [a, b] [] pos) (tI X.K W (gRng2 gs)) := by
  refine PI.imp (pi_range2 hg hm ha hs hs2) fun σ H Q ⟨t, st, r, q⟩ => ?_
  refine tA_atI r q fun t1 st1 H1 ds vs E1 R1 p1 q1 => ?_
  split at q1
  · split at q1
    · rename_i hc
      obtain ⟨v, w, rfl, d, d2⟩ := vws2 p1
      cases d; cases d2
      exact ⟨_, _, rfl, hc, q1 t1 H1 _ E1 R1 wk_rng⟩
    · exact q1.elim
  · exact q1.elim
theorem di_enum (hg : Gl X "enumerate") (hm : X.mg "enumerate" = none) (ha : PA X [e] (tA X.K W gs (PLz X.K))) (hs : starEach [e] X.env = [(false, eval e X.env)]) : PI X (.Tuple elts kk tpos) (.Call (.Name "enumerate" p) [e] [] pos) (tI X.K W (gEnum gs)) := by
  refine PI.imp (pi_enum hg hm ha hs) fun σ H Q ⟨t, st, r, q⟩ => ?_
  refine tA_atI r q fun t1 st1 H1 ds vs E1 R1 p1 q1 => ?_
  split at q1
  · have p1 : Dats X.K (fz t1 H1) (rho t1) _ vs := p1
    simp only [Dats] at p1
    obtain ⟨v, us, rfl, h1, rfl⟩ := p1
    rw [Dat] at h1
    obtain ⟨q, ws, rfl, s, m⟩ := h1
    exact ⟨q, ws, rfl, SqL.of (fz_le _ _ s), q1 t1 H1 _ E1 R1 (wk_enum s m)⟩
  · exact q1.elim
end
/-! ### a def by its name -/
def Fn (P : Program) (w : World) (K : PySem.W.Frag) (mg : Str → Option Value) (base : Heap) (k : Nat) (x : Str) (ps : List Str) (m : Fm) : Prop :=
  ∃ f fd, mg x = some (.ref f) ∧ PySem.W.keepIn K (.ref f) = true ∧ Binds K fd ps [] ∧ FnG P w K mg base k f fd ps m
/-- what calls lean on -/
structure Cal (X : Cx) (k : Nat) (W : WX) : Prop where
  room : Room k X.A
  gds : X.A.guards = some []
  calm : X.calm = true
  tk : Takes X W
theorem Body.cal {X : Cx} {k : Nat} {W : WX} (b : Body X k W) : Cal X k W := ⟨b.room, b.gds, b.calm, b.tk⟩
theorem takes0 {X : Cx} : Takes X W0 := fun u s' ⟨_, _, _, _, _, _, _, _, _, _, _, _, _, _, _, _, z⟩ => z.elim
theorem Cal.blk {X : Cx} {k : Nat} {W : WX} (b : Cal X k W) (s : Shared) (H : Hp) (scope : Scope) (cenv : Env) (fp : List Addr) : Cal (X.blk s H scope cenv fp) k W0 := ⟨b.room, b.gds, b.calm, takes0⟩
theorem Cal.hu {X : Cx} {k : Nat} {W : WX} (b : Cal X k W) : X.A.units + 64 < cLine := b.room.units
section
variable {X : Cx} {W : WX} {k j : Nat} {ps : List Str} {m : Fm} {x : Str} {p pos : Pos} {e : Expr} {es : List Expr} {gs : DAs} {i : Nat} {z za zb zc : DZ} {g : DE}
theorem cF (F : Fn X.prog X.w X.K X.mg X.base j x ps m) (B : Cal X k W) (ha : PA X (e :: es) (tA X.K W gs (PLz X.K))) (hjk : j ≤ k := by decide) (hg : Gl X x := by rfl) (hdb : (x == ("__debug__" : Str)) = false := by decide) (he : starEach (e :: es) X.env = (false, eval e X.env) :: starEach es X.env := by rfl) (hpl : (backTo pos (starEach es X.env)).any (·.1) = false := by rfl) :
    PE X (.Call (.Name x p) (e :: es) [] pos) (tD X.K W (gFn m (gLen ps.length gs))) := by
  obtain ⟨f, fd, h1, h2, h3, h4⟩ := F
  exact de_call h4 (B.room.mono hjk) B.gds B.tk hg h1 h2 h3 ha hdb he hpl
theorem cC (F : Fn X.prog X.w X.K X.mg X.base j x ps m) (B : Cal X k W) (ha : PA X (e :: es) (tA X.K W gs (PLz X.K))) (hjk : j ≤ k := by decide) (hg : Gl X x := by rfl) (hdb : (x == ("__debug__" : Str)) = false := by decide) (he : starEach (e :: es) X.env = (false, eval e X.env) :: starEach es X.env := by rfl) (hpl : (backTo pos (starEach es X.env)).any (·.1) = false := by rfl) :
    PE X (.Call (.Name x p) (e :: es) [] pos) (tZ X.K W (gCell (gFn m (gLen ps.length gs)))) := by
  obtain ⟨f, fd, h1, h2, h3, h4⟩ := F
  exact dz_callC h4 (B.room.mono hjk) B.gds B.tk hg h1 h2 h3 ha hdb he hpl
/-! names -/
theorem vN (i : Nat) {x : Str} {pos : Pos} (hN : X.N[i]? = some x := by rfl) (hv : Vis X.env.scope x := by first | exact Or.inl rfl | exact Or.inr (Or.inl rfl) | exact Or.inr (Or.inr rfl)) (hd : (x == ("__debug__" : Str)) = false := by decide) (hcd : (x == ("__classdict__" : Str)) = false := by decide) :
    PE X (.Name x pos) (tV X.K W (gN i)) := pv_var hN hv hd hcd
theorem eN (i : Nat) {x : Str} {pos : Pos} (hN : X.N[i]? = some x := by rfl) (hv : Vis X.env.scope x := by first | exact Or.inl rfl | exact Or.inr (Or.inl rfl) | exact Or.inr (Or.inr rfl)) (hd : (x == ("__debug__" : Str)) = false := by decide) (hcd : (x == ("__classdict__" : Str)) = false := by decide) :
    PE X (.Name x pos) (tD X.K W (gV i)) := de_var hN hv hd hcd
/-! argument lists -/
theorem aN : PA X [] (tA X.K W gNilA (PLz X.K)) := da_nil
theorem aC (h : PE X e (tZ X.K W z)) (hr : PA X es (tA X.K W gs (PLz X.K))) (hs : starEach (e :: es) X.env = (false, eval e X.env) :: starEach es X.env := by rfl) : PA X (e :: es) (tA X.K W (gConsA z gs) (PLz X.K)) := da_cons h hr hs
theorem bN : PA X [] (tA X.K W gNilA (Vws X.K)) := dv_nil
theorem bC (h : PE X e (tV X.K W z)) (hr : PA X es (tA X.K W gs (Vws X.K))) (hs : starEach (e :: es) X.env = (false, eval e X.env) :: starEach es X.env := by rfl) : PA X (e :: es) (tA X.K W (gConsA z gs) (Vws X.K)) := dv_cons h hr hs
/-! built-in functions and types -/
theorem cB {f : List D → Option RV} {id : String} (hc : CallR X (.builtin id) (rC X.K f)) (hm : X.mg x = none) (ha : PA X (e :: es) (tA X.K W gs (Vws X.K))) (hg : Gl X x := by rfl) (hv : bootBuiltins x = some (.builtin id) := by decide +kernel) (hn : x ≠ "__name__" := by decide) (hdb : (x == ("__debug__" : Str)) = false := by decide)
    (he : starEach (e :: es) X.env = (false, eval e X.env) :: starEach es X.env := by rfl) (hpl : (backTo pos (starEach es X.env)).any (·.1) = false := by rfl) : PE X (.Call (.Name x p) (e :: es) [] pos) (tD X.K W (gCall f gs)) := de_callB hc hg hm hv ha hn hdb he hpl
theorem cT {f : List D → Option RV} {T : String} (hc : CallR X (.type T) (rC X.K f)) (hm : X.mg x = none) (ha : PA X (e :: es) (tA X.K W gs (Vws X.K))) (hg : Gl X x := by rfl) (hv : bootBuiltins x = some (.type T) := by decide +kernel) (hn : x ≠ "__name__" := by decide) (hdb : (x == ("__debug__" : Str)) = false := by decide)
    (he : starEach (e :: es) X.env = (false, eval e X.env) :: starEach es X.env := by rfl) (hpl : (backTo pos (starEach es X.env)).any (·.1) = false := by rfl) : PE X (.Call (.Name x p) (e :: es) [] pos) (tD X.K W (gCall f gs)) := de_callTy hc hg hm hv ha hn hdb he hpl
/-! comparisons, operators -/
theorem cmp {a b : Expr} {op : CmpOp} {f : D → D → Option RV} (ho : OpR X (compareOp op) (rF X.K f)) (ha : PE X a (tV X.K W za)) (hb : PE X b (tV X.K W zb)) (hm : behindInMarks op b = false := by rfl) : PE X (.Compare a [op] [b] pos) (tD X.K W (gBin f za zb)) := de_cmp ho ha hb hm
theorem tst {a b : Expr} {op : CmpOp} {f : D → D → Option RV} (ho : OpR X (compareOp op) (rF X.K f)) (ha : PE X a (tV X.K W za)) (hb : PE X b (tV X.K W zb)) (hm : behindInMarks op b = false := by rfl) : PT X (.Compare a [op] [b] pos) (tT X.K W (gTest asB (frz (gBin f za zb)))) := dt_cmp ho ha hb hm
theorem tst2 {a b c : Expr} {o1 o2 : CmpOp} {f1 f2 : D → D → Option RV} (h1 : OpR X (compareOp o1) (rF X.K f1)) (h2 : OpR X (compareOp o2) (rF X.K f2)) (ha : PE X a (tV X.K W za)) (hb : PE X b (tV X.K W zb)) (hc : PE X c (tV X.K W zc)) (hm : lastMarks [o1, o2] [b, c] = false := by rfl) :
    PT X (.Compare a [o1, o2] [b, c] pos) (tT X.K W (gCmp2 f1 f2 za zb zc)) := dt_cmp2 h1 h2 ha hb hc hm
theorem tru {a : Expr} (ha : PE X a (tV X.K W za)) (he : ∀ whole, isTrue a X.env whole = (do let v ← whole; standAt a.pos; holding [v] (truthy v)) := by intro whole; rfl) : PT X a (tT X.K W (gTest truD za)) := dt_truth ha he
theorem sub {a b : Expr} (ha : PE X a (tV X.K W za)) (hb : PE X b (tV X.K W zb)) (hs : PlainIx b := by intro o i; rfl) : PE X (.Subscript a b pos) (tD X.K W (gBin ixD za zb)) := de_ix ix_D ha hb hs
theorem cix {a b : Expr} (ha : PE X a (tV X.K W za)) (hb : PE X b (tV X.K W zb)) (hs : PlainIx b := by intro o i; rfl) : PE X (.Subscript a b pos) (tD X.K W (gCix za zb)) := de_cix ha hb hs
theorem isi {T : String} {p2 : Pos} {y : Str} (hT : T ∈ tys) (ha : PE X e (tV X.K W za)) (hm : X.mg "isinstance" = none) (hmT : X.mg y = none) (hg : Gl X "isinstance" := by rfl) (hgT : Gl X y := by rfl) (hvT : bootBuiltins y = some (.type T) := by decide +kernel) (hnT : y ≠ "__name__" := by decide) (hdT : (y == ("__debug__" : Str)) = false := by decide)
    (hs : starEach [e, .Name y p2] X.env = (false, eval e X.env) :: starEach [.Name y p2] X.env := by rfl) (hs2 : starEach [.Name y p2] X.env = (false, eval (.Name y p2) X.env) :: starEach [] X.env := by rfl) (hpl : (backTo pos (starEach [.Name y p2] X.env)).any (·.1) = false := by rfl) :
    PE X (.Call (.Name "isinstance" p) [e, .Name y p2] [] pos) (tD X.K W (gIsi T za)) := de_isi (x := y) (p2 := p2) hT ha (pe_bltn hgT hmT hvT rfl hnT hdT) hg hm hs hs2 hpl
theorem spl {a b : Expr} {apos : Pos} (ho : PE X a (tV X.K W za)) (he : PE X b (tV X.K W zb)) (hs : starEach [b] X.env = [(false, eval b X.env)] := by rfl) (hbase : attributeBase a "split" X.env (eval a X.env) = eval a X.env := by rfl) (hline : (apos.endLine == pos.line) = true := by rfl) :
    PE X (.Call (.Attribute a "split" apos) [b] [] pos) (tD X.K W (gM1 splitD za zb)) := de_split ho he hs hbase hline
theorem joi {a b : Expr} {apos : Pos} (ho : PE X a (tV X.K W za)) (he : PE X b (tV X.K W zb)) (hs : starEach [b] X.env = [(false, eval b X.env)] := by rfl) (hbase : attributeBase a "join" X.env (eval a X.env) = eval a X.env := by rfl) (hline : (apos.endLine == pos.line) = true := by rfl) :
    PE X (.Call (.Attribute a "join" apos) [b] [] pos) (tD X.K W (gM1 joinD za zb)) := de_join ho he hs hbase hline
/-! walks -/
theorem rn1 {tg a : Expr} (hm : X.mg "range" = none) (ha : PA X [a] (tA X.K W gs (Vws X.K))) (hg : Gl X "range" := by rfl) (hs : starEach [a] X.env = [(false, eval a X.env)] := by rfl) : PI X tg (.Call (.Name "range" p) [a] [] pos) (tI X.K W (gRng1 gs)) := di_rng1 hg hm ha hs
theorem rn2 {tg a b : Expr} (hm : X.mg "range" = none) (ha : PA X [a, b] (tA X.K W gs (Vws X.K))) (hg : Gl X "range" := by rfl) (hs : starEach [a, b] X.env = [(false, eval a X.env), (false, eval b X.env)] := by rfl) (hs2 : starEach [b] X.env = [(false, eval b X.env)] := by rfl) : PI X tg (.Call (.Name "range" p) [a, b] [] pos) (tI X.K W (gRng2 gs)) := di_rng2 hg hm ha hs hs2
theorem enu {elts : List Expr} {kk : Nat} {tpos : Pos} (hm : X.mg "enumerate" = none) (ha : PA X [e] (tA X.K W gs (PLz X.K))) (hg : Gl X "enumerate" := by rfl) (hs : starEach [e] X.env = [(false, eval e X.env)] := by rfl) : PI X (.Tuple elts kk tpos) (.Call (.Name "enumerate" p) [e] [] pos) (tI X.K W (gEnum gs)) := di_enum hg hm ha hs
/-! targets -/
theorem gNm (i : Nat) {x : Str} {pos : Pos} (hN : X.N.Nodup) (hi : X.N[i]? = some x := by rfl) (hx : Loc X.env.scope x := by first | exact Or.inl rfl | exact Or.inr rfl) (hf : X.fn x = true ∨ X.env.scope.names.lookup x = some .local := by first | exact Or.inl rfl | exact Or.inr rfl) : PG X (.Name x pos) (gName i) := pg_name hN hi hx hf
end
end Dn
end

section
set_option maxHeartbeats 4000000
-- Dn21
/-! Dn21: short words for statements -/
namespace Dn
open PySem PySem.Spec L2
theorem Body.tr {X : Cx} {k : Nat} {W W' : WX} (b : Body X k W) {pn : List (Addr × Obj)} {xe : Value → Shared → Prop} (tk : Takes (X.tr pn xe) W') (own : PassesOwn (model X.prog X.w) X.A X.env xe) : Body (X.tr pn xe) k W' := ⟨b.room, b.gds, b.calm, own, tk, b.fn, b.st, b.fr, b.ex⟩
section
variable {X : Cx} {W : WX} {k : Nat} {x : Str} {p pos : Pos} {e : Expr} {z za zi : DZ} {g : DE} {gs : DAs} {ss body : List Stmt} {a b : DS}
theorem sSet (i : Nat) {pos' : Pos} (hN : X.N.Nodup) (he : PE X e (tD X.K W g)) (hi : X.N[i]? = some x := by rfl) (hx : Loc X.env.scope x := by first | exact Or.inl rfl | exact Or.inr rfl) (hs : swapsWith e (some (.Name x pos')) pos.line X.env = pure false := by rfl) (hf : X.fn x = true ∨ X.env.scope.names.lookup x = some .local := by first | exact Or.inl rfl | exact Or.inr rfl) :
    PS X (.Assign [.Name x pos'] e pos) (tS X.K W (gSet i g)) := ds_set hN hi hx he hs hf
theorem sSetZ (i : Nat) {pos' : Pos} (hN : X.N.Nodup) (he : PE X e (tZ X.K W z)) (hi : X.N[i]? = some x := by rfl) (hx : Loc X.env.scope x := by first | exact Or.inl rfl | exact Or.inr rfl) (hs : swapsWith e (some (.Name x pos')) pos.line X.env = pure false := by rfl) (hf : X.fn x = true ∨ X.env.scope.names.lookup x = some .local := by first | exact Or.inl rfl | exact Or.inr rfl) :
    PS X (.Assign [.Name x pos'] e pos) (tS X.K W (gSetZ i z)) := ds_setZ hN hi hx he hs hf
theorem sAsg {tg : Expr} {gg : TG} {f : GT} {sl : List Nat} (he : PE X e (tZ X.K W z)) (hg : PG X tg gg) (tk : TgOk X.K gg f sl) (hs : swapsWithSole [tg] e pos.line X.env = pure false := by rfl) (hw : swappedStores [tg] e X.env = pure none := by rfl) (h1 : (assignEach [tg] X.env).map (·.2) = [assign tg X.env] := by rfl) :
    PS X (.Assign [tg] e pos) (tS X.K W (gTgt z f)) := ds_asg he hg tk hs hw h1
theorem sPar (i j : Nat) {x y : Str} {a b : Expr} {px py pt : Pos} {kt k2 pt2} (hc : X.calm = true) (hN : X.N.Nodup) (ha : PA X [a, b] (tA X.K W gs (PLz X.K))) (hi : X.N[i]? = some x := by rfl) (hj : X.N[j]? = some y := by rfl) (hij : i ≠ j := by decide)
    (hx : X.env.scope.names.lookup x = some .local := by rfl) (hy : X.env.scope.names.lookup y = some .local := by rfl)
    (hw : swappedStores [.Tuple [.Name x px, .Name y py] kt pt] (.Tuple [a, b] k2 pt2) X.env = pure (some [x, y]) := by rfl)
    (hs : swapsWithSole [.Tuple [.Name x px, .Name y py] kt pt] (.Tuple [a, b] k2 pt2) pos.line X.env = pure false := by rfl) :
    PS X (.Assign [.Tuple [.Name x px, .Name y py] kt pt] (.Tuple [a, b] k2 pt2) pos) (tS X.K W (gPar i j gs)) := ds_par hc hN hi hj hij hx hy ha hw hs
theorem sPar3 (i j l : Nat) {x y z : Str} {a b c : Expr} {px py pz pt : Pos} {kt k2 pt2} (hc : X.calm = true) (hN : X.N.Nodup) (ha : PA X [a, b, c] (tA X.K W gs (PLz X.K))) (hi : X.N[i]? = some x := by rfl) (hj : X.N[j]? = some y := by rfl) (hl : X.N[l]? = some z := by rfl) (hij : i ≠ j := by decide) (hil : i ≠ l := by decide) (hjl : j ≠ l := by decide)
    (hx : X.env.scope.names.lookup x = some .local := by rfl) (hy : X.env.scope.names.lookup y = some .local := by rfl) (hz : X.env.scope.names.lookup z = some .local := by rfl)
    (hw : swappedStores [.Tuple [.Name x px, .Name y py, .Name z pz] kt pt] (.Tuple [a, b, c] k2 pt2) X.env = pure (some [x, y, z]) := by rfl)
    (hs : swapsWithSole [.Tuple [.Name x px, .Name y py, .Name z pz] kt pt] (.Tuple [a, b, c] k2 pt2) pos.line X.env = pure false := by rfl) :
    PS X (.Assign [.Tuple [.Name x px, .Name y py, .Name z pz] kt pt] (.Tuple [a, b, c] k2 pt2) pos) (tS X.K W (gPar3 i j l gs)) := ds_par3 hc hN hi hj hl hij hil hjl hx hy hz ha hw hs
theorem sAug (i : Nat) {f : D → D → Option RV} {op : Operator} (ho : OpR X (inplaceOp op) (rF X.K f)) (hN : X.N.Nodup) (he : PE X e (tV X.K W z)) (hi : X.N[i]? = some x := by rfl) (hx : Loc X.env.scope x := by first | exact Or.inl rfl | exact Or.inr rfl) (hf : X.fn x = true ∨ X.env.scope.names.lookup x = some .local := by first | exact Or.inl rfl | exact Or.inr rfl) :
    PS X (.AugAssign (.Name x p) op e pos) (tS X.K W (gAug i f z)) := ds_aug hN hi hx he ho hf
theorem sApp (i : Nat) {apos cpos : Pos} (he : PE X e (tZ X.K W z)) (hN : X.N[i]? = some x := by rfl) (hv : Vis X.env.scope x := by first | exact Or.inl rfl | exact Or.inr (Or.inl rfl) | exact Or.inr (Or.inr rfl)) (hd : (x == ("__debug__" : Str)) = false := by decide) (hcd : (x == ("__classdict__" : Str)) = false := by decide)
    (hs : swapsWith (.Call (.Attribute (.Name x p) "append" apos) [e] [] cpos) none pos.line X.env = pure false := by rfl)
    (hbase : attributeBase (.Name x p) "append" X.env (eval (.Name x p) X.env) = eval (.Name x p) X.env := by rfl)
    (hfew : ((backTo cpos (starEach [e] X.env)).all (fun x => !x.1) && (backToKw cpos (keywordEach [] X.env)).all (fun x => x.1.isSome)
      && decide (([e] : List Expr).length + ([] : List Keyword).length + (if ([] : List Keyword).isEmpty then 0 else 1) < 30)) = true := by rfl)
    (hline : (apos.endLine == cpos.line) = true := by rfl) (hst : starEach [e] X.env = (false, eval e X.env) :: starEach [] X.env := by rfl) (hplain : (backTo cpos (starEach [] X.env)).any (·.1) = false := by rfl) :
    PS X (.Expr (.Call (.Attribute (.Name x p) "append" apos) [e] [] cpos) pos) (tS X.K W (gApp i z)) := ds_append hN hv hd hcd he hs hbase hfew hline hst hplain
theorem sExt (i : Nat) {apos cpos : Pos} (he : PE X e (tV X.K W z)) (hN : X.N[i]? = some x := by rfl) (hv : Vis X.env.scope x := by first | exact Or.inl rfl | exact Or.inr (Or.inl rfl) | exact Or.inr (Or.inr rfl)) (hd : (x == ("__debug__" : Str)) = false := by decide) (hcd : (x == ("__classdict__" : Str)) = false := by decide)
    (hs : swapsWith (.Call (.Attribute (.Name x p) "extend" apos) [e] [] cpos) none pos.line X.env = pure false := by rfl)
    (hbase : attributeBase (.Name x p) "extend" X.env (eval (.Name x p) X.env) = eval (.Name x p) X.env := by rfl)
    (hfew : ((backTo cpos (starEach [e] X.env)).all (fun x => !x.1) && (backToKw cpos (keywordEach [] X.env)).all (fun x => x.1.isSome)
      && decide (([e] : List Expr).length + ([] : List Keyword).length + (if ([] : List Keyword).isEmpty then 0 else 1) < 30)) = true := by rfl)
    (hline : (apos.endLine == cpos.line) = true := by rfl) (hst : starEach [e] X.env = (false, eval e X.env) :: starEach [] X.env := by rfl) (hplain : (backTo cpos (starEach [] X.env)).any (·.1) = false := by rfl) :
    PS X (.Expr (.Call (.Attribute (.Name x p) "extend" apos) [e] [] cpos) pos) (tS X.K W (gExt i z)) := ds_extend hN hv hd hcd he hs hbase hfew hline hst hplain
theorem sSetAt (i : Nat) {b : Expr} {spos : Pos} (he : PE X e (tZ X.K W za)) (hi : PE X b (tV X.K W zi)) (hN : X.N[i]? = some x := by rfl) (hv : Vis X.env.scope x := by first | exact Or.inl rfl | exact Or.inr (Or.inl rfl) | exact Or.inr (Or.inr rfl)) (hd : (x == ("__debug__" : Str)) = false := by decide) (hcd : (x == ("__classdict__" : Str)) = false := by decide)
    (ha : ∀ v, assign (.Subscript (.Name x p) b spos) X.env v = (do
      let ov ← holding [v] (eval (.Name x p) X.env)
      let iv ← holding [v, ov] (eval b X.env)
      standAt spos
      holding [v, ov, iv] (setItem ov iv v)
      release [v, ov, iv] []) := by intro _; rfl)
    (hs : swapsWithSole [.Subscript (.Name x p) b spos] e pos.line X.env = pure false := by rfl) (hw : swappedStores [.Subscript (.Name x p) b spos] e X.env = pure none := by rfl) (h1 : (assignEach [.Subscript (.Name x p) b spos] X.env).map (·.2) = [assign (.Subscript (.Name x p) b spos) X.env] := by rfl) :
    PS X (.Assign [.Subscript (.Name x p) b spos] e pos) (tS X.K W (gSetAt i za zi)) := ds_setAt hN hv hd hcd he hi ha hs hw h1
theorem sRetV (i : Nat) (hN : X.N[i]? = some x := by rfl) (hv : Vis X.env.scope x := by first | exact Or.inl rfl | exact Or.inr (Or.inl rfl) | exact Or.inr (Or.inr rfl)) (hd : (x == ("__debug__" : Str)) = false := by decide) (hcd : (x == ("__classdict__" : Str)) = false := by decide) :
    PS X (.Return (some (.Name x p)) pos) (tS X.K W (gRetV i)) := ds_retV hN hv hd hcd
theorem sExp (h : PE X e (tD X.K W g)) (hs : swapsWith e none pos.line X.env = pure false := by rfl) : PS X (.Expr e pos) (tS X.K W (gExp g)) := ds_expr h hs
theorem sFor (B : Body X k W) {tg iter : Expr} {s : DL} {gg : TG} {f : GT} {sl : List Nat} (hi : PI X tg iter (tI X.K W s)) (hg : PG X tg gg) (tk : TgOk X.K gg f sl) (hb : PSs X body (tS X.K W b)) (hs : ∀ x, foldedSetIterable iter X.env x = pure x := by intro _; rfl) :
    PS X (.For tg iter body [] pos) (tS X.K W (gFor s f b)) := ds_for B.own B.calm hi hg tk hb hs
theorem sWhl (B : Body X k W) {c : Expr} {tc : DT} (fuel : DSt → Nat) (hc : PT X c (tT X.K W tc)) (hb : PSs X body (tS X.K W b)) : PS X (.While c body [] pos) (tS X.K W (gWhile tc b fuel)) := ds_while B.own hc hb
/-! comprehensions -/
theorem lc {elt tg iter : Expr} {ifs : List Expr} {scope : Scope} (own : List (Str × Nat)) {s : DL} {gg : TG} {f : GT} {c : DT} {ze : DZ} {sl : List Nat} (hc : X.calm = true) (hN : X.N.Nodup) (hi : PI X tg iter (tI X.K W s)) (tk : TgOk X.K gg f sl)
    (hg : ∀ (s : Shared) (H : Hp) (C : Addr) (cl : List (Str × Addr)) (fp : List Addr), PG (X.blk s H scope (compEnvC scope cl C X.env) fp) tg gg) (ht : ∀ (s : Shared) (H : Hp) (C : Addr) (cl : List (Str × Addr)) (fp : List Addr), PTs (X.blk s H scope (compEnvC scope cl C X.env) fp) ifs (tT X.K W0 c))
    (he : ∀ (s : Shared) (H : Hp) (C : Addr) (cl : List (Str × Addr)) (fp : List Addr), PE (X.blk s H scope (compEnvC scope cl C X.env) fp) elt (tZ X.K W0 ze))
    (ok : blkC X.N X.env.scope scope own = true := by kernel_rfl) (hsl : ∀ j ∈ sl, j ∈ own.map (·.2) := by decide) (hs : ∀ x, foldedSetIterable iter X.env x = pure x := by intro _; rfl) :
    PE X (.ListComp elt [⟨tg, iter, ifs, 0⟩] scope pos) (tD X.K W (gLc s (own.map (·.2)) f c ze)) := de_lc hc hN hi (blkOk_by ok) tk hsl hg ht he hs
theorem sSetLc (i : Nat) {elt tg iter : Expr} {ifs : List Expr} {scope : Scope} {y : Str} {py spos : Pos} (own : List (Str × Nat)) {s : DL} {gg : TG} {f : GT} {c : DT} {ze : DZ} {sl : List Nat} (hc : X.calm = true) (hN : X.N.Nodup) (hi : PI X tg iter (tI X.K W s)) (tk : TgOk X.K gg f sl)
    (hg : ∀ (s : Shared) (H : Hp) (C : Addr) (cl : List (Str × Addr)) (fp : List Addr), PG (X.blk s H scope (compEnvC scope cl C X.env) fp) tg gg) (ht : ∀ (s : Shared) (H : Hp) (C : Addr) (cl : List (Str × Addr)) (fp : List Addr), PTs (X.blk s H scope (compEnvC scope cl C X.env) fp) ifs (tT X.K W0 c))
    (he : ∀ (s : Shared) (H : Hp) (C : Addr) (cl : List (Str × Addr)) (fp : List Addr), PE (X.blk s H scope (compEnvC scope cl C X.env) fp) elt (tZ X.K W0 ze))
    (hy : X.N[i]? = some y := by rfl) (hyl : X.env.scope.names.lookup y = some .local := by rfl) (hsw : swapsWith (.ListComp elt [⟨tg, iter, ifs, 0⟩] scope pos) (some (.Name y py)) spos.line X.env = pure true := by rfl)
    (ok : blkC X.N X.env.scope scope own = true := by kernel_rfl) (hsl : ∀ j ∈ sl, j ∈ own.map (·.2) := by decide) (hs : ∀ x, foldedSetIterable iter X.env x = pure x := by intro _; rfl) :
    PS X (.Assign [.Name y py] (.ListComp elt [⟨tg, iter, ifs, 0⟩] scope pos) spos) (tS X.K W (gSet i (gLc s (own.map (·.2)) f c ze))) := ds_setLc hc hN hy hyl hsw hi (blkOk_by ok) tk hsl hg ht he hs
/-! slices -/
theorem sli {lo hi : Option Expr} {gl gh : DP} {p2 : Pos} (he : PE X e (tV X.K W z)) (hl : PO X lo (tP X.K W gl)) (hu : PO X hi (tP X.K W gh)) : PE X (.Subscript e (.Slice lo hi none p2) pos) (tD X.K W (gSlice z gl gh)) := de_slice he hl hu
end
end Dn
end

section
set_option maxHeartbeats 4000000
-- Dn22
/-! Dn22: constants of the module, a minus, one class caught -/
namespace Dn
open PySem PySem.Spec L2
section
variable {X : Cx} {W : WX} {x : Str} {v : V} {d : D} {e : Expr} {z : DZ} {pos : Pos}
theorem gl (h : ∃ u, X.mg x = some u ∧ RelV v u) (hd : ∀ F r, Dat X.K F r d v) (hg : Gl X x := by rfl) (hdb : (x == ("__debug__" : Str)) = false := by decide) : PE X (.Name x pos) (tD X.K W (gC d)) := by
  obtain ⟨u, h1, h2⟩ := h
  exact de_glob hg h1 h2 hd hdb
def gNeg (z : DZ) : DE := fun st => (z st).bind fun d st => match d with
  | .int i => .ok (.sh (.int (-i))) st
  | _ => .no
theorem de_neg (he : PE X e (tV X.K W z)) : PE X (.UnaryOp .USub e pos) (tD X.K W (gNeg z)) := by
  refine PE.imp (pe_un un_neg he) fun σ H Q ⟨t, st, r, q⟩ => ?_
  refine tG_at r q fun t1 st1 H1 d v E1 R1 p1 q1 => ?_
  cases d with
  | int i => exact ⟨i, p1, q1 t1 H1 (.int (-i)) E1 R1 (by show Dat _ _ _ _ _; rw [Dat])⟩
  | _ => exact q1.elim
end
/-! {} -/
def gDict0 : DE := fun st => .ok (.ow (.dct [])) st
theorem de_dict0 {X : Cx} {W : WX} {pos : Pos} : PE X (.Dict [] [] pos) (tD X.K W gDict0) := PE.imp pe_dnewK fun σ H Q ⟨t, st, r, q⟩ => by
  intro p hp
  obtain ⟨E1, R1, n1⟩ := r.laid (o := .dK []) hp
  exact q t _ (.ref p) E1 R1 ⟨p, rfl, fun _ => hp, n1, [], upd_same, by rw [Datk]⟩
/-! a op b op c as a value -/
def tVal2 (ta : TE) (r1 : R2) (tb : TE) (r2 : R2) (tc : TE) : TE := fun σ H Q => ta σ H fun x H1 => tb σ H1 fun y H2 => r1 x y H2 fun z H3 => ∃ k, z = .bl k ∧ (if k = true then tc σ H3 fun u H4 => r2 y u H4 Q else Q (.bl false) H3)
theorem pe_cmp2 {X : Cx} {a b c : Expr} {o1 o2 : CmpOp} {ta tb tc : TE} {r1 r2 : R2} {pos : Pos} (h1 : OpR X (compareOp o1) r1) (h2 : OpR X (compareOp o2) r2) (ha : PE X a ta) (hb : PE X b tb) (hc : PE X c tc) (hm : lastMarks [o1, o2] [b, c] = false) : PE X (.Compare a [o1, o2] [b, c] pos) (tVal2 ta r1 tb r2 tc) := by
  refine ⟨fun pins s σ H Q I h => PyProof.Rows.Compare_chain ?_ hm⟩
  refine thn (ha.run pins s σ H _ I h) fun v s1 ⟨x, H1, I1, rx, q1⟩ => PyProof.Rows.chain_link ?_
  refine thn (hb.run pins s1 σ H1 _ I1 q1) fun u s2 ⟨y, H2, I2, ry, q2⟩ => ?_
  refine thn (h1 pins s2 σ H2 x y v u _ I2 rx ry q2) fun c1 s3 ⟨z, H3, I3, rz, k, ez, q3⟩ => ?_
  subst ez
  cases rz
  refine wpAny_truthy_bool ?_
  cases k with
  | false => exact ⟨.bl false, H3, I3, rfl, q3⟩
  | true => exact PyProof.Rows.chain_last (thn (hc.run pins s3 σ H3 _ I3 q3) fun w s4 ⟨u', H4, I4, ru, q4⟩ => h2 pins s4 σ H4 y u' u w Q I4 ry ru q4)
def gVal2 (f1 f2 : D → D → Option RV) (za zb zc : DZ) : DE := fun st => (za st).bind fun a st => (zb st).bind fun b st => match f1 a b with
  | some (.sh (.bl true)) => (zc st).bind fun c st => opt (f2 b c) st
  | some (.sh (.bl false)) => .ok (.sh (.bl false)) st
  | _ => .no
section
variable {X : Cx} {W : WX} {a b c : Expr} {za zb zc : DZ} {f1 f2 : D → D → Option RV} {o1 o2 : CmpOp} {pos : Pos}
theorem cmp2 (h1 : OpR X (compareOp o1) (rF X.K f1)) (h2 : OpR X (compareOp o2) (rF X.K f2)) (ha : PE X a (tV X.K W za)) (hb : PE X b (tV X.K W zb)) (hc : PE X c (tV X.K W zc)) (hm : lastMarks [o1, o2] [b, c] = false := by rfl) : PE X (.Compare a [o1, o2] [b, c] pos) (tD X.K W (gVal2 f1 f2 za zb zc)) := by
  refine PE.imp (pe_cmp2 h1 h2 ha hb hc hm) fun σ H Q ⟨t, st, r, q⟩ => ?_
  refine tG_at r q fun t1 st1 H1 x v E1 R1 p1 q1 => ?_
  refine tG_at R1 (Res.step0 E1 q1) fun t2 st2 H2 y u E2 R2 p2 q2 => ?_
  have p1 : Vw X.K t2 H2 x v := Vw.step E2 p1
  have q2 := Res.step0 E2 q2
  refine ⟨t2, x, y, R2.tagOk, p1, p2, ?_⟩
  split at q2
  · rename_i e1
    rw [e1]
    intro t3 H3 z G3 pz
    have R3 := G3.st _ _ R2
    have pz : Dat X.K (fz t3 H3) (rho t3) (.bl true) z := pz
    rw [Dat] at pz
    refine ⟨true, pz, ?_⟩
    rw [if_pos rfl]
    refine tG_at R3 (Res.step0 G3.ext q2) fun t4 st4 H4 w u4 E4 R4 p4 q4 => ?_
    exact ⟨t4, y, w, R4.tagOk, Vw.step (G3.ext.trans E4) p2, p4, res_opt R4 (Res.step0 E4 q4)⟩
  · rename_i e1
    rw [e1]
    intro t3 H3 z G3 pz
    have pz : Dat X.K (fz t3 H3) (rho t3) (.bl false) z := pz
    rw [Dat] at pz
    refine ⟨false, pz, ?_⟩
    rw [if_neg Bool.false_ne_true]
    exact q2 t3 H3 (.bl false) G3.ext (G3.st _ _ R2) (by show Dat _ _ _ _ _; rw [Dat])
  · exact q2.elim
end
def mt1 (cn : Str) : Mt := fun c => if c = cn then some true else none
theorem mt1_ok {K : PySem.W.Frag} {cn : Str} (h : PySem.W.exmOne K (.ref (He.ga K cn)) (.ref (He.ga K cn)) = some true) (c : Str) (b : Bool) (e : mt1 cn c = some b) : PySem.W.exmOne K (.ref (He.ga K c)) (.ref (He.ga K cn)) = some b := by
  unfold mt1 at e
  split at e
  · rename_i hc
    cases e
    rw [hc]; exact h
  · cases e
end Dn
end

section
set_option maxHeartbeats 4000000
-- Dn23
/-! Dn23: the head's facts for these texts: own exceptions too -/
namespace Dn
open PySem PySem.Spec L2 He
open PySem.W (Frag)
def oexB (K : Frag) (C : Addr) : Bool := match K.lookup C with
  | some ⟨.type "type", _, .cls cd, sl⟩ => (match cd.mro, sl.toList with
    | .ref C' :: bm, [_, _, _, _, some (.builtin n), _] => C' == C && (n == "ValueError.__new__" && (!cd.hasDel && (cd.hasDict && PySem.HandSPX.refsVE bm)))
    | _, _ => false)
  | _ => false
theorem oexB_ok {K : Frag} {C : Addr} (q : oexB K C = true) : ∃ nm q N bs bm sn sub ab col dd k0 k1 k2 k3 k5, K.lookup C = some (excClassObj nm q C N bs bm true sn sub ab col dd k0 k1 k2 k3 k5 "ValueError.__new__") ∧ PySem.HandSPX.refsVE bm = true := by
  unfold oexB at q
  split at q
  · rename_i dd cd sl ho
    split at q
    · rename_i C' bm k0 k1 k2 k3 n k5 hm hs
      simp only [Bool.and_eq_true, beq_iff_eq, Bool.not_eq_true'] at q
      obtain ⟨rfl, rfl, hdel, hdict, hv⟩ := q
      obtain ⟨nm, bs, mro, ns, qn, hd, sn, sub, ab, col, del⟩ := cd
      dsimp only at hm hdel hdict
      subst hm hdel hdict
      obtain ⟨l⟩ := sl
      dsimp only at hs
      subst hs
      exact ⟨nm, qn, ns, bs, bm, sn, sub, ab, col, dd, k0, k1, k2, k3, k5, ho, hv⟩
    · cases q
  · cases q
/-- all that is asked of the exception class C, whose __init__ is D's -/
def xclsB (K : Frag) (D C : Addr) : Bool := oexB K C && (eqO (PySem.W.findIn K (.ref C) "__setattr__") (some (some (.builtin "object.__setattr__"))) && (decide (PySem.W.subIn K (.ref C) (.type "BaseException") = some true) && (decide (PySem.W.typeIn K (.ref C) = some (.type "type")) && (PySem.W.keepIn K (.ref C) &&
  (eqO (PySem.W.ks_superIn K C D "__init__") (some (some (.builtin "ValueError.__init__"))) && ((PySem.W.clsIn K D).isSome && (decide (PySem.W.mroIn K C (.ref D) = some true) && (decide (PySem.W.subIn K (.ref C) (.type "ValueError") = some true) && (eqO (PySem.W.findIn K (.ref C) "value") (some none) &&
  (eqO (PySem.W.findIn K (.ref C) "__init__") (some (some (.ref (ma K D "__init__")))) && (xfB K C && decide (PySem.W.exmOne K (.ref C) (.ref C) = some true))))))))))))
theorem xclsB_ok {K : Frag} {D C : Addr} (h : xclsB K D C = true) : XCls K C D (ma K D "__init__") ∧ XfC K C ∧ PySem.W.exmOne K (.ref C) (.ref C) = some true := by
  obtain ⟨h1, h⟩ := ba h
  obtain ⟨h2, h⟩ := ba h
  obtain ⟨h3, h⟩ := ba h
  obtain ⟨h4, h⟩ := ba h
  obtain ⟨h5, h⟩ := ba h
  obtain ⟨h6, h⟩ := ba h
  obtain ⟨h7, h⟩ := ba h
  obtain ⟨h8, h⟩ := ba h
  obtain ⟨h9, h⟩ := ba h
  obtain ⟨h10, h⟩ := ba h
  obtain ⟨h11, h⟩ := ba h
  obtain ⟨h12, h13⟩ := ba h
  exact ⟨⟨⟨oexB_ok h1, eqO_ok h2, of_decide_eq_true h3, of_decide_eq_true h4, h5⟩, eqO_ok h6, h7, of_decide_eq_true h8, of_decide_eq_true h9, eqO_ok h10, eqO_ok h11⟩, xfB_ok h12, of_decide_eq_true h13⟩
/-! ### that __init__ -/
def iniB (P : Program) (K : Frag) (D : Addr) : Bool := match K.lookup (ma K D "__init__") with
  | some ⟨_, _, .func fd, _⟩ => (match fd.defaults, fd.closure, fd.code with
    | .none, [(n, cc)], .ref cda => n == ("__class__" : Str) && (PySem.W.codeIn K (.ref cda) fd.qualname && ((match K.lookup cc with
      | some ⟨_, _, .cell (some (.ref d)), _⟩ => d == D
      | _ => false) && (match K.lookup cda with
      | some ⟨_, _, .fields vs, _⟩ => (match (vs[2]? : Option Value) with
        | some (Value.str file _) => (P.main.file : Str) == file
        | _ => false)
      | _ => false)))
    | _, _, _ => false)
  | _ => false
abbrev IniW : Type := Option (Str × Str × Arguments × FuncBody × Scope × Addr × Addr)
def iniW (K : Frag) (D : Addr) : IniW := match K.lookup (ma K D "__init__") with
  | some ⟨_, _, .func fd, _⟩ => some (fd.name, fd.qualname, fd.params, fd.body, fd.scope, fd.globals, fd.builtins)
  | _ => none
/-- what the text says of it -/
structure IniT (name qual : Str) (params : Arguments) (body : List Stmt) (scope : Scope) : Prop where
  bind : ∀ (kV doc pm cdv ct : Value) (an : Option Addr) (cc : Addr) (e v : Value), bindArgs (PySem.W.ksFn name qual params body scope .none kV doc pm an cdv ct cc) ⟨[e, v], []⟩ = pure ([("self", e), ("value", v)] : List (Str × Value))
  cell : ∀ x ∈ scope.names, x.2 ≠ .cell
  co : scope.isCoroutine = false
  gen : scope.isGenerator = false
  kind : scope.kind = .function
  self : scope.names.lookup ("self" : Str) = some .local
  val : scope.names.lookup ("value" : Str) = some .local
  sup : scope.names.lookup ("super" : Str) = some .globalImplicit
  cls : scope.names.lookup ("__class__" : Str) = some .free
  head : ∃ ar, (params.posonlyargs ++ params.args).head? = some ar ∧ ar.arg = ("self" : Str)
  bod : ∃ p0 p1 p2 p3 p4 p5 p6 p7 p8 p9, body = [.Expr (.Call (.Attribute (.Call (.Name "super" p0) [] [] p1) "__init__" p2) [.Name "value" p3] [] p4) p5, .Assign [.Attribute (.Name "self" p6) "value" p7] (.Name "value" p8) p9] ∧ ∃ pl : Sem Bool, ∀ env : Env,
    eval (.Call (.Attribute (.Call (.Name "super" p0) [] [] p1) "__init__" p2) [.Name "value" p3] [] p4) env = (do
      let ov ← attributeBase (.Call (.Name "super" p0) [] [] p1) "__init__" env (eval (.Call (.Name "super" p0) [] [] p1) env)
      standAt p2.atName
      let (f, first) ← holding [ov] (getMethod ov "__init__" pl)
      callWith p4 f first (backTo p4 (starEach [.Name "value" p3] env)) [])
theorem ini_ok {P : Program} {K : Frag} {D : Addr} {name qual : Str} {params : Arguments} {body : List Stmt} {scope : Scope} (T : IniT name qual params body scope) (e : iniW K D = some (name, qual, params, .stmts body, scope, mainGlobals, builtinsNs)) (h : iniB P K D = true)
    (h2 : decide (PySem.W.typeIn K (.ref (ma K D "__init__")) = some (.type "function")) = true) (h3 : eqO (PySem.W.nsIn K cStatics "thirdparty.any") (some none) = true) (h4 : eqO (PySem.W.nsIn K mainGlobals "super") (some none) = true) (top : (P.main.scope.names.lookup ("super" : Str)).isSome = false) :
    XIni P K D (ma K D "__init__") body := by
  refine ⟨?_, of_decide_eq_true h2, eqO_ok h3, eqO_ok h4, top, T.bod⟩
  unfold iniW at e
  unfold iniB at h
  cases q : K.lookup (ma K D "__init__") with
  | none => rw [q] at h; cases h
  | some o =>
    obtain ⟨oc, od, dt, osl⟩ := o
    rw [q] at h e
    cases dt with
    | func fd =>
      obtain ⟨n1, n2, n3, n4, n5, n6, n7, n8, n9, n10, n11, n12, n13, n14, n15⟩ := fd
      have e2 : (some (n1, n2, n3, n4, n5, n6, n15) : IniW) = some (name, qual, params, .stmts body, scope, mainGlobals, builtinsNs) := e
      simp only [Option.some.injEq, Prod.mk.injEq] at e2
      obtain ⟨z1, z2, z3, z4, z5, z6, z8⟩ := e2
      subst z1 z2 z3 z4 z5 z6 z8
      dsimp only at h
      split at h
      · rename_i n cc cda
        obtain ⟨a1, h⟩ := ba h
        obtain ⟨a2, h⟩ := ba h
        obtain ⟨a3, a4⟩ := ba h
        have a1 : n = ("__class__" : Str) := eq_of_beq a1
        subst a1
        split at a3
        · rename_i cl cld d csl lc
          have a3 : d = D := eq_of_beq a3
          subst a3
          split at a4
          · rename_i ccl cdd vs ccs lcd
            split at a4
            · rename_i file tf hv
              exact ⟨oc, od, osl, _, _, _, _, _, n9, n10, n11, n12, cda, n14, cc, rfl, a2, fun e v s => .of_eq (T.bind ..), T.cell, T.co, T.gen, T.kind, T.self, T.val, T.sup, T.cls, T.head, ⟨ccl, cdd, vs, ccs, file, tf, lcd, hv, a4⟩, cl, cld, csl, lc⟩
            · cases a4
          · cases a4
        · cases a3
      · cases h
    | _ => cases h
/-! ### the hook -/
def asX (g : Addr → Option Obj) : Nat → List Addr
  | 0 => [mainGlobals, cStatics]
  | n + 1 => growD g (asX g n)
abbrev AlX : Type := Bool × List FnW × IniW
def obsX (fa : List Fa) (fx : List (Frag → Bool)) (fn : List DefD) (D : Str) (K : Frag) : AlX := ((fa.all fun f => f.ok K) && ((fx.all fun f => f K) && fn.all fun d => d.ok K), fn.map (fun d => fnW K d.at_), iniW K (ga K D))
def valX (fn : List DefD) (v : IniW) : AlX := (true, fn.map DefD.val, v)
def SaysX (fa : List Fa) (fx : List (Frag → Bool)) (fn : List DefD) (D : Str) (v : IniW) (K : Frag) : Prop := obsX fa fx fn D K = valX fn v
def obsXG (n : Nat) (fa : List Fa) (fx : List (Frag → Bool)) (fn : List DefD) (D : Str) (g : Addr → Option Obj) : AlX := obsX fa fx fn D (frG g (asX g n))
def hookX (n : Nat) (fa : List Fa) (fx : List (Frag → Bool)) (fn : List DefD) (D : Str) (v : IniW) : PySem.W.Hook where
  α := AlX
  obs := fun s => obsXG n fa fx fn D s.heap.get?
  val := fun _ => valX fn v
  says := fun _ h => ∃ K : Frag, K.In h ∧ SaysX fa fx fn D v K
  of := fun _ _ e => ⟨_, frG_in, e⟩
  keeps := fun _ _ _ ⟨K, hK, c⟩ k => ⟨K, Frag.In.keeps hK k, c⟩
theorem obsXG_eq {n : Nat} {fa : List Fa} {fx : List (Frag → Bool)} {fn : List DefD} {D : Str} {v : IniW} {g : Addr → Option Obj} {s : Shared} (h : ∀ a, g a = s.heap.get? a) : obsXG n fa fx fn D g = (hookX n fa fx fn D v).obs s := by
  obtain rfl : g = s.heap.get? := funext h
  rfl
section
variable {fa : List Fa} {fx : List (Frag → Bool)} {fn : List DefD} {D : Str} {v : IniW} {K : Frag}
theorem SaysX.fact (c : SaysX fa fx fn D v K) (i : Nat) {f : Fa} (h : fa[i]? = some f := by rfl) : f.ok K = true :=
  List.all_eq_true.mp (ba (show ((fa.all fun f => f.ok K) && ((fx.all fun f => f K) && fn.all fun d => d.ok K)) = true from congrArg (fun z : AlX => z.1) c)).1 f (List.mem_of_getElem? h)
theorem SaysX.xfact (c : SaysX fa fx fn D v K) (i : Nat) {f : Frag → Bool} (h : fx[i]? = some f := by rfl) : f K = true :=
  List.all_eq_true.mp (ba (ba (show ((fa.all fun f => f.ok K) && ((fx.all fun f => f K) && fn.all fun d => d.ok K)) = true from congrArg (fun z : AlX => z.1) c)).2).1 f (List.mem_of_getElem? h)
theorem SaysX.ini (c : SaysX fa fx fn D v K) : iniW K (ga K D) = v := congrArg (fun z : AlX => z.2.2) c
theorem SaysX.def_ (c : SaysX fa fx fn D v K) (i : Nat) {d : DefD} (h : fn[i]? = some d := by rfl) : ∃ fd, FunD K d.name d.qual d.params d.body d.scope (d.dvs K) (d.kws K) (fAd K d.at_) fd := by
  have c2 := (ba (ba (show ((fa.all fun f => f.ok K) && ((fx.all fun f => f K) && fn.all fun d => d.ok K)) = true from congrArg (fun z : AlX => z.1) c)).2).2
  have e : fn.map (fun d => fnW K d.at_) = fn.map DefD.val := congrArg (fun z : AlX => z.2.1) c
  have e2 : (fn.map fun d => fnW K d.at_)[i]? = (fn.map DefD.val)[i]? := by rw [e]
  rw [List.getElem?_map, List.getElem?_map, h] at e2
  exact DefD.funD (Option.some.inj e2) (List.all_eq_true.mp c2 d (List.mem_of_getElem? h))
end
end Dn
end

section
set_option maxHeartbeats 400000
-- G61
/-! printed by gen.py from the text of the law -/
namespace K61
open PySem PySem.Spec L2 Dn
abbrev top (i : Nat) : Stmt := PySem.Challenge.pw_treadplans_k61_pictures_as_texts.main.body.getD i (.Pass ⟨0, 0, 0, 0⟩)
def nbs : List Str := ["abs", "all", "enumerate", "int", "isinstance", "len", "list", "max", "min", "range", "repr", "str", "tuple"]
section
variable {P : Program} {w : World} {K : PySem.W.Frag} {mg : Str → Option Value} {base : Heap} {D fI : Addr} {bI : List Stmt}
def g_law_pot : DS := (gSeq (gSet 2 (gIf (gTest asB (frz (gBin ltD (gN 1) (frz (gCall lenD (gConsA (gN 0) gNilA)))))) (gBin ixD (gN 0) (gN 1)) (gBin addD (frz (gBin mulD (frz (gC (.int 31))) (gN 1))) (frz (gC (.int 17))))))
 (gSeq (gSet 3 (gBin mulD (frz (gBin modD (frz (gCall intD (gConsA (frz (gCall absD (gConsA (gN 2) gNilA))) gNilA))) (frz (gBin powD (frz (gBin powD (frz (gC (.int 10))) (frz (gC (.int 60))))) (frz (gC (.int 5))))))) (frz (gCall intD (gConsA (frz (gBin geD (frz (gCall absD (gConsA (gN 2) gNilA))) (frz (gBin powD (frz (gC (.int 10))) (frz (gC (.int 18))))))) gNilA)))))
 (gSeq (gSet 4 (gBin addD (frz (gBin addD (frz (gBin mulD (frz (gBin modD (frz (gCall intD (gConsA (gN 2) gNilA))) (frz (gC (.int 2305843009213693951))))) (frz (gC (.int 71011))))) (frz (gBin mulD (frz (gBin mulD (frz (gC (.int 6389))) (gN 1))) (gN 1))))) (frz (gC (.int 73)))))
 (gSeq (gRet (gLst (gConsA (frz (gV 3)) (gConsA (frz (gBin modD (frz (gCall intD (gConsA (gN 4) gNilA))) (frz (gC (.int 2305843009213693921))))) (gConsA (frz (gC (.int 0))) gNilA)))))
 gNil))))
def m__law_pot : Fm := fm (List.length (["script", "number", "cell", "own", "stirred"] : List Str)) g_law_pot
theorem ok__law_pot {f : Addr} {fd : FuncData} (F : FunD K "_law_pot" "_law_pot" (defArgs (top 20)) (defBody (top 20)) (defScope (top 20)) [] [] f fd) (hf : mg "_law_pot" = some (.ref f)) (nb : ∀ x : Str, x ∈ nbs → mg x = none) : Fn P w K mg base 1 "_law_pot" ["script", "number"] m__law_pot := by
  have S : FnScope ["script", "number", "cell", "own", "stirred"] ["script", "number"] (defScope (top 20)) := ⟨rfl, rfl, rfl, by decide +kernel, rfl, by decide +kernel, by decide +kernel⟩
  have hN := S.nd
  refine ⟨f, fd, hf, F.kp, F.bindsN (ps := ["script", "number"]) (fun _ _ _ _ _ _ us hl => match us, hl with | [_, _], _ => rfl), fnG_of (k := 0) (N := ["script", "number", "cell", "own", "stirred"]) (ps := ["script", "number"]) (g := g_law_pot) F S fun cdv A outer s H E W eW B => ?_⟩
  exact (dss_cons (sSet 2 hN (de_if (tst op_ltD (vN 1) (peV (cB cr_len (nb "len" (by decide)) (bC (vN 0) bN)))) (sub (vN 0) (vN 1)) (de_bin op_addD (peV (de_bin op_mulD (peV de_int) (vN 1))) (peV de_int))))
 (dss_cons (sSet 3 hN (de_bin op_mulD (peV (de_bin op_modD (peV (cT cr_int (nb "int" (by decide)) (bC (peV (cB cr_abs (nb "abs" (by decide)) (bC (vN 2) bN))) bN))) (peV (de_bin op_powD (peV (de_bin op_powD (peV de_int) (peV de_int))) (peV de_int))))) (peV (cT cr_int (nb "int" (by decide)) (bC (peV (cmp op_geD (peV (cB cr_abs (nb "abs" (by decide)) (bC (vN 2) bN))) (peV (de_bin op_powD (peV de_int) (peV de_int))))) bN)))))
 (dss_cons (sSet 4 hN (de_bin op_addD (peV (de_bin op_addD (peV (de_bin op_mulD (peV (de_bin op_modD (peV (cT cr_int (nb "int" (by decide)) (bC (vN 2) bN))) (peV de_int))) (peV de_int))) (peV (de_bin op_mulD (peV (de_bin op_mulD (peV de_int) (vN 1))) (vN 1))))) (peV de_int)))
 (dss_cons (ds_ret (de_lst (aC (peZ (eN 3)) (aC (peZ (de_bin op_modD (peV (cT cr_int (nb "int" (by decide)) (bC (vN 4) bN))) (peV de_int))) (aC (peZ de_int) aN)))))
 dss_nil))))
def g_law_take : DS := (gSeq (gIfS (gTest asB (frz (gBin gtD (frz (gCix (gN 0) (frz (gC (.int 0))))) (frz (gC (.int 0)))))) (gSeq (gSet 4 (gBin modD (frz (gCall intD (gConsA (frz (gCix (gN 0) (frz (gC (.int 0))))) gNilA))) (gN 1)))
 (gSeq (gSetAt 0 (frz (gBin fdivD (frz (gCix (gN 0) (frz (gC (.int 0))))) (gN 1))) (frz (gC (.int 0))))
 (gSeq (gRetV 4)
 gNil))) gNil)
 (gSeq (gSetAt 0 (frz (gBin addD (frz (gCix (gN 0) (frz (gC (.int 2))))) (frz (gC (.int 1))))) (frz (gC (.int 2))))
 (gSeq (gSet 2 (gBin ixD (frz (gLst (gConsA (frz (gC (.int 2147483647))) (gConsA (frz (gC (.int 2147483629))) (gConsA (frz (gC (.int 2147483587))) (gConsA (frz (gC (.int 2147483579))) (gConsA (frz (gC (.int 2147483563))) gNilA))))))) (frz (gBin modD (frz (gCall intD (gConsA (frz (gCix (gN 0) (frz (gC (.int 2))))) gNilA))) (frz (gC (.int 5)))))))
 (gSeq (gSet 3 (gBin modD (frz (gCall intD (gConsA (frz (gBin powD (frz (gCall intD (gConsA (frz (gBin addD (frz (gBin addD (frz (gCix (gN 0) (frz (gC (.int 1))))) (frz (gBin mulD (frz (gBin mulD (frz (gC (.int 100151))) (frz (gCix (gN 0) (frz (gC (.int 2))))))) (frz (gCix (gN 0) (frz (gC (.int 2))))))))) (frz (gC (.int 47))))) gNilA))) (frz (gC (.int 3))))) gNilA))) (gN 2)))
 (gSeq (gSet 3 (gBin modD (frz (gCall intD (gConsA (frz (gBin mulD (gN 3) (frz (gBin addD (frz (gBin modD (frz (gCall intD (gConsA (gN 3) gNilA))) (frz (gC (.int 10037))))) (frz (gBin mulD (frz (gC (.int 89))) (frz (gCix (gN 0) (frz (gC (.int 2))))))))))) gNilA))) (frz (gC (.int 2305843009213693907)))))
 (gSeq (gRet (gBin modD (frz (gCall intD (gConsA (frz (gBin fdivD (gN 3) (frz (gC (.int 127))))) gNilA))) (gN 1)))
 gNil))))))
def m__law_take : Fm := fm (List.length (["pot", "upto", "prime", "stirred", "digit"] : List Str)) g_law_take
theorem ok__law_take {f : Addr} {fd : FuncData} (F : FunD K "_law_take" "_law_take" (defArgs (top 21)) (defBody (top 21)) (defScope (top 21)) [] [] f fd) (hf : mg "_law_take" = some (.ref f)) (nb : ∀ x : Str, x ∈ nbs → mg x = none) : Fn P w K mg base 1 "_law_take" ["pot", "upto"] m__law_take := by
  have S : FnScope ["pot", "upto", "prime", "stirred", "digit"] ["pot", "upto"] (defScope (top 21)) := ⟨rfl, rfl, rfl, by decide +kernel, rfl, by decide +kernel, by decide +kernel⟩
  have hN := S.nd
  refine ⟨f, fd, hf, F.kp, F.bindsN (ps := ["pot", "upto"]) (fun _ _ _ _ _ _ us hl => match us, hl with | [_, _], _ => rfl), fnG_of (k := 0) (N := ["pot", "upto", "prime", "stirred", "digit"]) (ps := ["pot", "upto"]) (g := g_law_take) F S fun cdv A outer s H E W eW B => ?_⟩
  exact (dss_cons (ds_if (tst op_gtD (peV (cix (vN 0) (peV de_int))) (peV de_int)) (dss_cons (sSet 4 hN (de_bin op_modD (peV (cT cr_int (nb "int" (by decide)) (bC (peV (cix (vN 0) (peV de_int))) bN))) (vN 1)))
 (dss_cons (sSetAt 0 (peZ (de_bin op_fdivD (peV (cix (vN 0) (peV de_int))) (vN 1))) (peV de_int))
 (dss_cons (sRetV 4)
 dss_nil))) dss_nil)
 (dss_cons (sSetAt 0 (peZ (de_bin op_addD (peV (cix (vN 0) (peV de_int))) (peV de_int))) (peV de_int))
 (dss_cons (sSet 2 hN (sub (peV (de_lst (aC (peZ de_int) (aC (peZ de_int) (aC (peZ de_int) (aC (peZ de_int) (aC (peZ de_int) aN))))))) (peV (de_bin op_modD (peV (cT cr_int (nb "int" (by decide)) (bC (peV (cix (vN 0) (peV de_int))) bN))) (peV de_int)))))
 (dss_cons (sSet 3 hN (de_bin op_modD (peV (cT cr_int (nb "int" (by decide)) (bC (peV (de_bin op_powD (peV (cT cr_int (nb "int" (by decide)) (bC (peV (de_bin op_addD (peV (de_bin op_addD (peV (cix (vN 0) (peV de_int))) (peV (de_bin op_mulD (peV (de_bin op_mulD (peV de_int) (peV (cix (vN 0) (peV de_int))))) (peV (cix (vN 0) (peV de_int))))))) (peV de_int))) bN))) (peV de_int))) bN))) (vN 2)))
 (dss_cons (sSet 3 hN (de_bin op_modD (peV (cT cr_int (nb "int" (by decide)) (bC (peV (de_bin op_mulD (vN 3) (peV (de_bin op_addD (peV (de_bin op_modD (peV (cT cr_int (nb "int" (by decide)) (bC (vN 3) bN))) (peV de_int))) (peV (de_bin op_mulD (peV de_int) (peV (cix (vN 0) (peV de_int))))))))) bN))) (peV de_int)))
 (dss_cons (ds_ret (de_bin op_modD (peV (cT cr_int (nb "int" (by decide)) (bC (peV (de_bin op_fdivD (vN 3) (peV de_int))) bN))) (vN 1)))
 dss_nil))))))
def g_law_of : DS := (gSeq (gRet (gBin ixD (gN 1) (frz (gFn m__law_take (gLen 2 (gConsA (frz (gV 0)) (gConsA (frz (gCall lenD (gConsA (gN 1) gNilA))) gNilA)))))))
 gNil)
def m__law_of : Fm := fm (List.length (["pot", "some"] : List Str)) g_law_of
theorem ok__law_of {f : Addr} {fd : FuncData} (F : FunD K "_law_of" "_law_of" (defArgs (top 22)) (defBody (top 22)) (defScope (top 22)) [] [] f fd) (hf : mg "_law_of" = some (.ref f)) (G__law_take : Fn P w K mg base 1 "_law_take" ["pot", "upto"] m__law_take) (nb : ∀ x : Str, x ∈ nbs → mg x = none) : Fn P w K mg base 2 "_law_of" ["pot", "some"] m__law_of := by
  have S : FnScope ["pot", "some"] ["pot", "some"] (defScope (top 22)) := ⟨rfl, rfl, rfl, by decide +kernel, rfl, by decide +kernel, by decide +kernel⟩
  have hN := S.nd
  refine ⟨f, fd, hf, F.kp, F.bindsN (ps := ["pot", "some"]) (fun _ _ _ _ _ _ us hl => match us, hl with | [_, _], _ => rfl), fnG_of (k := 1) (N := ["pot", "some"]) (ps := ["pot", "some"]) (g := g_law_of) F S fun cdv A outer s H E W eW B => ?_⟩
  exact (dss_cons (ds_ret (sub (vN 1) (peV (cF G__law_take B.cal (aC (peZ (eN 0)) (aC (peZ (cB cr_len (nb "len" (by decide)) (bC (vN 1) bN))) aN))))))
 dss_nil)
def g_law_drawn : DS := (gSeq (gTgt (frz (gTup (gConsA (frz (gBin addD (frz (gC (.int 1))) (frz (gFn m__law_take (gLen 2 (gConsA (frz (gV 0)) (gConsA (frz (gC (.int 7))) gNilA))))))) (gConsA (frz (gBin addD (frz (gC (.int 1))) (frz (gFn m__law_take (gLen 2 (gConsA (frz (gV 0)) (gConsA (frz (gC (.int 7))) gNilA))))))) gNilA)))) (fTup 2 (fCons (fName 2) (fCons (fName 3) fNil))))
 (gSeq (gSet 1 (gLst (gConsA (frz (gC (.str "red"))) (gConsA (frz (gC (.str "blue"))) (gConsA (frz (gC (.str "a"))) (gConsA (frz (gC (.str "zzzzzzzz"))) (gConsA (frz (gC .non)) (gConsA (frz (gC .non)) gNilA))))))))
 (gSeq (gRet (gCall tupleD (gConsA (frz (gLc (gRng1 (gConsA (gN 2) gNilA)) [4] (fName 4) gYes (frz (gCall tupleD (gConsA (frz (gLc (gRng1 (gConsA (gN 3) gNilA)) [5] (fName 5) gYes (frz (gFn m__law_of (gLen 2 (gConsA (frz (gV 0)) (gConsA (frz (gV 1)) gNilA))))))) gNilA))))) gNilA)))
 gNil)))
def m__law_drawn : Fm := fm (List.length (["pot", "names", "tall", "wide", "row", "spot"] : List Str)) g_law_drawn
theorem ok__law_drawn {f : Addr} {fd : FuncData} (F : FunD K "_law_drawn" "_law_drawn" (defArgs (top 23)) (defBody (top 23)) (defScope (top 23)) [] [] f fd) (hf : mg "_law_drawn" = some (.ref f)) (G__law_take : Fn P w K mg base 1 "_law_take" ["pot", "upto"] m__law_take) (G__law_of : Fn P w K mg base 2 "_law_of" ["pot", "some"] m__law_of) (nb : ∀ x : Str, x ∈ nbs → mg x = none) : Fn P w K mg base 3 "_law_drawn" ["pot"] m__law_drawn := by
  have S : FnScope ["pot", "names", "tall", "wide", "row", "spot"] ["pot"] (defScope (top 23)) := ⟨rfl, rfl, rfl, by decide +kernel, rfl, by decide +kernel, by decide +kernel⟩
  have hN := S.nd
  refine ⟨f, fd, hf, F.kp, F.bindsN (ps := ["pot"]) (fun _ _ _ _ _ _ us hl => match us, hl with | [_], _ => rfl), fnG_of (k := 2) (N := ["pot", "names", "tall", "wide", "row", "spot"]) (ps := ["pot"]) (g := g_law_drawn) F S fun cdv A outer s H E W eW B => ?_⟩
  exact (dss_cons (sAsg (peZ (de_tup (aC (peZ (de_bin op_addD (peV de_int) (peV (cF G__law_take B.cal (aC (peZ (eN 0)) (aC (peZ de_int) aN)))))) (aC (peZ (de_bin op_addD (peV de_int) (peV (cF G__law_take B.cal (aC (peZ (eN 0)) (aC (peZ de_int) aN)))))) aN)))) (pg_tup rfl (pgs_cons (gNm 2 hN) (pgs_cons (gNm 3 hN) pgs_nil))) (tg_tup (tgs_cons tg_name (tgs_cons tg_name tgs_nil))))
 (dss_cons (sSet 1 hN (de_lst (aC (peZ de_str) (aC (peZ de_str) (aC (peZ de_str) (aC (peZ de_str) (aC (peZ de_non) (aC (peZ de_non) aN))))))))
 (dss_cons (ds_ret (cT cr_tuple (nb "tuple" (by decide)) (bC (peV (lc [("row", 4)] rfl hN (rn1 (nb "range" (by decide)) (bC (vN 2) bN)) tg_name (fun s1 H1 C1 cl1 fp1 => (gNm 4 hN)) (fun s1 H1 C1 cl1 fp1 => dts_nil) (fun s1 H1 C1 cl1 fp1 => (peZ (cT cr_tuple (nb "tuple" (by decide)) (bC (peV (lc [("spot", 5)] rfl hN (rn1 (nb "range" (by decide)) (bC (vN 3) bN)) tg_name (fun s2 H2 C2 cl2 fp2 => (gNm 5 hN)) (fun s2 H2 C2 cl2 fp2 => dts_nil) (fun s2 H2 C2 cl2 fp2 => (peZ (cF G__law_of ((B.cal.blk s1 H1 _ _ fp1).blk s2 H2 _ _ fp2) (aC (peZ (eN 0)) (aC (peZ (eN 1)) aN))))))) bN)))))) bN)))
 dss_nil)))
def g_law_lines_of : DS := (gSeq (gRet (gLc (gI asTu (gV 0)) [1] (fName 1) gYes (frz (gM1 joinD (frz (gC (.str " "))) (frz (gLc (gI asTu (gV 1)) [2] (fName 2) gYes (frz (gIf (gTest asB (frz (gBin isND (gN 2) (frz (gC .non))))) (gC (.str "-")) (gV 2)))))))))
 gNil)
def m__law_lines_of : Fm := fm (List.length (["picture", "row", "colour"] : List Str)) g_law_lines_of
theorem ok__law_lines_of {f : Addr} {fd : FuncData} (F : FunD K "_law_lines_of" "_law_lines_of" (defArgs (top 28)) (defBody (top 28)) (defScope (top 28)) [] [] f fd) (hf : mg "_law_lines_of" = some (.ref f)) : Fn P w K mg base 1 "_law_lines_of" ["picture"] m__law_lines_of := by
  have S : FnScope ["picture", "row", "colour"] ["picture"] (defScope (top 28)) := ⟨rfl, rfl, rfl, by decide +kernel, rfl, by decide +kernel, by decide +kernel⟩
  have hN := S.nd
  refine ⟨f, fd, hf, F.kp, F.bindsN (ps := ["picture"]) (fun _ _ _ _ _ _ us hl => match us, hl with | [_], _ => rfl), fnG_of (k := 0) (N := ["picture", "row", "colour"]) (ps := ["picture"]) (g := g_law_lines_of) F S fun cdv A outer s H E W eW B => ?_⟩
  exact (dss_cons (ds_ret (lc [("row", 1)] rfl hN (di_tup (eN 0)) tg_name (fun s1 H1 C1 cl1 fp1 => (gNm 1 hN)) (fun s1 H1 C1 cl1 fp1 => dts_nil) (fun s1 H1 C1 cl1 fp1 => (peZ (joi (peV de_str) (peV (lc [("colour", 2)] rfl hN (di_tup (eN 1)) tg_name (fun s2 H2 C2 cl2 fp2 => (gNm 2 hN)) (fun s2 H2 C2 cl2 fp2 => dts_nil) (fun s2 H2 C2 cl2 fp2 => (peZ (de_if (tst op_isND (vN 2) (peV de_non)) de_str (eN 2)))))))))))
 dss_nil)
def g_law_bent_lines : DS := (gSeq (gPar 5 6 (gConsA (frz (gFn m__law_take (gLen 2 (gConsA (frz (gV 0)) (gConsA (frz (gC (.int 8))) gNilA))))) (gConsA (frz (gFn m__law_take (gLen 2 (gConsA (frz (gV 0)) (gConsA (frz (gCall lenD (gConsA (gN 1) gNilA))) gNilA))))) gNilA)))
 (gSeq (gSet 2 (gBin ixD (gN 1) (gN 6)))
 (gSeq (gIfS (gTest asB (frz (gBin eqD (gN 5) (frz (gC (.int 0)))))) (gSeq (gRet (gBin addD (frz (gBin addD (frz (gSlice (gN 1) gNoPart (gPart (gN 6)))) (frz (gLst (gConsA (frz (gV 2)) gNilA))))) (frz (gSlice (gN 1) (gPart (gN 6)) gNoPart))))
 gNil) gNil)
 (gSeq (gIfS (gTest asB (frz (gBin eqD (gN 5) (frz (gC (.int 1)))))) (gSeq (gRet (gBin addD (gN 1) (frz (gLst (gConsA (frz (gFn m__law_of (gLen 2 (gConsA (frz (gV 0)) (gConsA (frz (gLst (gConsA (frz (gC (.str ""))) (gConsA (frz (gV 2)) (gConsA (frz (gC (.str "-"))) (gConsA (frz (gC (.str " "))) gNilA)))))) gNilA))))) gNilA)))))
 gNil) gNil)
 (gSeq (gIfS (gAnds (gTest asB (frz (gBin eqD (gN 5) (frz (gC (.int 2)))))) [(gTest asB (frz (gBin gtD (frz (gCall lenD (gConsA (gN 1) gNilA))) (frz (gC (.int 1))))))]) (gSeq (gRet (gBin addD (frz (gSlice (gN 1) gNoPart (gPart (gN 6)))) (frz (gSlice (gN 1) (gPart (frz (gBin addD (gN 6) (frz (gC (.int 1)))))) gNoPart))))
 gNil) gNil)
 (gSeq (gIfS (gTest asB (frz (gBin eqD (gN 5) (frz (gC (.int 3)))))) (gSeq (gRet (gBin addD (frz (gBin addD (frz (gSlice (gN 1) gNoPart (gPart (gN 6)))) (frz (gLst (gConsA (frz (gBin addD (gN 2) (frz (gFn m__law_of (gLen 2 (gConsA (frz (gV 0)) (gConsA (frz (gLst (gConsA (frz (gC (.str " -"))) (gConsA (frz (gC (.str " red"))) (gConsA (frz (gC (.str " "))) (gConsA (frz (gC (.str " A"))) (gConsA (frz (gC (.str " aaaaaaaaa"))) gNilA))))))) gNilA))))))) gNilA))))) (frz (gSlice (gN 1) (gPart (frz (gBin addD (gN 6) (frz (gC (.int 1)))))) gNoPart))))
 gNil) gNil)
 (gSeq (gSet 3 (gFn m__law_take (gLen 2 (gConsA (frz (gV 0)) (gConsA (frz (gBin addD (frz (gCall lenD (gConsA (gN 2) gNilA))) (frz (gC (.int 1))))) gNilA)))))
 (gSeq (gSet 4 (gFn m__law_of (gLen 2 (gConsA (frz (gV 0)) (gConsA (frz (gLst (gConsA (frz (gC (.str " "))) (gConsA (frz (gC (.str "-"))) (gConsA (frz (gC (.str "a"))) (gConsA (frz (gC (.str "A"))) (gConsA (frz (gC (.str "0"))) (gConsA (frz (gC (.str ""))) gNilA)))))))) gNilA)))))
 (gSeq (gRet (gBin addD (frz (gBin addD (frz (gSlice (gN 1) gNoPart (gPart (gN 6)))) (frz (gLst (gConsA (frz (gBin addD (frz (gBin addD (frz (gSlice (gN 2) gNoPart (gPart (gN 3)))) (gN 4))) (frz (gSlice (gN 2) (gPart (frz (gBin addD (gN 3) (frz (gFn m__law_take (gLen 2 (gConsA (frz (gV 0)) (gConsA (frz (gC (.int 2))) gNilA)))))))) gNoPart)))) gNilA))))) (frz (gSlice (gN 1) (gPart (frz (gBin addD (gN 6) (frz (gC (.int 1)))))) gNoPart))))
 gNil)))))))))
def m__law_bent_lines : Fm := fm (List.length (["pot", "lines", "line", "spot", "sign", "way", "at"] : List Str)) g_law_bent_lines
theorem ok__law_bent_lines {f : Addr} {fd : FuncData} (F : FunD K "_law_bent_lines" "_law_bent_lines" (defArgs (top 26)) (defBody (top 26)) (defScope (top 26)) [] [] f fd) (hf : mg "_law_bent_lines" = some (.ref f)) (G__law_take : Fn P w K mg base 1 "_law_take" ["pot", "upto"] m__law_take) (G__law_of : Fn P w K mg base 2 "_law_of" ["pot", "some"] m__law_of) (nb : ∀ x : Str, x ∈ nbs → mg x = none) : Fn P w K mg base 3 "_law_bent_lines" ["pot", "lines"] m__law_bent_lines := by
  have S : FnScope ["pot", "lines", "line", "spot", "sign", "way", "at"] ["pot", "lines"] (defScope (top 26)) := ⟨rfl, rfl, rfl, by decide +kernel, rfl, by decide +kernel, by decide +kernel⟩
  have hN := S.nd
  refine ⟨f, fd, hf, F.kp, F.bindsN (ps := ["pot", "lines"]) (fun _ _ _ _ _ _ us hl => match us, hl with | [_, _], _ => rfl), fnG_of (k := 2) (N := ["pot", "lines", "line", "spot", "sign", "way", "at"]) (ps := ["pot", "lines"]) (g := g_law_bent_lines) F S fun cdv A outer s H E W eW B => ?_⟩
  exact (dss_cons (sPar 5 6 rfl hN (aC (peZ (cF G__law_take B.cal (aC (peZ (eN 0)) (aC (peZ de_int) aN)))) (aC (peZ (cF G__law_take B.cal (aC (peZ (eN 0)) (aC (peZ (cB cr_len (nb "len" (by decide)) (bC (vN 1) bN))) aN)))) aN)))
 (dss_cons (sSet 2 hN (sub (vN 1) (vN 6)))
 (dss_cons (ds_if (tst (op_eqDD B.cal.hu) (vN 5) (peV de_int)) (dss_cons (ds_ret (de_bin op_addD (peV (de_bin op_addD (peV (sli (vN 1) dp_none (dp_some (vN 6)))) (peV (de_lst (aC (peZ (eN 2)) aN))))) (peV (sli (vN 1) (dp_some (vN 6)) dp_none))))
 dss_nil) dss_nil)
 (dss_cons (ds_if (tst (op_eqDD B.cal.hu) (vN 5) (peV de_int)) (dss_cons (ds_ret (de_bin op_addD (vN 1) (peV (de_lst (aC (peZ (cF G__law_of B.cal (aC (peZ (eN 0)) (aC (peZ (de_lst (aC (peZ de_str) (aC (peZ (eN 2)) (aC (peZ de_str) (aC (peZ de_str) aN)))))) aN)))) aN)))))
 dss_nil) dss_nil)
 (dss_cons (ds_if (dw_ands (tst (op_eqDD B.cal.hu) (vN 5) (peV de_int)) (.cons (tst op_gtD (peV (cB cr_len (nb "len" (by decide)) (bC (vN 1) bN))) (peV de_int)) .nil)).pt (dss_cons (ds_ret (de_bin op_addD (peV (sli (vN 1) dp_none (dp_some (vN 6)))) (peV (sli (vN 1) (dp_some (peV (de_bin op_addD (vN 6) (peV de_int)))) dp_none))))
 dss_nil) dss_nil)
 (dss_cons (ds_if (tst (op_eqDD B.cal.hu) (vN 5) (peV de_int)) (dss_cons (ds_ret (de_bin op_addD (peV (de_bin op_addD (peV (sli (vN 1) dp_none (dp_some (vN 6)))) (peV (de_lst (aC (peZ (de_bin op_addD (vN 2) (peV (cF G__law_of B.cal (aC (peZ (eN 0)) (aC (peZ (de_lst (aC (peZ de_str) (aC (peZ de_str) (aC (peZ de_str) (aC (peZ de_str) (aC (peZ de_str) aN))))))) aN)))))) aN))))) (peV (sli (vN 1) (dp_some (peV (de_bin op_addD (vN 6) (peV de_int)))) dp_none))))
 dss_nil) dss_nil)
 (dss_cons (sSet 3 hN (cF G__law_take B.cal (aC (peZ (eN 0)) (aC (peZ (de_bin op_addD (peV (cB cr_len (nb "len" (by decide)) (bC (vN 2) bN))) (peV de_int))) aN))))
 (dss_cons (sSet 4 hN (cF G__law_of B.cal (aC (peZ (eN 0)) (aC (peZ (de_lst (aC (peZ de_str) (aC (peZ de_str) (aC (peZ de_str) (aC (peZ de_str) (aC (peZ de_str) (aC (peZ de_str) aN)))))))) aN))))
 (dss_cons (ds_ret (de_bin op_addD (peV (de_bin op_addD (peV (sli (vN 1) dp_none (dp_some (vN 6)))) (peV (de_lst (aC (peZ (de_bin op_addD (peV (de_bin op_addD (peV (sli (vN 2) dp_none (dp_some (vN 3)))) (vN 4))) (peV (sli (vN 2) (dp_some (peV (de_bin op_addD (vN 3) (peV (cF G__law_take B.cal (aC (peZ (eN 0)) (aC (peZ de_int) aN))))))) dp_none)))) aN))))) (peV (sli (vN 1) (dp_some (peV (de_bin op_addD (vN 6) (peV de_int)))) dp_none))))
 dss_nil)))))))))
def g_law_is_colour : DS := (gSeq (gRet (gOrL (gBin eqD (gN 0) (frz (gC (.str "-")))) [(gAndL (gVal2 leD leD (frz (gC (.int 1))) (frz (gCall lenD (gConsA (gN 0) gNilA))) (frz (gC (.int 8)))) [(gCall allD (gConsA (frz (gLc (gI asSt (gV 0)) [1] (fName 1) gYes (frz (gBin inD (gN 1) (frz (gC (.str "abcdefghijklmnopqrstuvwxyz"))))))) gNilA))])]))
 gNil)
def m__law_is_colour : Fm := fm (List.length (["word", "sign"] : List Str)) g_law_is_colour
theorem ok__law_is_colour {f : Addr} {fd : FuncData} (F : FunD K "_law_is_colour" "_law_is_colour" (defArgs (top 24)) (defBody (top 24)) (defScope (top 24)) [] [] f fd) (hf : mg "_law_is_colour" = some (.ref f)) (nb : ∀ x : Str, x ∈ nbs → mg x = none) : Fn P w K mg base 1 "_law_is_colour" ["word"] m__law_is_colour := by
  have S : FnScope ["word", "sign"] ["word"] (defScope (top 24)) := ⟨rfl, rfl, rfl, by decide +kernel, rfl, by decide +kernel, by decide +kernel⟩
  have hN := S.nd
  refine ⟨f, fd, hf, F.kp, F.bindsN (ps := ["word"]) (fun _ _ _ _ _ _ us hl => match us, hl with | [_], _ => rfl), fnG_of (k := 0) (N := ["word", "sign"]) (ps := ["word"]) (g := g_law_is_colour) F S fun cdv A outer s H E W eW B => ?_⟩
  exact (dss_cons (ds_ret (de_ors (cmp (op_eqDD B.cal.hu) (vN 0) (peV de_str)) (.cons (de_ands (cmp2 op_leD op_leD (peV de_int) (peV (cB cr_len (nb "len" (by decide)) (bC (vN 0) bN))) (peV de_int)) (.cons (cB (cr_allD B.cal.calm) (nb "all" (by decide)) (bC (peV (lc [("sign", 1)] rfl hN (di_str (eN 0)) tg_name (fun s1 H1 C1 cl1 fp1 => (gNm 1 hN)) (fun s1 H1 C1 cl1 fp1 => dts_nil) (fun s1 H1 C1 cl1 fp1 => (peZ (cmp op_inD (vN 1) (peV de_str)))))) bN)) .nil)) .nil)))
 dss_nil)
def g_law_due : DS := (gSeq (gSet 1 (gCall lenD (gConsA (frz (gM1 splitD (frz (gBin ixD (gN 0) (frz (gC (.int 0))))) (frz (gC (.str " "))))) gNilA)))
 (gSeq (gFor (gEnum (gConsA (frz (gV 0)) gNilA)) (fTup 2 (fCons (fName 2) (fCons (fName 3) fNil))) (gSeq (gSet 4 (gM1 splitD (gN 3) (frz (gC (.str " ")))))
 (gSeq (gIfS (gOrs (gTest asB (frz (gBin gtD (gN 2) (frz (gC (.int 6)))))) [(gTest asB (frz (gBin neD (frz (gCall lenD (gConsA (gN 4) gNilA))) (gN 1)))), (gTest asB (frz (gBin gtD (gN 1) (frz (gC (.int 7)))))), (gNotT (gTest truD (frz (gCall allD (gConsA (frz (gLc (gI asL (gV 4)) [5] (fName 5) gYes (frz (gFn m__law_is_colour (gLen 1 (gConsA (frz (gV 5)) gNilA)))))) gNilA)))))]) (gSeq (gRet (gBin addD (gN 2) (frz (gC (.int 1)))))
 gNil) gNil)
 gNil)))
 (gSeq (gRet (gC (.int 0)))
 gNil)))
def m__law_due : Fm := fm (List.length (["lines", "many", "number", "line", "words", "word"] : List Str)) g_law_due
theorem ok__law_due {f : Addr} {fd : FuncData} (F : FunD K "_law_due" "_law_due" (defArgs (top 25)) (defBody (top 25)) (defScope (top 25)) [] [] f fd) (hf : mg "_law_due" = some (.ref f)) (G__law_is_colour : Fn P w K mg base 1 "_law_is_colour" ["word"] m__law_is_colour) (nb : ∀ x : Str, x ∈ nbs → mg x = none) : Fn P w K mg base 2 "_law_due" ["lines"] m__law_due := by
  have S : FnScope ["lines", "many", "number", "line", "words", "word"] ["lines"] (defScope (top 25)) := ⟨rfl, rfl, rfl, by decide +kernel, rfl, by decide +kernel, by decide +kernel⟩
  have hN := S.nd
  refine ⟨f, fd, hf, F.kp, F.bindsN (ps := ["lines"]) (fun _ _ _ _ _ _ us hl => match us, hl with | [_], _ => rfl), fnG_of (k := 1) (N := ["lines", "many", "number", "line", "words", "word"]) (ps := ["lines"]) (g := g_law_due) F S fun cdv A outer s H E W eW B => ?_⟩
  exact (dss_cons (sSet 1 hN (cB cr_len (nb "len" (by decide)) (bC (peV (spl (peV (sub (vN 0) (peV de_int))) (peV de_str))) bN)))
 (dss_cons (sFor B (enu (nb "enumerate" (by decide)) (aC (peZ (eN 0)) aN)) (pg_tup rfl (pgs_cons (gNm 2 hN) (pgs_cons (gNm 3 hN) pgs_nil))) (tg_tup (tgs_cons tg_name (tgs_cons tg_name tgs_nil))) (dss_cons (sSet 4 hN (spl (vN 3) (peV de_str)))
 (dss_cons (ds_if (dw_ors (tst op_gtD (vN 2) (peV de_int)) (.cons (tst (op_neDD B.cal.hu) (peV (cB cr_len (nb "len" (by decide)) (bC (vN 4) bN))) (vN 1)) (.cons (tst op_gtD (vN 1) (peV de_int)) (.cons (dt_not (tru (peV (cB (cr_allD B.cal.calm) (nb "all" (by decide)) (bC (peV (lc [("word", 5)] rfl hN (di_list (eN 4)) tg_name (fun s1 H1 C1 cl1 fp1 => (gNm 5 hN)) (fun s1 H1 C1 cl1 fp1 => dts_nil) (fun s1 H1 C1 cl1 fp1 => (peZ (cF G__law_is_colour (B.cal.blk s1 H1 _ _ fp1) (aC (peZ (eN 5)) aN)))))) bN))))) .nil)))).pt (dss_cons (ds_ret (de_bin op_addD (vN 2) (peV de_int)))
 dss_nil) dss_nil)
 dss_nil)))
 (dss_cons (ds_ret de_int)
 dss_nil)))
def gis_name : DS := (gSeq (gIfS (gOrs (gNotT (gTest truD (frz (gIsi "str" (gN 0))))) [(gNotT (gCmp2 leD leD (frz (gC (.int 1))) (frz (gCall lenD (gConsA (gN 0) gNilA))) (frz (gC (.int 8)))))]) (gSeq (gRet (gC (.bl false)))
 gNil) gNil)
 (gSeq (gRet (gCall allD (gConsA (frz (gLc (gI asSt (gV 0)) [1] (fName 1) gYes (frz (gBin inD (gN 1) (frz (gC (.str "abcdefghijklmnopqrstuvwxyz"))))))) gNilA)))
 gNil))
def m_is_name : Fm := fm (List.length (["value", "letter"] : List Str)) gis_name
theorem ok_is_name {f : Addr} {fd : FuncData} (F : FunD K "is_name" "is_name" (defArgs (top 7)) (defBody (top 7)) (defScope (top 7)) [] [] f fd) (hf : mg "is_name" = some (.ref f)) (nb : ∀ x : Str, x ∈ nbs → mg x = none) (c_LETTERS : ∃ u, mg "LETTERS" = some u ∧ RelV (.str "abcdefghijklmnopqrstuvwxyz" : V) u) (c_MOST_LETTERS : ∃ u, mg "MOST_LETTERS" = some u ∧ RelV (.int 8 : V) u) : Fn P w K mg base 1 "is_name" ["value"] m_is_name := by
  have S : FnScope ["value", "letter"] ["value"] (defScope (top 7)) := ⟨rfl, rfl, rfl, by decide +kernel, rfl, by decide +kernel, by decide +kernel⟩
  have hN := S.nd
  refine ⟨f, fd, hf, F.kp, F.bindsN (ps := ["value"]) (fun _ _ _ _ _ _ us hl => match us, hl with | [_], _ => rfl), fnG_of (k := 0) (N := ["value", "letter"]) (ps := ["value"]) (g := gis_name) F S fun cdv A outer s H E W eW B => ?_⟩
  exact (dss_cons (ds_if (dw_ors (dt_not (tru (peV (isi (T := "str") (by decide) (vN 0) (nb "isinstance" (by decide)) (nb "str" (by decide)))))) (.cons (dt_not (tst2 op_leD op_leD (peV de_int) (peV (cB cr_len (nb "len" (by decide)) (bC (vN 0) bN))) (peV (gl c_MOST_LETTERS (fun _ _ => by rw [Dat]))))) .nil)).pt (dss_cons (ds_ret de_bl)
 dss_nil) dss_nil)
 (dss_cons (ds_ret (cB (cr_allD B.cal.calm) (nb "all" (by decide)) (bC (peV (lc [("letter", 1)] rfl hN (di_str (eN 0)) tg_name (fun s1 H1 C1 cl1 fp1 => (gNm 1 hN)) (fun s1 H1 C1 cl1 fp1 => dts_nil) (fun s1 H1 C1 cl1 fp1 => (peZ (cmp op_inD (vN 1) (peV (gl c_LETTERS (fun _ _ => by rw [Dat])))))))) bN)))
 dss_nil))
def gcolours_in : DS := (gSeq (gSet 1 (gM1 splitD (gN 0) (frz (gC (.str " ")))))
 (gSeq (gIfS (gOrs (gTest asB (frz (gBin gtD (frz (gCall lenD (gConsA (gN 1) gNilA))) (frz (gC (.int 7)))))) [(gNotT (gTest truD (frz (gCall allD (gConsA (frz (gLc (gI asL (gV 1)) [2] (fName 2) gYes (frz (gOrL (gBin eqD (gN 2) (frz (gC (.str "-")))) [(gFn m_is_name (gLen 1 (gConsA (frz (gV 2)) gNilA)))])))) gNilA)))))]) (gSeq (gRet (gC .non))
 gNil) gNil)
 (gSeq (gRet (gCall tupleD (gConsA (frz (gLc (gI asL (gV 1)) [2] (fName 2) gYes (frz (gIf (gTest asB (frz (gBin eqD (gN 2) (frz (gC (.str "-")))))) (gC .non) (gV 2))))) gNilA)))
 gNil)))
def m_colours_in : Fm := fm (List.length (["line", "words", "word"] : List Str)) gcolours_in
theorem ok_colours_in {f : Addr} {fd : FuncData} (F : FunD K "colours_in" "colours_in" (defArgs (top 17)) (defBody (top 17)) (defScope (top 17)) [] [] f fd) (hf : mg "colours_in" = some (.ref f)) (G_is_name : Fn P w K mg base 1 "is_name" ["value"] m_is_name) (nb : ∀ x : Str, x ∈ nbs → mg x = none) (c_BLANK : ∃ u, mg "BLANK" = some u ∧ RelV (.str " " : V) u) (c_MOST_texts : ∃ u, mg "MOST_texts" = some u ∧ RelV (.int 7 : V) u) (c_UNKNOWN : ∃ u, mg "UNKNOWN" = some u ∧ RelV (.str "-" : V) u) : Fn P w K mg base 2 "colours_in" ["line"] m_colours_in := by
  have S : FnScope ["line", "words", "word"] ["line"] (defScope (top 17)) := ⟨rfl, rfl, rfl, by decide +kernel, rfl, by decide +kernel, by decide +kernel⟩
  have hN := S.nd
  refine ⟨f, fd, hf, F.kp, F.bindsN (ps := ["line"]) (fun _ _ _ _ _ _ us hl => match us, hl with | [_], _ => rfl), fnG_of (k := 1) (N := ["line", "words", "word"]) (ps := ["line"]) (g := gcolours_in) F S fun cdv A outer s H E W eW B => ?_⟩
  exact (dss_cons (sSet 1 hN (spl (vN 0) (peV (gl c_BLANK (fun _ _ => by rw [Dat])))))
 (dss_cons (ds_if (dw_ors (tst op_gtD (peV (cB cr_len (nb "len" (by decide)) (bC (vN 1) bN))) (peV (gl c_MOST_texts (fun _ _ => by rw [Dat])))) (.cons (dt_not (tru (peV (cB (cr_allD B.cal.calm) (nb "all" (by decide)) (bC (peV (lc [("word", 2)] rfl hN (di_list (eN 1)) tg_name (fun s2 H2 C2 cl2 fp2 => (gNm 2 hN)) (fun s2 H2 C2 cl2 fp2 => dts_nil) (fun s2 H2 C2 cl2 fp2 => (peZ (de_ors (cmp (op_eqDD (B.cal.blk s2 H2 _ _ fp2).hu) (vN 2) (peV (gl c_UNKNOWN (fun _ _ => by rw [Dat])))) (.cons (cF G_is_name (B.cal.blk s2 H2 _ _ fp2) (aC (peZ (eN 2)) aN)) .nil)))))) bN))))) .nil)).pt (dss_cons (ds_ret de_non)
 dss_nil) dss_nil)
 (dss_cons (ds_ret (cT cr_tuple (nb "tuple" (by decide)) (bC (peV (lc [("word", 2)] rfl hN (di_list (eN 1)) tg_name (fun s1 H1 C1 cl1 fp1 => (gNm 2 hN)) (fun s1 H1 C1 cl1 fp1 => dts_nil) (fun s1 H1 C1 cl1 fp1 => (peZ (de_if (tst (op_eqDD (B.cal.blk s1 H1 _ _ fp1).hu) (vN 2) (peV (gl c_UNKNOWN (fun _ _ => by rw [Dat])))) de_non (eN 2)))))) bN)))
 dss_nil)))
def gread_picture : DS := (gSeq (gIfS (gNotT (gTest truD (frz (gIsi "str" (gN 0))))) (gSeq (gRaise "BadText" (frz (gC (.int 0))))
 gNil) gNil)
 (gSeq (gSet 1 (gLst gNilA))
 (gSeq (gFor (gEnum (gConsA (frz (gM1 splitD (gN 0) (frz (gC (.str "\n"))))) gNilA)) (fTup 2 (fCons (fName 2) (fCons (fName 3) fNil))) (gSeq (gSet 4 (gFn m_colours_in (gLen 1 (gConsA (frz (gV 3)) gNilA))))
 (gSeq (gIfS (gOrs (gTest asB (frz (gBin isND (gN 4) (frz (gC .non))))) [(gTest asB (frz (gBin geD (gN 2) (frz (gC (.int 7)))))), (gAnds (gTest asB (frz (gBin neD (gN 1) (frz (gLst gNilA))))) [(gTest asB (frz (gBin neD (frz (gCall lenD (gConsA (gN 4) gNilA))) (frz (gCall lenD (gConsA (frz (gBin ixD (gN 1) (frz (gC (.int 0))))) gNilA))))))])]) (gSeq (gRaise "BadText" (frz (gBin addD (gN 2) (frz (gC (.int 1))))))
 gNil) gNil)
 (gSeq (gApp 1 (frz (gV 4)))
 gNil))))
 (gSeq (gRet (gCall tupleD (gConsA (gN 1) gNilA)))
 gNil))))
def m_read_picture : Fm := fm (List.length (["text", "found", "at", "line", "row"] : List Str)) gread_picture
theorem ok_read_picture {f : Addr} {fd : FuncData} (F : FunD K "read_picture" "read_picture" (defArgs (top 18)) (defBody (top 18)) (defScope (top 18)) [] [] f fd) (hf : mg "read_picture" = some (.ref f)) (G_colours_in : Fn P w K mg base 2 "colours_in" ["line"] m_colours_in) (nb : ∀ x : Str, x ∈ nbs → mg x = none) (ini : XIni P K D fI bI) (x_BadText : XCls K (He.ga K "BadText") D fI) (m_BadText : mg "BadText" = some (.ref (He.ga K "BadText"))) (c_MOST_texts : ∃ u, mg "MOST_texts" = some u ∧ RelV (.int 7 : V) u) : Fn P w K mg base 3 "read_picture" ["text"] m_read_picture := by
  have S : FnScope ["text", "found", "at", "line", "row"] ["text"] (defScope (top 18)) := ⟨rfl, rfl, rfl, by decide +kernel, rfl, by decide +kernel, by decide +kernel⟩
  have hN := S.nd
  refine ⟨f, fd, hf, F.kp, F.bindsN (ps := ["text"]) (fun _ _ _ _ _ _ us hl => match us, hl with | [_], _ => rfl), fnG_of (k := 2) (N := ["text", "found", "at", "line", "row"]) (ps := ["text"]) (g := gread_picture) F S fun cdv A outer s H E W eW B => ?_⟩
  exact (dss_cons (ds_if (dt_not (tru (peV (isi (T := "str") (by decide) (vN 0) (nb "isinstance" (by decide)) (nb "str" (by decide)))))) (dss_cons (ds_raise ini x_BadText (B.room.mono (by decide) : Room 1 _) B.calm B.tk rfl m_BadText (peZ de_int) (by decide) rfl rfl)
 dss_nil) dss_nil)
 (dss_cons (sSet 1 hN (de_lst aN))
 (dss_cons (sFor B (enu (nb "enumerate" (by decide)) (aC (peZ (spl (vN 0) (peV de_str))) aN)) (pg_tup rfl (pgs_cons (gNm 2 hN) (pgs_cons (gNm 3 hN) pgs_nil))) (tg_tup (tgs_cons tg_name (tgs_cons tg_name tgs_nil))) (dss_cons (sSet 4 hN (cF G_colours_in B.cal (aC (peZ (eN 3)) aN)))
 (dss_cons (ds_if (dw_ors (tst op_isND (vN 4) (peV de_non)) (.cons (tst op_geD (vN 2) (peV (gl c_MOST_texts (fun _ _ => by rw [Dat])))) (.cons (dw_ands (tst (op_neDD B.cal.hu) (vN 1) (peV (de_lst aN))) (.cons (tst (op_neDD B.cal.hu) (peV (cB cr_len (nb "len" (by decide)) (bC (vN 4) bN))) (peV (cB cr_len (nb "len" (by decide)) (bC (peV (sub (vN 1) (peV de_int))) bN)))) .nil)).pt .nil))).pt (dss_cons (ds_raise ini x_BadText (B.room.mono (by decide) : Room 1 _) B.calm B.tk rfl m_BadText (peZ (de_bin op_addD (vN 2) (peV de_int))) (by decide) rfl rfl)
 dss_nil) dss_nil)
 (dss_cons (sApp 1 (peZ (eN 4)))
 dss_nil))))
 (dss_cons (ds_ret (cT cr_tuple (nb "tuple" (by decide)) (bC (vN 1) bN)))
 dss_nil))))
def g_law_met : DS := (gSeq (gTryRet (mt1 "BadText") "BadText" 1 (.bl true) (gSeq (gRet (gTup (gConsA (frz (gC (.bl false))) (gConsA (frz (gFn m_read_picture (gLen 1 (gConsA (frz (gV 0)) gNilA)))) gNilA))))
 gNil))
 gNil)
def m__law_met : Fm := fm (List.length (["value", "error"] : List Str)) g_law_met
theorem ok__law_met {f : Addr} {fd : FuncData} (F : FunD K "_law_met" "_law_met" (defArgs (top 27)) (defBody (top 27)) (defScope (top 27)) [] [] f fd) (hf : mg "_law_met" = some (.ref f)) (G_read_picture : Fn P w K mg base 3 "read_picture" ["text"] m_read_picture) (ini : XIni P K D fI bI) (x_BadText : XCls K (He.ga K "BadText") D fI) (m_BadText : mg "BadText" = some (.ref (He.ga K "BadText"))) (e_BadText : PySem.W.exmOne K (.ref (He.ga K "BadText")) (.ref (He.ga K "BadText")) = some true) (f_BadText : XfC K (He.ga K "BadText")) : Fn P w K mg base 4 "_law_met" ["value"] m__law_met := by
  have S : FnScope ["value", "error"] ["value"] (defScope (top 27)) := ⟨rfl, rfl, rfl, by decide +kernel, rfl, by decide +kernel, by decide +kernel⟩
  have hN := S.nd
  refine ⟨f, fd, hf, F.kp, F.bindsN (ps := ["value"]) (fun _ _ _ _ _ _ us hl => match us, hl with | [_], _ => rfl), fnG_of (k := 3) (N := ["value", "error"]) (ps := ["value"]) (g := g_law_met) F S fun cdv A outer s H E W eW B => ?_⟩
  exact (dss_cons (ds_try_ret (mt := (mt1 "BadText")) (cn := "BadText") (i := 1) (d1 := (.bl true)) B.st B.fr hN rfl rfl ⟨rfl, by decide, .inl m_BadText⟩ B.tk (mt1_ok e_BadText) (fun W1 pn1 xe1 tk1 ow1 => (dss_cons (ds_ret (de_tup (aC (peZ de_bl) (aC (peZ (cF G_read_picture (B.tr tk1 ow1).cal (aC (peZ (eN 0)) aN))) aN))))
 dss_nil)) f_BadText x_BadText.noV (fun _ _ => by rw [Dat]) (fun _ _ _ => pe_bl) (.inl rfl) (by decide) (by decide) (fun _ => rfl) (fun _ => rfl) (fun _ => rfl))
 dss_nil)
def gis_line : DS := (gSeq (gIfS (gOrs (gNotT (gTest truD (frz (gIsi "tuple" (gN 0))))) [(gTest asB (frz (gBin neD (frz (gCall lenD (gConsA (gN 0) gNilA))) (gN 1))))]) (gSeq (gRet (gC (.bl false)))
 gNil) gNil)
 (gSeq (gRet (gCall allD (gConsA (frz (gLc (gI asTu (gV 0)) [2] (fName 2) gYes (frz (gOrL (gBin isND (gN 2) (frz (gC .non))) [(gFn m_is_name (gLen 1 (gConsA (frz (gV 2)) gNilA)))])))) gNilA)))
 gNil))
def m_is_line : Fm := fm (List.length (["value", "many", "colour"] : List Str)) gis_line
theorem ok_is_line {f : Addr} {fd : FuncData} (F : FunD K "is_line" "is_line" (defArgs (top 10)) (defBody (top 10)) (defScope (top 10)) [] [] f fd) (hf : mg "is_line" = some (.ref f)) (G_is_name : Fn P w K mg base 1 "is_name" ["value"] m_is_name) (nb : ∀ x : Str, x ∈ nbs → mg x = none) : Fn P w K mg base 2 "is_line" ["value", "many"] m_is_line := by
  have S : FnScope ["value", "many", "colour"] ["value", "many"] (defScope (top 10)) := ⟨rfl, rfl, rfl, by decide +kernel, rfl, by decide +kernel, by decide +kernel⟩
  have hN := S.nd
  refine ⟨f, fd, hf, F.kp, F.bindsN (ps := ["value", "many"]) (fun _ _ _ _ _ _ us hl => match us, hl with | [_, _], _ => rfl), fnG_of (k := 1) (N := ["value", "many", "colour"]) (ps := ["value", "many"]) (g := gis_line) F S fun cdv A outer s H E W eW B => ?_⟩
  exact (dss_cons (ds_if (dw_ors (dt_not (tru (peV (isi (T := "tuple") (by decide) (vN 0) (nb "isinstance" (by decide)) (nb "tuple" (by decide)))))) (.cons (tst (op_neDD B.cal.hu) (peV (cB cr_len (nb "len" (by decide)) (bC (vN 0) bN))) (vN 1)) .nil)).pt (dss_cons (ds_ret de_bl)
 dss_nil) dss_nil)
 (dss_cons (ds_ret (cB (cr_allD B.cal.calm) (nb "all" (by decide)) (bC (peV (lc [("colour", 2)] rfl hN (di_tup (eN 0)) tg_name (fun s1 H1 C1 cl1 fp1 => (gNm 2 hN)) (fun s1 H1 C1 cl1 fp1 => dts_nil) (fun s1 H1 C1 cl1 fp1 => (peZ (de_ors (cmp op_isND (vN 2) (peV de_non)) (.cons (cF G_is_name (B.cal.blk s1 H1 _ _ fp1) (aC (peZ (eN 2)) aN)) .nil)))))) bN)))
 dss_nil))
def gcheck_picture : DS := (gSeq (gIfS (gOrs (gNotT (gTest truD (frz (gIsi "tuple" (gN 0))))) [(gNotT (gCmp2 leD leD (frz (gC (.int 1))) (frz (gCall lenD (gConsA (gN 0) gNilA))) (frz (gC (.int 7))))), (gNotT (gTest truD (frz (gIsi "tuple" (frz (gBin ixD (gN 0) (frz (gC (.int 0)))))))))]) (gSeq (gRaise "BadPicture" (frz (gV 0)))
 gNil) gNil)
 (gSeq (gIfS (gOrs (gNotT (gCmp2 leD leD (frz (gC (.int 1))) (frz (gCall lenD (gConsA (frz (gBin ixD (gN 0) (frz (gC (.int 0))))) gNilA))) (frz (gC (.int 7))))) [(gNotT (gTest truD (frz (gCall allD (gConsA (frz (gLc (gI asTu (gV 0)) [1] (fName 1) gYes (frz (gFn m_is_line (gLen 2 (gConsA (frz (gV 1)) (gConsA (frz (gCall lenD (gConsA (frz (gBin ixD (gN 0) (frz (gC (.int 0))))) gNilA))) gNilA))))))) gNilA)))))]) (gSeq (gRaise "BadPicture" (frz (gV 0)))
 gNil) gNil)
 gNil))
def m_check_picture : Fm := fm (List.length (["value", "line"] : List Str)) gcheck_picture
theorem ok_check_picture {f : Addr} {fd : FuncData} (F : FunD K "check_picture" "check_picture" (defArgs (top 11)) (defBody (top 11)) (defScope (top 11)) [] [] f fd) (hf : mg "check_picture" = some (.ref f)) (G_is_line : Fn P w K mg base 2 "is_line" ["value", "many"] m_is_line) (nb : ∀ x : Str, x ∈ nbs → mg x = none) (ini : XIni P K D fI bI) (x_BadPicture : XCls K (He.ga K "BadPicture") D fI) (m_BadPicture : mg "BadPicture" = some (.ref (He.ga K "BadPicture"))) (c_MOST_reading : ∃ u, mg "MOST_reading" = some u ∧ RelV (.int 7 : V) u) : Fn P w K mg base 3 "check_picture" ["value"] m_check_picture := by
  have S : FnScope ["value", "line"] ["value"] (defScope (top 11)) := ⟨rfl, rfl, rfl, by decide +kernel, rfl, by decide +kernel, by decide +kernel⟩
  have hN := S.nd
  refine ⟨f, fd, hf, F.kp, F.bindsN (ps := ["value"]) (fun _ _ _ _ _ _ us hl => match us, hl with | [_], _ => rfl), fnG_of (k := 2) (N := ["value", "line"]) (ps := ["value"]) (g := gcheck_picture) F S fun cdv A outer s H E W eW B => ?_⟩
  exact (dss_cons (ds_if (dw_ors (dt_not (tru (peV (isi (T := "tuple") (by decide) (vN 0) (nb "isinstance" (by decide)) (nb "tuple" (by decide)))))) (.cons (dt_not (tst2 op_leD op_leD (peV de_int) (peV (cB cr_len (nb "len" (by decide)) (bC (vN 0) bN))) (peV (gl c_MOST_reading (fun _ _ => by rw [Dat]))))) (.cons (dt_not (tru (peV (isi (T := "tuple") (by decide) (peV (sub (vN 0) (peV de_int))) (nb "isinstance" (by decide)) (nb "tuple" (by decide)))))) .nil))).pt (dss_cons (ds_raise ini x_BadPicture (B.room.mono (by decide) : Room 1 _) B.calm B.tk rfl m_BadPicture (peZ (eN 0)) (by decide) rfl rfl)
 dss_nil) dss_nil)
 (dss_cons (ds_if (dw_ors (dt_not (tst2 op_leD op_leD (peV de_int) (peV (cB cr_len (nb "len" (by decide)) (bC (peV (sub (vN 0) (peV de_int))) bN))) (peV (gl c_MOST_reading (fun _ _ => by rw [Dat]))))) (.cons (dt_not (tru (peV (cB (cr_allD B.cal.calm) (nb "all" (by decide)) (bC (peV (lc [("line", 1)] rfl hN (di_tup (eN 0)) tg_name (fun s1 H1 C1 cl1 fp1 => (gNm 1 hN)) (fun s1 H1 C1 cl1 fp1 => dts_nil) (fun s1 H1 C1 cl1 fp1 => (peZ (cF G_is_line (B.cal.blk s1 H1 _ _ fp1) (aC (peZ (eN 1)) (aC (peZ (cB cr_len (nb "len" (by decide)) (bC (peV (sub (vN 0) (peV de_int))) bN))) aN))))))) bN))))) .nil)).pt (dss_cons (ds_raise ini x_BadPicture (B.room.mono (by decide) : Room 1 _) B.calm B.tk rfl m_BadPicture (peZ (eN 0)) (by decide) rfl rfl)
 dss_nil) dss_nil)
 dss_nil))
def gshow_picture : DS := (gSeq (gExp (gFn m_check_picture (gLen 1 (gConsA (frz (gV 0)) gNilA))))
 (gSeq (gSet 1 (gLc (gI asTu (gV 0)) [2] (fName 2) gYes (frz (gLc (gI asTu (gV 2)) [3] (fName 3) gYes (frz (gIf (gTest asB (frz (gBin isND (gN 3) (frz (gC .non))))) (gC (.str "-")) (gV 3)))))))
 (gSeq (gRet (gM1 joinD (frz (gC (.str "\n"))) (frz (gLc (gI asL (gV 1)) [2] (fName 2) gYes (frz (gM1 joinD (frz (gC (.str " "))) (gN 2)))))))
 gNil)))
def m_show_picture : Fm := fm (List.length (["picture", "rows", "row", "colour"] : List Str)) gshow_picture
theorem ok_show_picture {f : Addr} {fd : FuncData} (F : FunD K "show_picture" "show_picture" (defArgs (top 16)) (defBody (top 16)) (defScope (top 16)) [] [] f fd) (hf : mg "show_picture" = some (.ref f)) (G_check_picture : Fn P w K mg base 3 "check_picture" ["value"] m_check_picture) (c_BLANK : ∃ u, mg "BLANK" = some u ∧ RelV (.str " " : V) u) (c_UNKNOWN : ∃ u, mg "UNKNOWN" = some u ∧ RelV (.str "-" : V) u) : Fn P w K mg base 4 "show_picture" ["picture"] m_show_picture := by
  have S : FnScope ["picture", "rows", "row", "colour"] ["picture"] (defScope (top 16)) := ⟨rfl, rfl, rfl, by decide +kernel, rfl, by decide +kernel, by decide +kernel⟩
  have hN := S.nd
  refine ⟨f, fd, hf, F.kp, F.bindsN (ps := ["picture"]) (fun _ _ _ _ _ _ us hl => match us, hl with | [_], _ => rfl), fnG_of (k := 3) (N := ["picture", "rows", "row", "colour"]) (ps := ["picture"]) (g := gshow_picture) F S fun cdv A outer s H E W eW B => ?_⟩
  exact (dss_cons (sExp (cF G_check_picture B.cal (aC (peZ (eN 0)) aN)))
 (dss_cons (sSetLc 1 [("row", 2)] rfl hN (di_tup (eN 0)) tg_name (fun s2 H2 C2 cl2 fp2 => (gNm 2 hN)) (fun s2 H2 C2 cl2 fp2 => dts_nil) (fun s2 H2 C2 cl2 fp2 => (peZ (lc [("colour", 3)] rfl hN (di_tup (eN 2)) tg_name (fun s3 H3 C3 cl3 fp3 => (gNm 3 hN)) (fun s3 H3 C3 cl3 fp3 => dts_nil) (fun s3 H3 C3 cl3 fp3 => (peZ (de_if (tst op_isND (vN 3) (peV de_non)) (gl c_UNKNOWN (fun _ _ => by rw [Dat])) (eN 3))))))))
 (dss_cons (ds_ret (joi (peV de_str) (peV (lc [("row", 2)] rfl hN (di_list (eN 1)) tg_name (fun s1 H1 C1 cl1 fp1 => (gNm 2 hN)) (fun s1 H1 C1 cl1 fp1 => dts_nil) (fun s1 H1 C1 cl1 fp1 => (peZ (joi (peV (gl c_BLANK (fun _ _ => by rw [Dat]))) (vN 2))))))))
 dss_nil)))
def g_law_bad_picture : DS := (gSeq (gSet 1 (gC .non))
 (gSeq (gTryHold (mt1 "BadPicture") "BadPicture" 2 1 (gSeq (gExp (gFn m_show_picture (gLen 1 (gConsA (frz (gV 0)) gNilA))))
 gNil))
 (gSeq (gRet (gIf (gTest asB (frz (gBin isND (gN 1) (frz (gC .non))))) (gC (.str "")) (gCall reprD (gConsA (frz (gValue ["BadPicture", "BadText"] (gN 1))) gNilA))))
 gNil)))
def m__law_bad_picture : Fm := fm (List.length (["value", "caught", "error"] : List Str)) g_law_bad_picture
theorem ok__law_bad_picture {f : Addr} {fd : FuncData} (F : FunD K "_law_bad_picture" "_law_bad_picture" (defArgs (top 29)) (defBody (top 29)) (defScope (top 29)) [] [] f fd) (hf : mg "_law_bad_picture" = some (.ref f)) (G_show_picture : Fn P w K mg base 4 "show_picture" ["picture"] m_show_picture) (nb : ∀ x : Str, x ∈ nbs → mg x = none) (ini : XIni P K D fI bI) (x_BadPicture : XCls K (He.ga K "BadPicture") D fI) (m_BadPicture : mg "BadPicture" = some (.ref (He.ga K "BadPicture"))) (e_BadPicture : PySem.W.exmOne K (.ref (He.ga K "BadPicture")) (.ref (He.ga K "BadPicture")) = some true) (f_BadPicture : XfC K (He.ga K "BadPicture")) (xval : ∀ c : Str, c ∈ (["BadPicture", "BadText"] : List Str) → XfC K (He.ga K c) ∧ PySem.W.findIn K (.ref (He.ga K c)) "value" = some none) : Fn P w K mg base 5 "_law_bad_picture" ["value"] m__law_bad_picture := by
  have S : FnScope ["value", "caught", "error"] ["value"] (defScope (top 29)) := ⟨rfl, rfl, rfl, by decide +kernel, rfl, by decide +kernel, by decide +kernel⟩
  have hN := S.nd
  refine ⟨f, fd, hf, F.kp, F.bindsN (ps := ["value"]) (fun _ _ _ _ _ _ us hl => match us, hl with | [_], _ => rfl), fnG_of (k := 4) (N := ["value", "caught", "error"]) (ps := ["value"]) (g := g_law_bad_picture) F S fun cdv A outer s H E W eW B => ?_⟩
  exact (dss_cons (sSet 1 hN de_non)
 (dss_cons (ds_try_hold (mt := (mt1 "BadPicture")) (cn := "BadPicture") (i := 2) (j := 1) B.st B.fr B.ex hN rfl rfl (by decide) rfl rfl ⟨rfl, by decide, .inl m_BadPicture⟩ B.tk (mt1_ok e_BadPicture) (fun W1 pn1 xe1 tk1 ow1 => (dss_cons (sExp (cF G_show_picture (B.tr tk1 ow1).cal (aC (peZ (eN 0)) aN)))
 dss_nil)) (by decide) (by decide) (fun _ => rfl))
 (dss_cons (ds_ret (de_if (tst op_isND (vN 1) (peV de_non)) de_str (cB (cr_repr B.cal.gds B.cal.hu) (nb "repr" (by decide)) (bC (peV (de_value (cs := ["BadPicture", "BadText"]) xval (vN 1) rfl)) bN))))
 dss_nil)))
def g_law_right : DS := (gSeq (gSet 1 (gFn m__law_drawn (gLen 1 (gConsA (frz (gV 0)) gNilA))))
 (gSeq (gSet 2 (gFn m__law_lines_of (gLen 1 (gConsA (frz (gV 1)) gNilA))))
 (gSeq (gIfS (gOrs (gTest asB (frz (gBin neD (frz (gCall reprD (gConsA (frz (gFn m_show_picture (gLen 1 (gConsA (frz (gV 1)) gNilA)))) gNilA))) (frz (gCall reprD (gConsA (frz (gM1 joinD (frz (gC (.str "\n"))) (gN 2))) gNilA)))))) [(gTest asB (frz (gBin neD (frz (gCall reprD (gConsA (frz (gFn m_read_picture (gLen 1 (gConsA (frz (gM1 joinD (frz (gC (.str "\n"))) (gN 2))) gNilA)))) gNilA))) (frz (gCall reprD (gConsA (gN 1) gNilA))))))]) (gSeq (gRet (gC (.bl false)))
 gNil) gNil)
 (gSeq (gFor (gRng1 (gConsA (frz (gC (.int 8))) gNilA)) (fName 3) (gSeq (gSet 5 (gFn m__law_bent_lines (gLen 2 (gConsA (frz (gV 0)) (gConsA (frz (gV 2)) gNilA)))))
 (gSeq (gSet 5 (gIf (gTest asB (frz (gBin gtD (gN 3) (frz (gC (.int 5)))))) (gFn m__law_bent_lines (gLen 2 (gConsA (frz (gV 0)) (gConsA (frz (gV 5)) gNilA)))) (gV 5)))
 (gSeq (gPar 8 9 (gConsA (frz (gFn m__law_due (gLen 1 (gConsA (frz (gV 5)) gNilA)))) (gConsA (frz (gFn m__law_met (gLen 1 (gConsA (frz (gM1 joinD (frz (gC (.str "\n"))) (gN 5))) gNilA)))) gNilA)))
 (gSeq (gIfS (gOrs (gTest asB (frz (gBin neD (frz (gBin ixD (gN 9) (frz (gC (.int 0))))) (frz (gBin gtD (gN 8) (frz (gC (.int 0)))))))) [(gAnds (gTest truD (frz (gBin ixD (gN 9) (frz (gC (.int 0)))))) [(gTest asB (frz (gBin neD (frz (gCall reprD (gConsA (frz (gBin ixD (gN 9) (frz (gC (.int 1))))) gNilA))) (frz (gCall reprD (gConsA (gN 8) gNilA))))))])]) (gSeq (gRet (gC (.bl false)))
 gNil) gNil)
 (gSeq (gIfS (gAnds (gNotT (gTest truD (frz (gBin ixD (gN 9) (frz (gC (.int 0))))))) [(gTest asB (frz (gBin neD (frz (gFn m__law_lines_of (gLen 1 (gConsA (frz (gBin ixD (gN 9) (frz (gC (.int 1))))) gNilA)))) (gN 5))))]) (gSeq (gRet (gC (.bl false)))
 gNil) gNil)
 gNil))))))
 (gSeq (gSet 4 (gBin addD (frz (gBin ixD (gN 1) (frz (gC (.int 0))))) (frz (gTup (gConsA (frz (gC (.str "red"))) gNilA)))))
 (gSeq (gSet 5 (gLst (gConsA (frz (gTup gNilA)) (gConsA (frz (gTup (gConsA (frz (gTup gNilA)) gNilA))) (gConsA (frz (gC .non)) (gConsA (frz (gC (.str "-"))) (gConsA (frz (gCall listD (gConsA (gN 1) gNilA))) (gConsA (frz (gTup (gConsA (frz (gCall listD (gConsA (frz (gBin ixD (gN 1) (frz (gC (.int 0))))) gNilA))) gNilA))) (gConsA (frz (gTup (gConsA (frz (gBin ixD (gN 1) (frz (gC (.int 0))))) (gConsA (frz (gV 4)) gNilA)))) gNilA)))))))))
 (gSeq (gSet 6 (gFn m__law_of (gLen 2 (gConsA (frz (gV 0)) (gConsA (frz (gBin addD (gN 5) (frz (gLst (gConsA (frz (gTup (gConsA (frz (gTup (gConsA (frz (gC (.int 0))) gNilA))) gNilA))) (gConsA (frz (gTup (gConsA (frz (gTup (gConsA (frz (gC (.bl true))) gNilA))) gNilA))) gNilA)))))) gNilA)))))
 (gSeq (gSet 7 (gFn m__law_of (gLen 2 (gConsA (frz (gV 0)) (gConsA (frz (gLst (gConsA (frz (gTup (gConsA (frz (gBin mulD (frz (gTup (gConsA (frz (gC .non)) gNilA))) (frz (gC (.int 8))))) gNilA))) (gConsA (frz (gBin mulD (frz (gTup (gConsA (frz (gTup (gConsA (frz (gC .non)) gNilA))) gNilA))) (frz (gC (.int 8))))) (gConsA (frz (gTup (gConsA (frz (gTup (gConsA (frz (gC (.str "A"))) gNilA))) gNilA))) (gConsA (frz (gTup (gConsA (frz (gTup (gConsA (frz (gC (.str "-"))) gNilA))) gNilA))) (gConsA (frz (gTup (gConsA (frz (gTup (gConsA (frz (gC (.str "aaaaaaaaa"))) gNilA))) gNilA))) (gConsA (frz (gBin addD (gN 1) (frz (gTup (gConsA (frz (gC .non)) gNilA))))) gNilA)))))))) gNilA)))))
 (gSeq (gIfS (gOrs (gTest asB (frz (gBin neD (frz (gFn m__law_bad_picture (gLen 1 (gConsA (frz (gV 6)) gNilA)))) (frz (gCall reprD (gConsA (gN 6) gNilA)))))) [(gTest asB (frz (gBin neD (frz (gFn m__law_bad_picture (gLen 1 (gConsA (frz (gV 7)) gNilA)))) (frz (gCall reprD (gConsA (gN 7) gNilA))))))]) (gSeq (gRet (gC (.bl false)))
 gNil) gNil)
 (gSeq (gRet (gBin eqD (frz (gCall reprD (gConsA (frz (gFn m__law_met (gLen 1 (gConsA (frz (gFn m__law_of (gLen 2 (gConsA (frz (gV 0)) (gConsA (frz (gLst (gConsA (frz (gC .non)) (gConsA (frz (gC (.int 0))) (gConsA (frz (gV 1)) (gConsA (frz (gLst gNilA)) (gConsA (frz gDict0) gNilA))))))) gNilA))))) gNilA)))) gNilA))) (frz (gCall reprD (gConsA (frz (gTup (gConsA (frz (gC (.bl true))) (gConsA (frz (gC (.int 0))) gNilA)))) gNilA)))))
 gNil))))))))))
def m__law_right : Fm := fm (List.length (["pot", "picture", "lines", "turn", "more", "some", "odd", "large", "due", "met"] : List Str)) g_law_right
theorem ok__law_right {f : Addr} {fd : FuncData} (F : FunD K "_law_right" "_law_right" (defArgs (top 30)) (defBody (top 30)) (defScope (top 30)) [] [] f fd) (hf : mg "_law_right" = some (.ref f)) (G__law_drawn : Fn P w K mg base 3 "_law_drawn" ["pot"] m__law_drawn) (G__law_lines_of : Fn P w K mg base 1 "_law_lines_of" ["picture"] m__law_lines_of) (G__law_of : Fn P w K mg base 2 "_law_of" ["pot", "some"] m__law_of) (G__law_bent_lines : Fn P w K mg base 3 "_law_bent_lines" ["pot", "lines"] m__law_bent_lines) (G__law_due : Fn P w K mg base 2 "_law_due" ["lines"] m__law_due) (G__law_met : Fn P w K mg base 4 "_law_met" ["value"] m__law_met) (G__law_bad_picture : Fn P w K mg base 5 "_law_bad_picture" ["value"] m__law_bad_picture) (G_show_picture : Fn P w K mg base 4 "show_picture" ["picture"] m_show_picture) (G_read_picture : Fn P w K mg base 3 "read_picture" ["text"] m_read_picture) (nb : ∀ x : Str, x ∈ nbs → mg x = none) : Fn P w K mg base 6 "_law_right" ["pot"] m__law_right := by
  have S : FnScope ["pot", "picture", "lines", "turn", "more", "some", "odd", "large", "due", "met"] ["pot"] (defScope (top 30)) := ⟨rfl, rfl, rfl, by decide +kernel, rfl, by decide +kernel, by decide +kernel⟩
  have hN := S.nd
  refine ⟨f, fd, hf, F.kp, F.bindsN (ps := ["pot"]) (fun _ _ _ _ _ _ us hl => match us, hl with | [_], _ => rfl), fnG_of (k := 5) (N := ["pot", "picture", "lines", "turn", "more", "some", "odd", "large", "due", "met"]) (ps := ["pot"]) (g := g_law_right) F S fun cdv A outer s H E W eW B => ?_⟩
  exact (dss_cons (sSet 1 hN (cF G__law_drawn B.cal (aC (peZ (eN 0)) aN)))
 (dss_cons (sSet 2 hN (cF G__law_lines_of B.cal (aC (peZ (eN 1)) aN)))
 (dss_cons (ds_if (dw_ors (tst (op_neDD B.cal.hu) (peV (cB (cr_repr B.cal.gds B.cal.hu) (nb "repr" (by decide)) (bC (peV (cF G_show_picture B.cal (aC (peZ (eN 1)) aN))) bN))) (peV (cB (cr_repr B.cal.gds B.cal.hu) (nb "repr" (by decide)) (bC (peV (joi (peV de_str) (vN 2))) bN)))) (.cons (tst (op_neDD B.cal.hu) (peV (cB (cr_repr B.cal.gds B.cal.hu) (nb "repr" (by decide)) (bC (peV (cF G_read_picture B.cal (aC (peZ (joi (peV de_str) (vN 2))) aN))) bN))) (peV (cB (cr_repr B.cal.gds B.cal.hu) (nb "repr" (by decide)) (bC (vN 1) bN)))) .nil)).pt (dss_cons (ds_ret de_bl)
 dss_nil) dss_nil)
 (dss_cons (sFor B (rn1 (nb "range" (by decide)) (bC (peV de_int) bN)) (gNm 3 hN) tg_name (dss_cons (sSet 5 hN (cF G__law_bent_lines B.cal (aC (peZ (eN 0)) (aC (peZ (eN 2)) aN))))
 (dss_cons (sSet 5 hN (de_if (tst op_gtD (vN 3) (peV de_int)) (cF G__law_bent_lines B.cal (aC (peZ (eN 0)) (aC (peZ (eN 5)) aN))) (eN 5)))
 (dss_cons (sPar 8 9 rfl hN (aC (peZ (cF G__law_due B.cal (aC (peZ (eN 5)) aN))) (aC (peZ (cF G__law_met B.cal (aC (peZ (joi (peV de_str) (vN 5))) aN))) aN)))
 (dss_cons (ds_if (dw_ors (tst (op_neDD B.cal.hu) (peV (sub (vN 9) (peV de_int))) (peV (cmp op_gtD (vN 8) (peV de_int)))) (.cons (dw_ands (tru (peV (sub (vN 9) (peV de_int)))) (.cons (tst (op_neDD B.cal.hu) (peV (cB (cr_repr B.cal.gds B.cal.hu) (nb "repr" (by decide)) (bC (peV (sub (vN 9) (peV de_int))) bN))) (peV (cB (cr_repr B.cal.gds B.cal.hu) (nb "repr" (by decide)) (bC (vN 8) bN)))) .nil)).pt .nil)).pt (dss_cons (ds_ret de_bl)
 dss_nil) dss_nil)
 (dss_cons (ds_if (dw_ands (dt_not (tru (peV (sub (vN 9) (peV de_int))))) (.cons (tst (op_neDD B.cal.hu) (peV (cF G__law_lines_of B.cal (aC (peZ (sub (vN 9) (peV de_int))) aN))) (vN 5)) .nil)).pt (dss_cons (ds_ret de_bl)
 dss_nil) dss_nil)
 dss_nil))))))
 (dss_cons (sSet 4 hN (de_bin op_addD (peV (sub (vN 1) (peV de_int))) (peV (de_tup (aC (peZ de_str) aN)))))
 (dss_cons (sSet 5 hN (de_lst (aC (peZ (de_tup aN)) (aC (peZ (de_tup (aC (peZ (de_tup aN)) aN))) (aC (peZ de_non) (aC (peZ de_str) (aC (peZ (cT cr_list (nb "list" (by decide)) (bC (vN 1) bN))) (aC (peZ (de_tup (aC (peZ (cT cr_list (nb "list" (by decide)) (bC (peV (sub (vN 1) (peV de_int))) bN))) aN))) (aC (peZ (de_tup (aC (peZ (sub (vN 1) (peV de_int))) (aC (peZ (eN 4)) aN)))) aN)))))))))
 (dss_cons (sSet 6 hN (cF G__law_of B.cal (aC (peZ (eN 0)) (aC (peZ (de_bin op_addD (vN 5) (peV (de_lst (aC (peZ (de_tup (aC (peZ (de_tup (aC (peZ de_int) aN))) aN))) (aC (peZ (de_tup (aC (peZ (de_tup (aC (peZ de_bl) aN))) aN))) aN)))))) aN))))
 (dss_cons (sSet 7 hN (cF G__law_of B.cal (aC (peZ (eN 0)) (aC (peZ (de_lst (aC (peZ (de_tup (aC (peZ (de_bin op_mulD (peV (de_tup (aC (peZ de_non) aN))) (peV de_int))) aN))) (aC (peZ (de_bin op_mulD (peV (de_tup (aC (peZ (de_tup (aC (peZ de_non) aN))) aN))) (peV de_int))) (aC (peZ (de_tup (aC (peZ (de_tup (aC (peZ de_str) aN))) aN))) (aC (peZ (de_tup (aC (peZ (de_tup (aC (peZ de_str) aN))) aN))) (aC (peZ (de_tup (aC (peZ (de_tup (aC (peZ de_str) aN))) aN))) (aC (peZ (de_bin op_addD (vN 1) (peV (de_tup (aC (peZ de_non) aN))))) aN)))))))) aN))))
 (dss_cons (ds_if (dw_ors (tst (op_neDD B.cal.hu) (peV (cF G__law_bad_picture B.cal (aC (peZ (eN 6)) aN))) (peV (cB (cr_repr B.cal.gds B.cal.hu) (nb "repr" (by decide)) (bC (vN 6) bN)))) (.cons (tst (op_neDD B.cal.hu) (peV (cF G__law_bad_picture B.cal (aC (peZ (eN 7)) aN))) (peV (cB (cr_repr B.cal.gds B.cal.hu) (nb "repr" (by decide)) (bC (vN 7) bN)))) .nil)).pt (dss_cons (ds_ret de_bl)
 dss_nil) dss_nil)
 (dss_cons (ds_ret (cmp (op_eqDD B.cal.hu) (peV (cB (cr_repr B.cal.gds B.cal.hu) (nb "repr" (by decide)) (bC (peV (cF G__law_met B.cal (aC (peZ (cF G__law_of B.cal (aC (peZ (eN 0)) (aC (peZ (de_lst (aC (peZ de_non) (aC (peZ de_int) (aC (peZ (eN 1)) (aC (peZ (de_lst aN)) (aC (peZ de_dict0) aN))))))) aN)))) aN))) bN))) (peV (cB (cr_repr B.cal.gds B.cal.hu) (nb "repr" (by decide)) (bC (peV (de_tup (aC (peZ de_bl) (aC (peZ de_int) aN)))) bN)))))
 dss_nil))))))))))
def glaw : DS := (gSeq (gFor (gRng1 (gConsA (frz (gCall max2D (gConsA (frz (gC (.int 1))) (gConsA (frz (gCall min2D (gConsA (frz (gC (.int 3))) (gConsA (frz (gCall lenD (gConsA (gN 0) gNilA))) gNilA)))) gNilA)))) gNilA)) (fName 1) (gSeq (gSetZ 2 (gCell (gFn m__law_pot (gLen 2 (gConsA (frz (gV 0)) (gConsA (frz (gV 1)) gNilA))))))
 (gSeq (gFor (gRng1 (gConsA (frz (gC (.int 3))) gNilA)) (fName 3) (gSeq (gIfS (gNotT (gTest truD (frz (gFn m__law_right (gLen 1 (gConsA (frz (gV 2)) gNilA)))))) (gSeq (gRet (gC (.bl false)))
 gNil) gNil)
 gNil))
 gNil)))
 (gSeq (gRet (gC (.bl true)))
 gNil))
def m_law : Fm := fm (List.length (["script", "number", "pot", "turn"] : List Str)) glaw
theorem ok_law {f : Addr} {fd : FuncData} (F : FunD K "law" "law" (defArgs (top 31)) (defBody (top 31)) (defScope (top 31)) [] [] f fd) (hf : mg "law" = some (.ref f)) (G__law_pot : Fn P w K mg base 1 "_law_pot" ["script", "number"] m__law_pot) (G__law_right : Fn P w K mg base 6 "_law_right" ["pot"] m__law_right) (nb : ∀ x : Str, x ∈ nbs → mg x = none) : FnG P w K mg base 7 f fd ["script"] m_law := by
  have S : FnScope ["script", "number", "pot", "turn"] ["script"] (defScope (top 31)) := ⟨rfl, rfl, rfl, by decide +kernel, rfl, by decide +kernel, by decide +kernel⟩
  have hN := S.nd
  refine fnG_of (k := 6) (N := ["script", "number", "pot", "turn"]) (ps := ["script"]) (g := glaw) F S fun cdv A outer s H E W eW B => ?_
  exact (dss_cons (sFor B (rn1 (nb "range" (by decide)) (bC (peV (cB (cr_max2 B.cal.calm) (nb "max" (by decide)) (bC (peV de_int) (bC (peV (cB (cr_min2 B.cal.calm) (nb "min" (by decide)) (bC (peV de_int) (bC (peV (cB cr_len (nb "len" (by decide)) (bC (vN 0) bN))) bN)))) bN)))) bN)) (gNm 1 hN) tg_name (dss_cons (sSetZ 2 hN (cC G__law_pot B.cal (aC (peZ (eN 0)) (aC (peZ (eN 1)) aN))))
 (dss_cons (sFor B (rn1 (nb "range" (by decide)) (bC (peV de_int) bN)) (gNm 3 hN) tg_name (dss_cons (ds_if (dt_not (tru (peV (cF G__law_right B.cal (aC (peZ (eN 2)) aN))))) (dss_cons (ds_ret de_bl)
 dss_nil) dss_nil)
 dss_nil))
 dss_nil)))
 (dss_cons (ds_ret de_bl)
 dss_nil))
end
end K61
end

section
set_option maxHeartbeats 4000000
-- P1
/-! P1: the law's pot -/
namespace Dn
open PySem PySem.Spec L2
/-- the pot at the cell k -/
def Pot (S : List OD) (k : Nat) (a b c : Int) : Prop := S[k]? = some (.lst [.int a, .int b, .int c])
theorem Pot.lt {S : List OD} {k : Nat} {a b c : Int} (h : Pot S k a b c) : k < S.length := (List.getElem?_eq_some_iff.mp h).1
/-- one draw, as numbers -/
def drawA (a b c u : Int) : Int × Int × Int := if 0 < a then (a % u, a / u, c) else
  let c1 := c + 1
  let p := ([2147483647, 2147483629, 2147483587, 2147483579, 2147483563] : List Int).getD (c1 % 5).toNat 0
  let s := (b + 100151 * c1 * c1 + 47) ^ 3 % p
  let s2 := s * (s % 10037 + 89 * c1) % 2305843009213693907
  ((s2 / 127) % u, a, c1)
theorem take_pos {S : List OD} {k : Nat} {a b c u : Int} (h : Pot S k a b c) (ha : 0 < a) (hu : 0 < u) (hu2 : u < 1073741824) :
    K61.m__law_take [.cell k, .int u] S = .ok (.sh (.int (a % u))) (S.set k (.lst [.int (a / u), .int b, .int c])) := by
  have hk := h.lt
  unfold Pot at h
  have hu3 : 0 < u := hu
  simp [K61.m__law_take, K61.g_law_take, fm, outF, gSeq, gIfS, gTest, frz, gBin, gCix, gN, gC, Out.bind, Out.bindS, RV.fz, cellAt, h, opt, ixD, atI, ixN, gtD, bo, asB, gSet, put, gCall, gConsA, gNilA, intD, modD, gSetAt, fdivD, gRetV, ha, hu3, hu2]
theorem five (c : Int) (hc : 0 ≤ c) : ∃ p : Int, atI ([.int 2147483647, .int 2147483629, .int 2147483587, .int 2147483579, .int 2147483563] : List D) (c % 5) = some (.int p) ∧ 0 < p ∧ p < 2147483648 ∧ p = ([2147483647, 2147483629, 2147483587, 2147483579, 2147483563] : List Int).getD (c % 5).toNat 0 := by
  have h : c % 5 = 0 ∨ c % 5 = 1 ∨ c % 5 = 2 ∨ c % 5 = 3 ∨ c % 5 = 4 := by omega
  rcases h with h | h | h | h | h <;> rw [h] <;> exact ⟨_, rfl, by decide, by decide, rfl⟩
theorem take_zero {S : List OD} {k : Nat} {a b c u : Int} (h : Pot S k a b c) (ha : ¬ 0 < a) (hb : 0 ≤ b) (hb2 : b < 2 ^ 61) (hc : 0 ≤ c) (hc2 : c < 1000000) (hu : 0 < u) :
    K61.m__law_take [.cell k, .int u] S = .ok (.sh (.int (drawA a b c u).1)) (S.set k (.lst [.int a, .int b, .int (c + 1)])) := by
  have hk := h.lt
  unfold Pot at h
  obtain ⟨p, hp1, hp2, hp3, hp4⟩ := five (c + 1) (by omega)
  have hx0 : 0 ≤ b + 100151 * (c + 1) * (c + 1) + 47 := by
    have : 0 ≤ (c + 1) * (c + 1) := Int.mul_nonneg (by omega) (by omega)
    rw [Int.mul_assoc]; omega
  have hx1 : b + 100151 * (c + 1) * (c + 1) + 47 < 2 ^ 64 := by
    have : (c + 1) * (c + 1) ≤ 1000000 * 1000000 := Int.mul_le_mul (by omega) (by omega) (by omega) (by omega)
    rw [Int.mul_assoc]; omega
  have hpow : (Builtin.Int.intBits (b + 100151 * (c + 1) * (c + 1) + 47) : Int) * 3 ≤ 2 ^ 27 := by
    have := intBits_le_64 (k := b + 100151 * (c + 1) * (c + 1) + 47) (by omega) hx1
    omega
  have hm1 : 100151 < (2 : Int) ^ 64 := by decide
  generalize hX : b + 100151 * (c + 1) * (c + 1) + 47 = X at *
  have hs0 : 0 ≤ X ^ 3 % p := Int.emod_nonneg _ (by omega)
  have hs1 : X ^ 3 % p < p := Int.emod_lt_of_pos _ hp2
  have hd : drawA a b c u = ((X ^ 3 % p * (X ^ 3 % p % 10037 + 89 * (c + 1)) % 2305843009213693907 / 127) % u, a, c + 1) := by
    unfold drawA
    rw [if_neg ha]
    simp only [hX, ← hp4]
  rw [hd]
  have hz : sizeLine = 16777216 := rfl
  have e0 : ∀ x y z : D, atI [x, y, z] 0 = some x := fun _ _ _ => rfl
  have e1 : ∀ x y z : D, atI [x, y, z] 1 = some y := fun _ _ _ => rfl
  have e2 : ∀ x y z : D, atI [x, y, z] 2 = some z := fun _ _ _ => rfl
  have i2 : ixN 3 2 = some 2 := rfl
  have hset : ∀ x : OD, (S.set k x)[k]? = some x := fun x => List.getElem?_set_self hk
  have hc3 : -18446744073709551616 < c + 1 ∧ c + 1 < 18446744073709551616 := ⟨by omega, by omega⟩
  have hs2 : -18446744073709551616 < X ^ 3 % p ∧ X ^ 3 % p < 18446744073709551616 := ⟨by omega, by omega⟩
  have hpow2 : (Builtin.Int.intBits X : Int) * 3 ≤ 134217728 := by omega
  simp [K61.m__law_take, K61.g_law_take, fm, outF, gSeq, gIfS, gTest, frz, gBin, gCix, gN, gC, Out.bind, Out.bindS, RV.fz, cellAt, h, opt, gtD, bo, asB, gSet, put, gCall, gConsA, gNilA, intD, ha, Dn.gNil, OD.fz, gSetAt, addD, mulD, modD, powD, fdivD, gLst, gRet, ixD, e0, e1, e2, i2, hset, hp1, hz, hX, hpow2, hp2, hc3.1, hc3.2, hs2.1, hs2.2, hu]
/-- what a draw leaves of the pot -/
theorem take_any {S : List OD} {k : Nat} {a b c u : Int} (h : Pot S k a b c) (ha : 0 ≤ a) (hb : 0 ≤ b) (hb2 : b < 2 ^ 61) (hc : 0 ≤ c) (hc2 : c < 1000000) (hu : 0 < u) (hu2 : u < 1073741824) :
    ∃ (r a' c' : Int) (S' : List OD), K61.m__law_take [.cell k, .int u] S = .ok (.sh (.int r)) S' ∧ 0 ≤ r ∧ r < u ∧ Pot S' k a' b c' ∧ 0 ≤ a' ∧ 0 ≤ c' ∧ c' ≤ c + 1 ∧ S'.length = S.length := by
  by_cases h0 : 0 < a
  · exact ⟨_, _, _, _, take_pos h h0 hu hu2, Int.emod_nonneg _ (by omega), Int.emod_lt_of_pos _ hu, List.getElem?_set_self h.lt, Int.ediv_nonneg ha (by omega), hc, by omega, by simp⟩
  · refine ⟨_, _, _, _, take_zero h h0 hb hb2 hc hc2 hu, ?_, ?_, List.getElem?_set_self h.lt, ha, by omega, by omega, by simp⟩
    · unfold drawA
      rw [if_neg h0]
      exact Int.emod_nonneg _ (by omega)
    · unfold drawA
      rw [if_neg h0]
      exact Int.emod_lt_of_pos _ hu
end Dn
end

section
set_option maxHeartbeats 4000000
-- P2
/-! P2: comprehensions and loops as plain laws; the pot by a bound on its draws -/
namespace Dn
open PySem PySem.Spec L2
theorem keepE_wipe (old : List (Option RV)) : ∀ (vs : List Nat) (env : List (Option RV)), keepE old env vs = keepE old (wipeE env vs) vs := fun vs env => by
  have key : ∀ (vs ws : List Nat) (e1 e2 : List (Option RV)), e1.length = e2.length → (∀ i, i ∉ vs → e1[i]? = e2[i]?) → keepE old e1 vs = keepE old e2 vs := by
    intro vs
    induction vs with
    | nil =>
      intro _ e1 e2 _ h
      exact List.ext_getElem? fun i => h i (by simp)
    | cons v vs ih =>
      intro ws e1 e2 hl h
      rw [keepE, keepE]
      apply List.ext_getElem?
      intro i
      by_cases hv : v = i
      · subst hv
        by_cases hh : v < e1.length
        · rw [List.getElem?_set_self (by rw [keepE_length]; exact hh), List.getElem?_set_self (by rw [keepE_length, ← hl]; exact hh)]
        · rw [List.getElem?_eq_none (by rw [List.length_set, keepE_length]; omega), List.getElem?_eq_none (by rw [List.length_set, keepE_length, ← hl]; omega)]
      · rw [List.getElem?_set_ne hv, List.getElem?_set_ne hv]
        by_cases hi : i ∈ vs
        · have inn : ∀ (ws : List Nat) (e : List (Option RV)), i ∈ ws → (keepE old e ws)[i]? = if i < e.length then some (match old[i]? with
              | some (some (.sh d)) => some (.sh d)
              | _ => none) else none := by
            intro ws
            induction ws with
            | nil => intro e z; cases z
            | cons w ws ih2 =>
              intro e z
              rw [keepE]
              by_cases hw : w = i
              · subst hw
                by_cases hh : w < e.length
                · rw [List.getElem?_set_self (by rw [keepE_length]; exact hh), if_pos hh]
                  all_goals rfl
                · rw [List.getElem?_eq_none (by rw [List.length_set, keepE_length]; omega), if_neg hh]
              · rw [List.getElem?_set_ne hw]
                exact ih2 e ((List.mem_cons.mp z).resolve_left (Ne.symm hw))
          rw [inn vs e1 hi, inn vs e2 hi, hl]
        · have out : ∀ (ws : List Nat) (e : List (Option RV)), i ∉ ws → (keepE old e ws)[i]? = e[i]? := by
            intro ws
            induction ws with
            | nil => intro e _; rfl
            | cons w ws ih2 =>
              intro e z
              rw [keepE, List.getElem?_set_ne (fun q => z (by simp [q]))]
              exact ih2 e fun q => z (by simp [q])
          rw [out vs e1 hi, out vs e2 hi]
          exact h i (by simp [Ne.symm hv, hi])
  refine key vs vs env (wipeE env vs) (wipeE_length env vs).symm fun i hi => ?_
  have out : ∀ (ws : List Nat), i ∉ ws → (wipeE env ws)[i]? = env[i]? := by
    intro ws
    induction ws with
    | nil => intro _; rfl
    | cons w ws ih2 =>
      intro z
      rw [wipeE, List.getElem?_set_ne (fun q => z (by simp [q]))]
      exact ih2 fun q => z (by simp [q])
  exact (out vs hi).symm
/-- two lists, member by member -/
inductive All2 (Q : D → D → Prop) : List D → List D → Prop
  | nil : All2 Q [] []
  | cons {d x : D} {ds xs : List D} : Q d x → All2 Q ds xs → All2 Q (d :: ds) (x :: xs)
theorem All2.length {Q : D → D → Prop} {ds xs : List D} (h : All2 Q ds xs) : xs.length = ds.length := by
  induction h with
  | nil => rfl
  | cons _ _ ih => simp [ih]
theorem All2.mem {Q : D → D → Prop} {ds xs : List D} (h : All2 Q ds xs) {x : D} (hx : x ∈ xs) : ∃ d ∈ ds, Q d x := by
  induction h with
  | nil => cases hx
  | cons q _ ih =>
    rcases List.mem_cons.mp hx with rfl | hx
    · exact ⟨_, List.mem_cons_self, q⟩
    · obtain ⟨d, h1, h2⟩ := ih hx
      exact ⟨d, List.mem_cons_of_mem _ h1, h2⟩
theorem All2.map {h : D → D} {ds xs : List D} (a : All2 (fun d x => x = h d) ds xs) : xs = ds.map h := by
  induction a with
  | nil => rfl
  | cons q _ ih => rw [q, ih]; rfl
theorem lcL_spec {vs : List Nat} {f : GT} {c : DT} {e : DZ} {I : Nat → List (Option RV) → List OD → Prop} {Q : D → D → Prop} : ∀ (ds acc : List D) (n : Nat) (st : DSt), I n (wipeE st.env vs) st.S →
    (∀ i d E S, ds[i]? = some d → I (n + i) E S → ∃ st2 st2' x st3, f d ⟨E, S⟩ = some st2 ∧ c st2 = .ok true st2' ∧ e st2' = .ok x st3 ∧ I (n + i + 1) (wipeE st3.env vs) st3.S ∧ Q d x) →
    ∃ xs st', lcL vs f c e ds acc st = .ok (acc ++ xs) st' ∧ All2 Q ds xs ∧ I (n + ds.length) (wipeE st'.env vs) st'.S
  | [], acc, n, st, hI, _ => ⟨[], st, by rw [lcL, List.append_nil], .nil, hI⟩
  | d :: ds, acc, n, st, hI, step => by
    obtain ⟨st2, st2', x, st3, e1, e2, e3, hI3, q⟩ := step 0 d (wipeE st.env vs) st.S rfl hI
    obtain ⟨xs, st', e4, a4, hI4⟩ := lcL_spec ds (acc ++ [x]) (n + 1) st3 hI3 fun i d' E S hd hi => by
      have := step (i + 1) d' E S hd (by rw [show n + (i + 1) = n + 1 + i by omega]; exact hi)
      rw [show n + (i + 1) + 1 = n + 1 + i + 1 by omega] at this
      exact this
    refine ⟨x :: xs, st', ?_, .cons q a4, by rw [show n + (d :: ds).length = n + 1 + ds.length by simp; omega]; exact hI4⟩
    rw [lcL]
    have eE : ({ st with env := wipeE st.env vs } : DSt) = ⟨wipeE st.env vs, st.S⟩ := rfl
    rw [eE, e1]
    simp only [e2, e3, Out.bindN, if_true]
    rw [e4, List.append_assoc]
    rfl
/-- a comprehension that takes every member -/
theorem lc_spec {s : DL} {vs : List Nat} {f : GT} {c : DT} {e : DZ} (I : Nat → List (Option RV) → List OD → Prop) (Q : D → D → Prop) {st st1 : DSt} {ds : List D} (hs : s st = .ok ds st1) (hl : ds.length ≤ sizeLine) (hI : I 0 (wipeE st1.env vs) st1.S)
    (step : ∀ i d E S, ds[i]? = some d → I i E S → ∃ st2 st2' x st3, f d ⟨E, S⟩ = some st2 ∧ c st2 = .ok true st2' ∧ e st2' = .ok x st3 ∧ I (i + 1) (wipeE st3.env vs) st3.S ∧ Q d x) :
    ∃ xs E S', gLc s vs f c e st = .ok (.ow (.lst xs)) ⟨keepE st1.env E vs, S'⟩ ∧ All2 Q ds xs ∧ I ds.length E S' := by
  obtain ⟨xs, st', e1, a1, i1⟩ := lcL_spec (f := f) (c := c) (e := e) (I := I) (Q := Q) ds [] 0 st1 hI fun i d E S hd hi => by
    rw [Nat.zero_add] at hi ⊢
    exact step i d E S hd hi
  rw [Nat.zero_add] at i1
  refine ⟨xs, wipeE st'.env vs, st'.S, ?_, a1, i1⟩
  unfold gLc
  rw [hs]
  show (if ds.length ≤ sizeLine then _ else _) = _
  rw [if_pos hl, e1]
  show Out.ok _ _ = _
  rw [List.nil_append, keepE_wipe]
/-! ### the pot -/
def PotIn (S : List OD) (k n : Nat) : Prop := ∃ a b c : Int, Pot S k a b c ∧ 0 ≤ a ∧ 0 ≤ b ∧ b < 2 ^ 61 ∧ 0 ≤ c ∧ c ≤ n
theorem PotIn.mono {S : List OD} {k m n : Nat} (h : PotIn S k m) (l : m ≤ n) : PotIn S k n := by
  obtain ⟨a, b, c, h1, h2, h3, h4, h5, h6⟩ := h
  exact ⟨a, b, c, h1, h2, h3, h4, h5, by omega⟩
theorem take_in {S : List OD} {k n : Nat} {u : Int} (h : PotIn S k n) (hn : n < 1000000) (hu : 0 < u) (hu2 : u < 1073741824) : ∃ (r : Int) (S' : List OD), K61.m__law_take [.cell k, .int u] S = .ok (.sh (.int r)) S' ∧ 0 ≤ r ∧ r < u ∧ PotIn S' k (n + 1) := by
  obtain ⟨a, b, c, h1, h2, h3, h4, h5, h6⟩ := h
  obtain ⟨r, a', c', S', e, r1, r2, p, p1, p2, p3, _⟩ := take_any h1 h2 h3 h4 h5 (by omega) hu hu2
  exact ⟨r, S', e, r1, r2, a', b, c', p, p1, h3, h4, p2, by omega⟩
theorem atI_lt {xs : List D} {r : Int} (h0 : 0 ≤ r) (h1 : r < xs.length) : ∃ x, atI xs r = some x ∧ x ∈ xs := by
  have hn : r.toNat < xs.length := by omega
  refine ⟨xs[r.toNat], ?_, List.getElem_mem _⟩
  unfold atI ixN
  rw [if_pos h0, if_pos h1]
  exact List.getElem?_eq_getElem hn
theorem of_in {S : List OD} {k n : Nat} {xs : List D} (h : PotIn S k n) (hn : n < 1000000) (hx : xs ≠ []) (hl : xs.length < 1073741824) : ∃ (x : D) (S' : List OD), K61.m__law_of [.cell k, .lst xs] S = .ok (.sh x) S' ∧ x ∈ xs ∧ PotIn S' k (n + 1) := by
  have hp : 0 < xs.length := List.length_pos_iff.mpr hx
  obtain ⟨r, S', e, r1, r2, p⟩ := take_in (u := (xs.length : Int)) h hn (by omega) (by omega)
  obtain ⟨x, ex, mx⟩ := atI_lt r1 r2
  refine ⟨x, S', ?_, mx, p⟩
  simp [K61.m__law_of, K61.g_law_of, fm, outF, gSeq, gRet, gBin, gN, gV, frz, gFn, gLen, gConsA, gNilA, gCall, lenD, Out.bind, Out.bindS, RV.fz, opt, e, outE, ixD, ex]
/-! ### a drawn picture -/
def colours : List D := [.str "red", .str "blue", .str "a", .str "zzzzzzzz", .non, .non]
/-- rows of one width of the law's colours -/
def RowOf (w : Nat) (d : D) : Prop := ∃ xs, d = .tup xs ∧ xs.length = w ∧ ∀ x ∈ xs, x ∈ colours
def PicOf (h w : Nat) (rows : List D) : Prop := rows.length = h ∧ ∀ r ∈ rows, RowOf w r
theorem upTo_length (lo : Int) (n : Nat) : (upTo lo n).length = n := by simp [upTo]
theorem rng_ok {i : Nat} {st : DSt} {w : Int} (h : st.env[i]? = some (some (.sh (.int w)))) (h1 : 0 ≤ w) (h2 : w < 1000) : gRng1 (gConsA (gN i) gNilA) st = .ok (upTo 0 w.toNat) st := by
  have b : -4611686018427387904 ≤ w ∧ w < 4611686018427387904 := ⟨by omega, by omega⟩
  simp [gRng1, gConsA, gNilA, gN, h, Out.bind, RV.fz, b]
theorem names_lst (st : DSt) : gLst (gConsA (frz (gC (.str "red"))) (gConsA (frz (gC (.str "blue"))) (gConsA (frz (gC (.str "a"))) (gConsA (frz (gC (.str "zzzzzzzz"))) (gConsA (frz (gC .non)) (gConsA (frz (gC .non)) gNilA)))))) st = .ok (.ow (.lst colours)) st := by
  have hz : sizeLine = 16777216 := rfl
  simp [gLst, gConsA, gNilA, frz, gC, Out.bind, RV.fz, hz, colours]
/-- the slots of _law_drawn amid its work -/
def EnvD (k : Nat) (t w : Int) (E : List (Option RV)) : Prop := ∃ nm, (nm = .ow (.lst colours) ∨ nm = .sh (.lst colours)) ∧ E = [some (.sh (.cell k)), some nm, some (.sh (.int t)), some (.sh (.int w)), none, none]
def EnvDr (k : Nat) (t w : Int) (E : List (Option RV)) : Prop := ∃ nm r, (nm = .ow (.lst colours) ∨ nm = .sh (.lst colours)) ∧ E = [some (.sh (.cell k)), some nm, some (.sh (.int t)), some (.sh (.int w)), some (.sh r), none]
theorem row_in {k n : Nat} {t w : Int} {r : D} {nm : RV} {S : List OD} (hnm : nm = .ow (.lst colours) ∨ nm = .sh (.lst colours)) (hp : PotIn S k n) (hw : 0 ≤ w) (hw2 : w < 1000) (hn : n + w.toNat < 1000000) :
    ∃ row E S', frz (gCall tupleD (gConsA (frz (gLc (gRng1 (gConsA (gN 3) gNilA)) [5] (fName 5) gYes (frz (gFn K61.m__law_of (gLen 2 (gConsA (frz (gV 0)) (gConsA (frz (gV 1)) gNilA))))))) gNilA)) ⟨[some (.sh (.cell k)), some nm, some (.sh (.int t)), some (.sh (.int w)), some (.sh r), none], S⟩ = .ok row ⟨E, S'⟩ ∧ EnvDr k t w E ∧ RowOf w.toNat row ∧ PotIn S' k (n + w.toNat) := by
  have hrng : gRng1 (gConsA (gN 3) gNilA) ⟨[some (.sh (.cell k)), some nm, some (.sh (.int t)), some (.sh (.int w)), some (.sh r), none], S⟩ = .ok (upTo 0 w.toNat) ⟨[some (.sh (.cell k)), some nm, some (.sh (.int t)), some (.sh (.int w)), some (.sh r), none], S⟩ := rng_ok rfl hw hw2
  obtain ⟨xs, E, S', e, a, i⟩ := lc_spec (vs := [5]) (f := fName 5) (c := gYes) (e := frz (gFn K61.m__law_of (gLen 2 (gConsA (frz (gV 0)) (gConsA (frz (gV 1)) gNilA))))) (fun i E S => (∃ nm, (nm = .ow (.lst colours) ∨ nm = .sh (.lst colours)) ∧ E = [some (.sh (.cell k)), some nm, some (.sh (.int t)), some (.sh (.int w)), some (.sh r), none]) ∧ PotIn S k (n + i)) (fun _ x => x ∈ colours) hrng
    (by rw [upTo_length, show sizeLine = 16777216 from rfl]; omega) ⟨⟨nm, hnm, rfl⟩, hp⟩ fun i d E S hd ⟨⟨nm', hnm', eE⟩, hp'⟩ => by
      have hi : i < w.toNat := by
        have := (List.getElem?_eq_some_iff.mp hd).1
        rwa [upTo_length] at this
      obtain ⟨x, S', ex, mx, px⟩ := of_in (xs := colours) hp' (by omega) (by simp [colours]) (by simp [colours])
      subst eE
      refine ⟨_, _, x, ⟨[some (.sh (.cell k)), some (.sh (.lst colours)), some (.sh (.int t)), some (.sh (.int w)), some (.sh r), some (.sh d)], S'⟩, rfl, rfl, ?_, ⟨⟨.sh (.lst colours), .inr rfl, rfl⟩, px⟩, mx⟩
      rcases hnm' with rfl | rfl <;> simp [frz, gFn, gLen, gConsA, gNilA, gV, put, Out.bind, RV.fz, OD.fz, ex, outE]
  obtain ⟨⟨nm2, hnm2, rfl⟩, p2⟩ := i
  refine ⟨.tup xs, _, S', ?_, ⟨nm2, r, hnm2, rfl⟩, ⟨xs, rfl, by rw [a.length, upTo_length], fun x hx => ?_⟩, by rw [upTo_length] at p2; exact p2⟩
  · simp only [frz, gCall, gConsA, gNilA, e, Out.bind, RV.fz, OD.fz, tupleD, opt, keepE]
    rfl
  · obtain ⟨d, _, q⟩ := a.mem hx
    exact q
theorem drawn_in {k n : Nat} {S : List OD} (hp : PotIn S k n) (hn : n + 1000 < 1000000) : ∃ (h w : Nat) (rows : List D) (S' : List OD), K61.m__law_drawn [.cell k] S = .ok (.sh (.tup rows)) S' ∧ 1 ≤ h ∧ h ≤ 7 ∧ 1 ≤ w ∧ w ≤ 7 ∧ PicOf h w rows ∧ PotIn S' k (n + 100) := by
  obtain ⟨r1, S1, e1, a1, b1, p1⟩ := take_in (u := 7) hp (by omega) (by decide) (by decide)
  obtain ⟨r2, S2, e2, a2, b2, p2⟩ := take_in (u := 7) p1 (by omega) (by decide) (by decide)
  have hrng : gRng1 (gConsA (gN 2) gNilA) ⟨[some (.sh (.cell k)), some (.ow (.lst colours)), some (.sh (.int (1 + r1))), some (.sh (.int (1 + r2))), none, none], S2⟩ = .ok (upTo 0 (1 + r1).toNat) ⟨[some (.sh (.cell k)), some (.ow (.lst colours)), some (.sh (.int (1 + r1))), some (.sh (.int (1 + r2))), none, none], S2⟩ := rng_ok rfl (by omega) (by omega)
  obtain ⟨rows, E, S', e, a, ⟨nm, hnm, eE⟩, p3⟩ := lc_spec (vs := [4]) (f := fName 4) (c := gYes) (e := frz (gCall tupleD (gConsA (frz (gLc (gRng1 (gConsA (gN 3) gNilA)) [5] (fName 5) gYes (frz (gFn K61.m__law_of (gLen 2 (gConsA (frz (gV 0)) (gConsA (frz (gV 1)) gNilA))))))) gNilA)))
    (fun i E S => EnvD k (1 + r1) (1 + r2) E ∧ PotIn S k (n + 2 + i * 7)) (fun _ x => RowOf (1 + r2).toNat x) hrng
    (by rw [upTo_length, show sizeLine = 16777216 from rfl]; omega) ⟨⟨_, .inl rfl, rfl⟩, p2⟩ fun i d E S hd ⟨⟨nm', hnm', eE⟩, hp'⟩ => by
      have hi : i < (1 + r1).toNat := by
        have := (List.getElem?_eq_some_iff.mp hd).1
        rwa [upTo_length] at this
      obtain ⟨row, E2, S2, er, ⟨nm2, rr, hnm2, eE2⟩, ro, pr⟩ := row_in (t := 1 + r1) (w := 1 + r2) (r := d) hnm' hp' (by omega) (by omega) (by omega)
      subst eE eE2
      exact ⟨_, _, row, _, rfl, rfl, er, ⟨⟨nm2, hnm2, rfl⟩, pr.mono (by omega)⟩, ro⟩
  subst eE
  refine ⟨(1 + r1).toNat, (1 + r2).toNat, rows, S', ?_, by omega, by omega, by omega, by omega, ⟨by rw [a.length, upTo_length], fun x hx => ?_⟩, p3.mono (by rw [upTo_length]; omega)⟩
  · have hz : sizeLine = 16777216 := rfl
    have nl := names_lst ⟨[some (.sh (.cell k)), none, some (.sh (.int (1 + r1))), some (.sh (.int (1 + r2))), none, none], S2⟩
    have tk : ∀ (st : DSt) (r : Int) (S' : List OD), st.env[0]? = some (some (.sh (.cell k))) → K61.m__law_take [.cell k, .int 7] st.S = .ok (.sh (.int r)) S' → frz (gBin addD (frz (gC (.int 1))) (frz (gFn K61.m__law_take (gLen 2 (gConsA (frz (gV 0)) (gConsA (frz (gC (.int 7))) gNilA)))))) st = .ok (.int (1 + r)) { st with S := S' } := fun st r S' h0 h1 => by
      simp [frz, gBin, gC, gFn, gLen, gConsA, gNilA, gV, h0, h1, Out.bind, RV.fz, outE, opt, addD]
    have first : gTgt (frz (Dn.gTup (gConsA (frz (gBin addD (frz (gC (.int 1))) (frz (gFn K61.m__law_take (gLen 2 (gConsA (frz (gV 0)) (gConsA (frz (gC (.int 7))) gNilA))))))) (gConsA (frz (gBin addD (frz (gC (.int 1))) (frz (gFn K61.m__law_take (gLen 2 (gConsA (frz (gV 0)) (gConsA (frz (gC (.int 7))) gNilA))))))) gNilA)))) (fTup 2 (fCons (fName 2) (fCons (fName 3) fNil))) ⟨[some (.sh (.cell k)), none, none, none, none, none], S⟩
        = .nx ⟨[some (.sh (.cell k)), none, some (.sh (.int (1 + r1))), some (.sh (.int (1 + r2))), none, none], S2⟩ := by
      have x1 := tk ⟨[some (.sh (.cell k)), none, none, none, none, none], S⟩ r1 S1 rfl e1
      have x2 := tk ⟨[some (.sh (.cell k)), none, none, none, none, none], S1⟩ r2 S2 rfl e2
      unfold gTgt
      rw [frz]
      unfold Dn.gTup
      simp only [gConsA, gNilA, x1, x2, Out.bind, Out.bindS, RV.fz]
      rfl
    unfold K61.m__law_drawn fm K61.g_law_drawn
    show outF (gSeq _ _ ⟨[some (.sh (.cell k)), none, none, none, none, none], S⟩) = _
    rw [gSeq, first]
    show outF (gSeq _ _ _) = _
    rw [gSeq, gSet, nl]
    show outF (gSeq (gRet _) _ ⟨[some (.sh (.cell k)), some (.ow (.lst colours)), some (.sh (.int (1 + r1))), some (.sh (.int (1 + r2))), none, none], S2⟩) = _
    rw [gSeq, gRet, gCall, gConsA, frz, e]
    rfl
  · obtain ⟨d, _, q⟩ := a.mem hx
    exact q
end Dn
end

section
set_option maxHeartbeats 4000000
-- P3
/-! P3: lines of pictures, words, right ones -/
namespace Dn
open PySem PySem.Spec L2
/-- a comprehension that reads alone -/
theorem lc_pure {s : DL} {vs : List Nat} {f : GT} {c : DT} {e : DZ} (h : D → D) {st : DSt} {ds : List D} (hs : s st = .ok ds st) (hl : ds.length ≤ sizeLine)
    (step : ∀ d ∈ ds, ∃ st2, f d ⟨wipeE st.env vs, st.S⟩ = some st2 ∧ c st2 = .ok true st2 ∧ e st2 = .ok (h d) st2 ∧ wipeE st2.env vs = wipeE st.env vs ∧ st2.S = st.S) :
    gLc s vs f c e st = .ok (.ow (.lst (ds.map h))) ⟨keepE st.env st.env vs, st.S⟩ := by
  obtain ⟨xs, E, S', e1, a, e2, e3⟩ := lc_spec (vs := vs) (f := f) (c := c) (e := e) (fun _ E S => E = wipeE st.env vs ∧ S = st.S) (fun d x => x = h d) hs hl ⟨rfl, rfl⟩ fun i d E S hd ⟨hE, hS⟩ => by
    subst hE hS
    obtain ⟨st2, z1, z2, z3, z4, z5⟩ := step d (List.mem_of_getElem? hd)
    exact ⟨st2, st2, h d, st2, z1, z2, z3, ⟨z4, z5⟩, rfl⟩
  rw [e1, a.map, e2, e3, ← keepE_wipe]
/-- what the two kinds of cells say -/
def cellS : D → Str
  | .str x => x
  | _ => "-"
def isCell : D → Prop
  | .str _ => True
  | .non => True
  | _ => False
def rowS (d : D) : Str := match d with
  | .tup xs => Txt.join " " (xs.map cellS)
  | _ => ""
theorem strsOf_map (xs : List D) (f : D → Str) : strsOf (xs.map fun d => .str (f d)) = some (xs.map f) := by
  induction xs with
  | nil => rfl
  | cons x xs ih =>
    show strsOf (.str (f x) :: xs.map fun d => .str (f d)) = _
    rw [strsOf, ih]
    rfl
/-- rows whose line is not too long -/
def RowFit (d : D) : Prop := ∃ xs, d = .tup xs ∧ (∀ x ∈ xs, isCell x) ∧ xs.length ≤ 1000 ∧ ((xs.map cellS).map (·.length)).sum + (xs.map cellS).length * 1 ≤ 16777216
theorem cells_line {xs : List D} (hx : ∀ x ∈ xs, isCell x) (hl : xs.length ≤ 1000) {E : List (Option RV)} {S : List OD} {i j : Nat} (hi : E[i]? = some (some (.sh (.tup xs)))) (hj : j < E.length) :
    gLc (gI asTu (gV i)) [j] (fName j) gYes (frz (gIf (gTest asB (frz (gBin isND (gN j) (frz (gC .non))))) (gC (.str "-")) (gV j))) ⟨E, S⟩ = .ok (.ow (.lst (xs.map fun d => .str (cellS d)))) ⟨keepE E E [j], S⟩ := by
  refine lc_pure (fun d => .str (cellS d)) (by simp [gI, frz, gV, hi, Out.bind, RV.fz, asTu]) (by rw [show sizeLine = 16777216 from rfl]; omega) fun d hd => ?_
  have hc := hx d hd
  refine ⟨⟨(wipeE E [j]).set j (some (.sh d)), S⟩, rfl, rfl, ?_, ?_, rfl⟩
  · have hg : ((wipeE E [j]).set j (some (.sh d)))[j]? = some (some (.sh d)) := List.getElem?_set_self (by rw [wipeE_length]; exact hj)
    cases d with
    | str x => simp [frz, gIf, gTest, gBin, gN, gC, gV, hg, Out.bind, RV.fz, isND, isNone, opt, bo, asB, cellS]
    | non => simp [frz, gIf, gTest, gBin, gN, gC, gV, hg, Out.bind, RV.fz, isND, isNone, opt, bo, asB, cellS]
    | _ => exact hc.elim
  · simp [wipeE]
theorem lines_of_ok {rows : List D} {S : List OD} (hr : ∀ r ∈ rows, RowFit r) (hl : rows.length ≤ 1000) : K61.m__law_lines_of [.tup rows] S = .ok (.ow (.lst (strL (rows.map rowS)))) S := by
  have e : gLc (gI asTu (gV 0)) [1] (fName 1) gYes (frz (gM1 joinD (frz (gC (.str " "))) (frz (gLc (gI asTu (gV 1)) [2] (fName 2) gYes (frz (gIf (gTest asB (frz (gBin isND (gN 2) (frz (gC .non))))) (gC (.str "-")) (gV 2)))))))
      ⟨[some (.sh (.tup rows)), none, none], S⟩ = .ok (.ow (.lst (rows.map fun r => .str (rowS r)))) ⟨[some (.sh (.tup rows)), none, none], S⟩ := by
    refine (lc_pure (ds := rows) (fun r => .str (rowS r)) (by simp [gI, frz, gV, Out.bind, RV.fz, asTu]) (by rw [show sizeLine = 16777216 from rfl]; omega) fun d hd => ?_).trans (by simp [keepE])
    obtain ⟨xs, rfl, hx, hxl, hz⟩ := hr d hd
    refine ⟨⟨[some (.sh (.tup rows)), some (.sh (.tup xs)), none], S⟩, rfl, rfl, ?_, rfl, rfl⟩
    have c := cells_line (S := S) (E := [some (.sh (.tup rows)), some (.sh (.tup xs)), none]) (i := 1) (j := 2) hx hxl rfl (by simp)
    have hz' : ((xs.map cellS).map (·.length)).sum + (xs.map cellS).length * ((" " : Str)).length ≤ 16777216 := hz
    rw [frz, gM1, frz]
    simp only [gC, Out.bind, RV.fz]
    rw [frz, c]
    simp only [Out.bind, RV.fz, OD.fz, joinD, joinS, strsOf_map, hz', if_true, opt, rowS, keepE]
    rfl
  have e2 : (rows.map fun r => D.str (rowS r)) = strL (rows.map rowS) := by simp [strL]
  unfold K61.m__law_lines_of fm K61.g_law_lines_of
  show outF (gSeq _ _ ⟨[some (.sh (.tup rows)), none, none], S⟩) = _
  rw [gSeq, gRet, e, e2]
  rfl
end Dn
end

section
set_option maxHeartbeats 4000000
-- P4
/-! P4: names, colours -/
namespace Dn
open PySem PySem.Spec L2
def ABC : Str := "abcdefghijklmnopqrstuvwxyz"
def letB (c : Nat) : Bool := !(Builtin.Str.occurrences ABC ⟨#[c]⟩ 0 ABC.length 1).isEmpty
def lettersB (x : Str) : Bool := (x.cps.toList.map letB).all id
def nameB (x : Str) : Bool := decide (1 ≤ x.length ∧ x.length ≤ 8) && lettersB x
def colB (x : Str) : Bool := x == "-" || nameB x
def sgB (d : D) : D := match d with
  | .str x => .bl (letB (x.cps.getD 0 0))
  | d => d
theorem bools_map {α : Type} (l : List α) (f : α → Bool) : bools (l.map fun a => .bl (f a)) = some (l.map f) := by
  induction l with
  | nil => rfl
  | cons a l ih =>
    show bools (.bl (f a) :: l.map fun a => .bl (f a)) = _
    rw [bools, ih]
    rfl
/-- all([sign in letters for sign in x]) -/
theorem all_letters {x : Str} {E : List (Option RV)} {S : List OD} {i j : Nat} (hi : E[i]? = some (some (.sh (.str x)))) (hj : j < E.length) (hl : x.length ≤ 1000) :
    gCall allD (gConsA (frz (gLc (gI asSt (gV i)) [j] (fName j) gYes (frz (gBin inD (gN j) (frz (gC (.str "abcdefghijklmnopqrstuvwxyz"))))))) gNilA) ⟨E, S⟩ = .ok (.sh (.bl (lettersB x))) ⟨keepE E E [j], S⟩ := by
  have e := lc_pure (vs := [j]) (f := fName j) (c := gYes) (e := frz (gBin inD (gN j) (frz (gC (.str "abcdefghijklmnopqrstuvwxyz"))))) (s := gI asSt (gV i)) (ds := signs x) (st := ⟨E, S⟩)
    sgB (by simp [gI, frz, gV, hi, Out.bind, RV.fz, asSt]) (by
        rw [show sizeLine = 16777216 from rfl]
        have : (signs x).length = x.length := by simp [signs, Str.length]
        omega) fun d hd => by
      obtain ⟨c, _, rfl⟩ := List.mem_map.mp hd
      have hg : ((wipeE E [j]).set j (some (.sh (.str ⟨#[c]⟩))))[j]? = some (some (.sh (.str ⟨#[c]⟩))) := List.getElem?_set_self (by rw [wipeE_length]; exact hj)
      refine ⟨⟨(wipeE E [j]).set j (some (.sh (.str ⟨#[c]⟩))), S⟩, rfl, rfl, ?_, by simp [wipeE], rfl⟩
      simp only [frz, gBin, gN, gC, hg, Out.bind, RV.fz, inD, inB, Option.map, opt]
      rfl
  have em : (signs x).map sgB = x.cps.toList.map fun c => D.bl (letB c) := by
    unfold signs
    rw [List.map_map]
    rfl
  rw [em] at e
  simp only [gCall, gConsA, gNilA, frz, e, Out.bind, RV.fz, OD.fz, allD, bools_map, Option.map, opt]
  rfl
theorem is_name_str {x : Str} {S : List OD} (hl : x.length ≤ 1000) : K61.m_is_name [.str x] S = .ok (.sh (.bl (nameB x))) S := by
  have hz : x.length ≤ 16777216 := by omega
  have hs : sizeLine = 16777216 := rfl
  have e := all_letters (x := x) (E := [some (.sh (.str x)), none]) (S := S) (i := 0) (j := 1) rfl (by simp) hl
  have hi : isT "str" "str" = true := rfl
  have i1 : (1 : Int) ≤ (x.length : Int) ↔ 1 ≤ x.length := by omega
  have i2 : (x.length : Int) ≤ 8 ↔ x.length ≤ 8 := by omega
  unfold K61.m_is_name fm K61.gis_name
  show outF (gSeq _ _ ⟨[some (.sh (.str x)), none], S⟩) = _
  rw [gSeq]
  have t : gIfS (gOrs (gNotT (gTest truD (frz (gIsi "str" (gN 0))))) [(gNotT (gCmp2 leD leD (frz (gC (.int 1))) (frz (gCall lenD (gConsA (gN 0) gNilA))) (frz (gC (.int 8)))))]) (gSeq (gRet (gC (.bl false))) Dn.gNil) Dn.gNil ⟨[some (.sh (.str x)), none], S⟩
      = if 1 ≤ x.length ∧ x.length ≤ 8 then .nx ⟨[some (.sh (.str x)), none], S⟩ else .rt (.sh (.bl false)) ⟨[some (.sh (.str x)), none], S⟩ := by
    by_cases h1 : 1 ≤ x.length
    · by_cases h2 : x.length ≤ 8
      · simp [gIfS, gOrs, gOrT, gNotT, gTest, frz, gIsi, gN, gC, gCmp2, gCall, gConsA, gNilA, lenD, Out.bind, Out.bindS, RV.fz, isiD, tyD, hi, opt, truD, hs, hz, leD, bo, h1, h2, Dn.gNil, i1, i2]
      · simp [gIfS, gOrs, gOrT, gNotT, gTest, frz, gIsi, gN, gC, gCmp2, gCall, gConsA, gNilA, lenD, Out.bind, Out.bindS, RV.fz, isiD, tyD, hi, opt, truD, hs, hz, leD, bo, h1, h2, Dn.gNil, gSeq, gRet, i1, i2]
    · simp [gIfS, gOrs, gOrT, gNotT, gTest, frz, gIsi, gN, gC, gCmp2, gCall, gConsA, gNilA, lenD, Out.bind, Out.bindS, RV.fz, isiD, tyD, hi, opt, truD, hs, hz, leD, bo, h1, Dn.gNil, gSeq, gRet, i1, i2]
  rw [t]
  unfold nameB
  by_cases hb : 1 ≤ x.length ∧ x.length ≤ 8
  · rw [if_pos hb]
    simp only [gSeq, gRet, e, Out.bindS, outF, hb]
    simp
  · rw [if_neg hb]
    simp only [hb, outF, decide_false, Bool.false_and]
theorem is_name_not {d : D} {S : List OD} {t : String} (h : tyD d = some t) (ht : isT "str" t = false) : K61.m_is_name [d] S = .ok (.sh (.bl false)) S := by
  simp [K61.m_is_name, K61.gis_name, fm, outF, gSeq, gIfS, gOrs, gOrT, gNotT, gTest, frz, gIsi, gN, gC, Out.bind, Out.bindS, RV.fz, isiD, h, ht, opt, truD, gRet]
theorem is_colour_str {x : Str} {S : List OD} (hl : x.length ≤ 1000) : K61.m__law_is_colour [.str x] S = .ok (.sh (.bl (colB x))) S := by
  have hz : x.length ≤ 16777216 := by omega
  have hs : sizeLine = 16777216 := rfl
  have e := all_letters (x := x) (E := [some (.sh (.str x)), none]) (S := S) (i := 0) (j := 1) rfl (by simp) hl
  have i1 : (1 : Int) ≤ (x.length : Int) ↔ 1 ≤ x.length := by omega
  have i2 : (x.length : Int) ≤ 8 ↔ x.length ≤ 8 := by omega
  unfold K61.m__law_is_colour fm K61.g_law_is_colour
  show outF (gSeq _ _ ⟨[some (.sh (.str x)), none], S⟩) = _
  rw [gSeq, gRet]
  unfold colB nameB
  have ed : eqD (.str x) (.str "-") = some (.sh (.bl (x == "-"))) := by
    simp only [eqD, eqB, eqS, Option.map]
    congr 3
  have first : gBin eqD (gN 0) (frz (gC (.str "-"))) ⟨[some (.sh (.str x)), none], S⟩ = .ok (.sh (.bl (x == "-"))) ⟨[some (.sh (.str x)), none], S⟩ := by
    simp [gBin, gN, gC, frz, Out.bind, RV.fz, ed, opt]
  have second : gVal2 leD leD (frz (gC (.int 1))) (frz (gCall lenD (gConsA (gN 0) gNilA))) (frz (gC (.int 8))) ⟨[some (.sh (.str x)), none], S⟩ = .ok (.sh (.bl (decide (1 ≤ x.length ∧ x.length ≤ 8)))) ⟨[some (.sh (.str x)), none], S⟩ := by
    by_cases h1 : 1 ≤ x.length
    · by_cases h2 : x.length ≤ 8
      · simp [frz, gN, gC, gVal2, gCall, gConsA, gNilA, lenD, Out.bind, RV.fz, opt, hs, hz, leD, bo, h1, h2, i1, i2]
      · simp [frz, gN, gC, gVal2, gCall, gConsA, gNilA, lenD, Out.bind, RV.fz, opt, hs, hz, leD, bo, h1, h2, i1, i2]
    · simp [frz, gN, gC, gVal2, gCall, gConsA, gNilA, lenD, Out.bind, RV.fz, opt, hs, hz, leD, bo, h1, i1, i2]
  rw [gOrL, gOrL, gOr, frz, first]
  simp only [Out.bind, RV.fz]
  cases hx : (x == ("-" : Str)) with
  | true => rfl
  | false =>
    simp only [gAndL, gAnd, frz, second, Out.bind, RV.fz]
    cases hb : decide (1 ≤ x.length ∧ x.length ≤ 8) with
    | false => rfl
    | true =>
      simp only [e, Out.bindS, outF]
      rfl
end Dn
end

section
set_option maxHeartbeats 4000000
-- P5
/-! P5: words of a line -/
namespace Dn
open PySem PySem.Spec L2 TL
def SP : Str := " "
def words (x : Str) : List Str := Txt.split x SP
theorem joinL_len (s : Nat) : ∀ ps : List (List Nat), ps ≠ [] → (joinL [s] ps).length + 1 = (ps.map List.length).sum + ps.length
  | [], h => absurd rfl h
  | [p], _ => by simp [joinL]
  | p :: q :: r, _ => by
    have ih := joinL_len s (q :: r) (by simp)
    rw [joinL]
    simp only [List.length_append, List.length_cons, List.length_nil, List.map_cons, List.sum_cons] at ih ⊢
    omega
theorem words_join (x : Str) : Txt.join SP (words x) = x := by
  rw [join_eq]
  exact StrLaws.join_split x SP
theorem words_ne (x : Str) : words x ≠ [] := by
  unfold words Txt.split
  split
  · simp
  · split
    · simp
    · rename_i h1 h2
      rw [StrLaws.partsBetween_eq]
      obtain ⟨p, q, e⟩ := StrLaws.partsFrom_ne x SP.length 0 (Builtin.Str.occurrences x SP 0 x.length (x.length + 1))
      rw [e]; simp
theorem words_len (x : Str) : ((words x).map (·.length)).sum + (words x).length = x.length + 1 := by
  have h := congrArg (fun z => (tl z).length) (words_join x)
  simp only [join_eq, tl_join] at h
  have e : tl SP = [32] := by decide
  rw [e] at h
  have hn : (words x).map tl ≠ [] := fun z => words_ne x (List.map_eq_nil_iff.mp z)
  have j := joinL_len 32 _ hn
  rw [h, List.map_map, List.length_map] at j
  have hl : (tl x).length = x.length := (len_tl x).symm
  have hm : (words x).map (List.length ∘ tl) = (words x).map (·.length) := List.map_congr_left fun z _ => (len_tl z).symm
  rw [hm, hl] at j
  omega
theorem sum_mem {l : List Nat} {n : Nat} (h : n ∈ l) : n ≤ l.sum := by
  induction l with
  | nil => cases h
  | cons a l ih =>
    rw [List.sum_cons]
    rcases List.mem_cons.mp h with rfl | h
    · omega
    · have := ih h; omega
theorem word_len {x w : Str} (h : w ∈ words x) : w.length ≤ x.length := by
  have h1 := words_len x
  have h2 := sum_mem (List.mem_map.mpr ⟨w, h, rfl⟩ : w.length ∈ (words x).map (·.length))
  have h3 : 0 < (words x).length := List.length_pos_iff.mpr (words_ne x)
  omega
theorem words_many (x : Str) : (words x).length ≤ x.length + 1 := by
  have h1 := words_len x
  omega
end Dn
end

section
set_option maxHeartbeats 4000000
-- P6
/-! P6: the law's own look at lines -/
namespace Dn
open PySem PySem.Spec L2
theorem lc_pure1 {s : DL} {vs : List Nat} {f : GT} {c : DT} {e : DZ} (h : D → D) {st st1 : DSt} {ds : List D} (hs : s st = .ok ds st1) (hl : ds.length ≤ sizeLine)
    (step : ∀ d ∈ ds, ∃ st2, f d ⟨wipeE st1.env vs, st1.S⟩ = some st2 ∧ c st2 = .ok true st2 ∧ e st2 = .ok (h d) st2 ∧ wipeE st2.env vs = wipeE st1.env vs ∧ st2.S = st1.S) :
    gLc s vs f c e st = .ok (.ow (.lst (ds.map h))) ⟨keepE st1.env st1.env vs, st1.S⟩ := by
  obtain ⟨xs, E, S', e1, a, e2, e3⟩ := lc_spec (vs := vs) (f := f) (c := c) (e := e) (fun _ E S => E = wipeE st1.env vs ∧ S = st1.S) (fun d x => x = h d) hs hl ⟨rfl, rfl⟩ fun i d E S hd ⟨hE, hS⟩ => by
    subst hE hS
    obtain ⟨st2, z1, z2, z3, z4, z5⟩ := step d (List.mem_of_getElem? hd)
    exact ⟨st2, st2, h d, st2, z1, z2, z3, ⟨z4, z5⟩, rfl⟩
  rw [e1, a.map, e2, e3, ← keepE_wipe]
def colD (d : D) : D := match d with
  | .str x => .bl (colB x)
  | d => d
theorem colD_map (ws : List Str) : (strL ws).map colD = ws.map fun w => D.bl (colB w) := by
  unfold strL
  rw [List.map_map]
  rfl
theorem all_id {ws : List Str} : (ws.map colB).all id = ws.all colB := by
  rw [List.all_map]
  rfl
section
variable {L : D} {m n : Int} {x : Str} {a4 a5 : Option RV} {S : List OD}
/-- all the words are colours -/
theorem due_all {ws : List Str} (hw : ∀ w ∈ ws, w.length ≤ 1000) (hl : ws.length ≤ 2000) :
    ∃ a5', gCall allD (gConsA (frz (gLc (gI asL (gV 4)) [5] (fName 5) gYes (frz (gFn K61.m__law_is_colour (gLen 1 (gConsA (frz (gV 5)) gNilA)))))) gNilA) ⟨[some (.sh L), some (.sh (.int m)), some (.sh (.int n)), some (.sh (.str x)), some (.ow (.lst (strL ws))), a5], S⟩
      = .ok (.sh (.bl (ws.all colB))) ⟨[some (.sh L), some (.sh (.int m)), some (.sh (.int n)), some (.sh (.str x)), some (.sh (.lst (strL ws))), a5'], S⟩ := by
  have e := lc_pure1 (vs := [5]) (f := fName 5) (c := gYes) (e := frz (gFn K61.m__law_is_colour (gLen 1 (gConsA (frz (gV 5)) gNilA)))) (s := gI asL (gV 4)) (ds := strL ws)
    (st := ⟨[some (.sh L), some (.sh (.int m)), some (.sh (.int n)), some (.sh (.str x)), some (.ow (.lst (strL ws))), a5], S⟩) (st1 := ⟨[some (.sh L), some (.sh (.int m)), some (.sh (.int n)), some (.sh (.str x)), some (.sh (.lst (strL ws))), a5], S⟩)
    colD (by simp [gI, frz, gV, Out.bind, RV.fz, OD.fz, asL]) (by rw [show sizeLine = 16777216 from rfl]; simp [strL]; omega) fun d hd => by
      obtain ⟨w, mw, rfl⟩ := List.mem_map.mp hd
      refine ⟨⟨[some (.sh L), some (.sh (.int m)), some (.sh (.int n)), some (.sh (.str x)), some (.sh (.lst (strL ws))), some (.sh (.str w))], S⟩, rfl, rfl, ?_, rfl, rfl⟩
      simp [frz, gFn, gLen, gConsA, gNilA, gV, Out.bind, RV.fz, is_colour_str (hw w mw), outE, colD]
  rw [colD_map] at e
  have fin : ∀ a5', (keepE [some (.sh L), some (.sh (.int m)), some (.sh (.int n)), some (.sh (.str x)), some (.sh (.lst (strL ws))), a5] [some (.sh L), some (.sh (.int m)), some (.sh (.int n)), some (.sh (.str x)), some (.sh (.lst (strL ws))), a5] [5]) = [some (.sh L), some (.sh (.int m)), some (.sh (.int n)), some (.sh (.str x)), some (.sh (.lst (strL ws))), a5'] →
      gCall allD (gConsA (frz (gLc (gI asL (gV 4)) [5] (fName 5) gYes (frz (gFn K61.m__law_is_colour (gLen 1 (gConsA (frz (gV 5)) gNilA)))))) gNilA) ⟨[some (.sh L), some (.sh (.int m)), some (.sh (.int n)), some (.sh (.str x)), some (.ow (.lst (strL ws))), a5], S⟩
      = .ok (.sh (.bl (ws.all colB))) ⟨[some (.sh L), some (.sh (.int m)), some (.sh (.int n)), some (.sh (.str x)), some (.sh (.lst (strL ws))), a5'], S⟩ := fun a5' h => by
    rw [h] at e
    simp only [gCall, gConsA, gNilA, frz, e, Out.bind, RV.fz, OD.fz, allD, bools_map, Option.map, opt, all_id]
  cases a5 with
  | none => exact ⟨none, fin none rfl⟩
  | some r =>
    cases r with
    | sh d => exact ⟨some (.sh d), fin _ rfl⟩
    | ow o => exact ⟨none, fin none rfl⟩
def dueBad (m n : Int) (x : Str) : Bool := decide (6 < n) || (!decide (((words x).length : Int) = m) || (decide (7 < m) || !(words x).all colB))
theorem split_ok (h : x.length ≤ 1000) (st : DSt) (i : Nat) (hi : st.env[i]? = some (some (.sh (.str x)))) : gM1 splitD (gN i) (frz (gC (.str " "))) st = .ok (.ow (.lst (strL (words x)))) st := by
  have hz : sizeLine = 16777216 := rfl
  have e : splitD x (.str (Str.ofString " ")) = some (.ow (.lst (strL (words x)))) := by
    unfold splitD
    exact if_pos ⟨by decide, by omega⟩
  simp only [gM1, gN, gC, frz, hi, Out.bind, RV.fz]
  rw [e]
  rfl
theorem due_turn (hx : x.length ≤ 1000) : ∃ a4' a5', (gSeq (gSet 4 (gM1 splitD (gN 3) (frz (gC (.str " ")))))
 (gSeq (gIfS (gOrs (gTest asB (frz (gBin gtD (gN 2) (frz (gC (.int 6)))))) [(gTest asB (frz (gBin neD (frz (gCall lenD (gConsA (gN 4) gNilA))) (gN 1)))), (gTest asB (frz (gBin gtD (gN 1) (frz (gC (.int 7)))))), (gNotT (gTest truD (frz (gCall allD (gConsA (frz (gLc (gI asL (gV 4)) [5] (fName 5) gYes (frz (gFn K61.m__law_is_colour (gLen 1 (gConsA (frz (gV 5)) gNilA)))))) gNilA)))))]) (gSeq (gRet (gBin addD (gN 2) (frz (gC (.int 1)))))
 Dn.gNil) Dn.gNil)
 Dn.gNil)) ⟨[some (.sh L), some (.sh (.int m)), some (.sh (.int n)), some (.sh (.str x)), a4, a5], S⟩
  = if dueBad m n x = true then .rt (.sh (.int (n + 1))) ⟨[some (.sh L), some (.sh (.int m)), some (.sh (.int n)), some (.sh (.str x)), a4', a5'], S⟩ else .nx ⟨[some (.sh L), some (.sh (.int m)), some (.sh (.int n)), some (.sh (.str x)), a4', a5'], S⟩ := by
  have hw : ∀ w ∈ words x, w.length ≤ 1000 := fun w h => Nat.le_trans (word_len h) hx
  obtain ⟨a5', all⟩ := due_all (L := L) (m := m) (n := n) (x := x) (a5 := a5) (S := S) hw (by have := words_many x; omega)
  have sp := split_ok hx ⟨[some (.sh L), some (.sh (.int m)), some (.sh (.int n)), some (.sh (.str x)), a4, a5], S⟩ 3 rfl
  have hz : sizeLine = 16777216 := rfl
  have ln : (strL (words x)).length = (words x).length := by simp [strL]
  rw [gSeq, gSet, sp]
  show ∃ a4' a5', gSeq _ _ ⟨[some (.sh L), some (.sh (.int m)), some (.sh (.int n)), some (.sh (.str x)), some (.ow (.lst (strL (words x)))), a5], S⟩ = _
  unfold dueBad
  generalize gCall allD (gConsA (frz (gLc (gI asL (gV 4)) [5] (fName 5) gYes (frz (gFn K61.m__law_is_colour (gLen 1 (gConsA (frz (gV 5)) gNilA)))))) gNilA) = T at all ⊢
  by_cases h1 : 6 < n
  · refine ⟨some (.ow (.lst (strL (words x)))), a5, ?_⟩
    simp [gSeq, gIfS, gOrs, gOrT, gTest, gBin, gN, gC, frz, Out.bind, Out.bindS, RV.fz, gtD, bo, opt, asB, h1, gRet, addD]
  · by_cases h2 : ((words x).length : Int) = m
    · by_cases h3 : 7 < m
      · refine ⟨some (.ow (.lst (strL (words x)))), a5, ?_⟩
        simp [gSeq, gIfS, gOrs, gOrT, gTest, gBin, gN, gC, frz, Out.bind, Out.bindS, RV.fz, OD.fz, gtD, bo, opt, asB, h1, h2, h3, gRet, addD, gCall, gConsA, gNilA, lenD, ln, neD, eqB, eqS]
      · refine ⟨some (.sh (.lst (strL (words x)))), a5', ?_⟩
        cases hc : (words x).all colB with
        | true =>
          rw [hc] at all
          simp [gSeq, gIfS, gOrs, gOrT, gNotT, gTest, gBin, gN, gC, frz, Out.bind, Out.bindS, RV.fz, OD.fz, gtD, bo, opt, asB, truD, h1, h2, h3, gRet, addD, gConsA, gNilA, gCall, lenD, ln, neD, eqB, eqS, Dn.gNil, all]
        | false =>
          rw [hc] at all
          simp [gSeq, gIfS, gOrs, gOrT, gNotT, gTest, gBin, gN, gC, frz, Out.bind, Out.bindS, RV.fz, OD.fz, gtD, bo, opt, asB, truD, h1, h2, h3, gRet, addD, gConsA, gNilA, gCall, lenD, ln, neD, eqB, eqS, Dn.gNil, all]
    · refine ⟨some (.ow (.lst (strL (words x)))), a5, ?_⟩
      simp [gSeq, gIfS, gOrs, gOrT, gTest, gBin, gN, gC, frz, Out.bind, Out.bindS, RV.fz, OD.fz, gtD, bo, opt, asB, h1, h2, gRet, addD, gCall, gConsA, gNilA, lenD, ln, neD, eqB, eqS]
end
end Dn
end

section
set_option maxHeartbeats 4000000
-- P7
/-! P7: the law's first wrong line -/
namespace Dn
open PySem PySem.Spec L2
def dueFrom (m : Int) : Int → List Str → Int
  | _, [] => 0
  | n, x :: xs => if dueBad m n x = true then n + 1 else dueFrom m (n + 1) xs
def dueOf (xs : List Str) : Int := dueFrom (words (xs.headD SP)).length 0 xs
def dueB : DS := (gSeq (gSet 4 (gM1 splitD (gN 3) (frz (gC (.str " ")))))
 (gSeq (gIfS (gOrs (gTest asB (frz (gBin gtD (gN 2) (frz (gC (.int 6)))))) [(gTest asB (frz (gBin neD (frz (gCall lenD (gConsA (gN 4) gNilA))) (gN 1)))), (gTest asB (frz (gBin gtD (gN 1) (frz (gC (.int 7)))))), (gNotT (gTest truD (frz (gCall allD (gConsA (frz (gLc (gI asL (gV 4)) [5] (fName 5) gYes (frz (gFn K61.m__law_is_colour (gLen 1 (gConsA (frz (gV 5)) gNilA)))))) gNilA)))))]) (gSeq (gRet (gBin addD (gN 2) (frz (gC (.int 1)))))
 Dn.gNil) Dn.gNil)
 Dn.gNil))
def dueT : GT := fTup 2 (fCons (fName 2) (fCons (fName 3) fNil))
theorem due_loop {L : D} {m : Int} {S : List OD} : ∀ (xs : List Str) (k : Nat) (a2 a3 a4 a5 : Option RV), (∀ x ∈ xs, x.length ≤ 1000) →
    ∃ b2 b3 b4 b5, gForL dueT dueB (((strL xs).zipIdx k).map fun p => .tup [.int p.2, p.1]) ⟨[some (.sh L), some (.sh (.int m)), a2, a3, a4, a5], S⟩
      = if dueFrom m k xs = 0 then .nx ⟨[some (.sh L), some (.sh (.int m)), b2, b3, b4, b5], S⟩ else .rt (.sh (.int (dueFrom m k xs))) ⟨[some (.sh L), some (.sh (.int m)), b2, b3, b4, b5], S⟩
  | [], k, a2, a3, a4, a5, _ => ⟨a2, a3, a4, a5, rfl⟩
  | x :: xs, k, a2, a3, a4, a5, h => by
    obtain ⟨a4', a5', e⟩ := due_turn (L := L) (m := m) (n := k) (x := x) (a4 := a4) (a5 := a5) (S := S) (h x (by simp))
    have e : dueB ⟨[some (.sh L), some (.sh (.int m)), some (.sh (.int k)), some (.sh (.str x)), a4, a5], S⟩ = _ := e
    have ft : dueT (.tup [.int k, .str x]) ⟨[some (.sh L), some (.sh (.int m)), a2, a3, a4, a5], S⟩ = some ⟨[some (.sh L), some (.sh (.int m)), some (.sh (.int k)), some (.sh (.str x)), a4, a5], S⟩ := rfl
    show ∃ b2 b3 b4 b5, gForL dueT dueB (.tup [.int k, .str x] :: (((strL xs).zipIdx (k + 1)).map fun p => .tup [.int p.2, p.1])) _ = _
    rw [gForL, ft]
    simp only
    rw [e]
    unfold dueFrom
    by_cases hb : dueBad m k x = true
    · refine ⟨some (.sh (.int k)), some (.sh (.str x)), a4', a5', ?_⟩
      rw [if_pos hb, if_pos hb, if_neg (by omega)]
    · rw [if_neg hb, if_neg hb]
      obtain ⟨b2, b3, b4, b5, r⟩ := due_loop xs (k + 1) (some (.sh (.int k))) (some (.sh (.str x))) a4' a5' fun y hy => h y (List.mem_cons_of_mem _ hy)
      exact ⟨b2, b3, b4, b5, r⟩
theorem due_ok {x : Str} {xs : List Str} {S : List OD} (h : ∀ y ∈ x :: xs, y.length ≤ 1000) (hl : xs.length ≤ 1000) : K61.m__law_due [.lst (strL (x :: xs))] S = .ok (.sh (.int (dueOf (x :: xs)))) S := by
  have hz : sizeLine = 16777216 := rfl
  have hx := h x (by simp)
  obtain ⟨b2, b3, b4, b5, r⟩ := due_loop (L := .lst (strL (x :: xs))) (m := (words x).length) (S := S) (x :: xs) 0 none none none none h
  unfold K61.m__law_due fm K61.g_law_due
  show outF (gSeq _ _ ⟨[some (.sh (.lst (strL (x :: xs)))), none, none, none, none, none], S⟩) = _
  have e1 : gSet 1 (gCall lenD (gConsA (frz (gM1 splitD (frz (gBin ixD (gN 0) (frz (gC (.int 0))))) (frz (gC (.str " "))))) gNilA)) ⟨[some (.sh (.lst (strL (x :: xs)))), none, none, none, none, none], S⟩ = .nx ⟨[some (.sh (.lst (strL (x :: xs)))), some (.sh (.int (words x).length)), none, none, none, none], S⟩ := by
    have e : splitD x (.str (Str.ofString " ")) = some (.ow (.lst (strL (words x)))) := by
      unfold splitD
      exact if_pos ⟨by decide, by omega⟩
    have e0 : gBin ixD (gN 0) (frz (gC (.int 0))) ⟨[some (.sh (.lst (strL (x :: xs)))), none, none, none, none, none], S⟩ = .ok (.sh (.str x)) ⟨[some (.sh (.lst (strL (x :: xs)))), none, none, none, none, none], S⟩ := by
      simp [gBin, gN, gC, frz, Out.bind, RV.fz, ixD, strL, atI, ixN, opt]
    simp only [gSet, gCall, gConsA, gNilA, frz, gM1, e0, Out.bind, Out.bindS, RV.fz, gC]
    rw [e]
    simp [opt, OD.fz, lenD, strL, Out.bind, Out.bindS, RV.fz, put]
  rw [gSeq, e1]
  show outF (gSeq (gFor _ dueT dueB) _ ⟨[some (.sh (.lst (strL (x :: xs)))), some (.sh (.int (words x).length)), none, none, none, none], S⟩) = _
  have e2 : gEnum (gConsA (frz (gV 0)) gNilA) ⟨[some (.sh (.lst (strL (x :: xs)))), some (.sh (.int (words x).length)), none, none, none, none], S⟩ = .ok ((strL (x :: xs)).zipIdx.map fun p => .tup [.int p.2, p.1]) ⟨[some (.sh (.lst (strL (x :: xs)))), some (.sh (.int (words x).length)), none, none, none, none], S⟩ := rfl
  rw [gSeq, gFor, e2]
  simp only [Out.bindS]
  rw [r]
  show outF _ = .ok (.sh (.int (dueFrom (words x).length 0 (x :: xs)))) S
  by_cases h0 : dueFrom (words x).length ((0 : Nat) : Int) (x :: xs) = 0
  · rw [if_pos h0]
    have h0' : dueFrom (words x).length 0 (x :: xs) = 0 := h0
    rw [h0']
    rfl
  · rw [if_neg h0]
    rfl
end Dn
end

section
set_option maxHeartbeats 4000000
-- P8
/-! P8: the program's look at one line -/
namespace Dn
open PySem PySem.Spec L2
/-- what a word of a line stands for -/
def cellW (w : Str) : D := if w == "-" then .non else .str w
def cellD : D → D
  | .str x => cellW x
  | d => d
theorem cellD_map (ws : List Str) : (strL ws).map cellD = ws.map cellW := by
  unfold strL
  rw [List.map_map]
  rfl
def goodL (x : Str) : Bool := decide ((words x).length ≤ 7) && (words x).all colB
def rowD (x : Str) : D := if goodL x = true then .tup ((words x).map cellW) else .non
section
variable {x : Str} {a2 : Option RV} {S : List OD}
theorem col_all {L : OD} {d0 : D} {ws : List Str} (hw : ∀ w ∈ ws, w.length ≤ 1000) (hl : ws.length ≤ 2000) :
    ∃ a2', gCall allD (gConsA (frz (gLc (gI asL (gV 1)) [2] (fName 2) gYes (frz (gOrL (gBin eqD (gN 2) (frz (gC (.str "-")))) [(gFn K61.m_is_name (gLen 1 (gConsA (frz (gV 2)) gNilA)))])))) gNilA) ⟨[some (.sh d0), some (.ow (.lst (strL ws))), a2], S⟩
      = .ok (.sh (.bl (ws.all colB))) ⟨[some (.sh d0), some (.sh (.lst (strL ws))), a2'], S⟩ := by
  have e := lc_pure1 (vs := [2]) (f := fName 2) (c := gYes) (e := frz (gOrL (gBin eqD (gN 2) (frz (gC (.str "-")))) [(gFn K61.m_is_name (gLen 1 (gConsA (frz (gV 2)) gNilA)))])) (s := gI asL (gV 1)) (ds := strL ws)
    (st := ⟨[some (.sh d0), some (.ow (.lst (strL ws))), a2], S⟩) (st1 := ⟨[some (.sh d0), some (.sh (.lst (strL ws))), a2], S⟩)
    colD (by simp [gI, frz, gV, Out.bind, RV.fz, OD.fz, asL]) (by rw [show sizeLine = 16777216 from rfl]; simp [strL]; omega) fun d hd => by
      obtain ⟨w, mw, rfl⟩ := List.mem_map.mp hd
      refine ⟨⟨[some (.sh d0), some (.sh (.lst (strL ws))), some (.sh (.str w))], S⟩, rfl, rfl, ?_, rfl, rfl⟩
      by_cases hc : w = "-"
      · simp [frz, gOrL, gOr, gBin, gN, gC, eqD, eqB, eqS, opt, bo, hc, truD, gFn, gLen, gConsA, gNilA, gV, Out.bind, RV.fz, is_name_str (hw w mw), outE, colD, colB]
      · simp [frz, gOrL, gOr, gBin, gN, gC, eqD, eqB, eqS, opt, bo, hc, truD, gFn, gLen, gConsA, gNilA, gV, Out.bind, RV.fz, is_name_str (hw w mw), outE, colD, colB]
  rw [colD_map] at e
  have fin : ∀ a2', (keepE [some (.sh d0), some (.sh (.lst (strL ws))), a2] [some (.sh d0), some (.sh (.lst (strL ws))), a2] [2]) = [some (.sh d0), some (.sh (.lst (strL ws))), a2'] →
      gCall allD (gConsA (frz (gLc (gI asL (gV 1)) [2] (fName 2) gYes (frz (gOrL (gBin eqD (gN 2) (frz (gC (.str "-")))) [(gFn K61.m_is_name (gLen 1 (gConsA (frz (gV 2)) gNilA)))])))) gNilA) ⟨[some (.sh d0), some (.ow (.lst (strL ws))), a2], S⟩
      = .ok (.sh (.bl (ws.all colB))) ⟨[some (.sh d0), some (.sh (.lst (strL ws))), a2'], S⟩ := fun a2' h => by
    rw [h] at e
    simp only [gCall, gConsA, gNilA, frz, e, Out.bind, RV.fz, OD.fz, allD, bools_map, Option.map, opt, all_id]
  cases a2 with
  | none => exact ⟨none, fin none rfl⟩
  | some r =>
    cases r with
    | sh d => exact ⟨some (.sh d), fin _ rfl⟩
    | ow o => exact ⟨none, fin none rfl⟩
theorem col_tup {d0 : D} {ws : List Str} (hl : ws.length ≤ 2000) :
    ∃ st, gCall tupleD (gConsA (frz (gLc (gI asL (gV 1)) [2] (fName 2) gYes (frz (gIf (gTest asB (frz (gBin eqD (gN 2) (frz (gC (.str "-")))))) (gC .non) (gV 2))))) gNilA) ⟨[some (.sh d0), some (.sh (.lst (strL ws))), a2], S⟩
      = .ok (.sh (.tup (ws.map cellW))) ⟨st, S⟩ := by
  have e := lc_pure1 (vs := [2]) (f := fName 2) (c := gYes) (e := frz (gIf (gTest asB (frz (gBin eqD (gN 2) (frz (gC (.str "-")))))) (gC .non) (gV 2))) (s := gI asL (gV 1)) (ds := strL ws)
    (st := ⟨[some (.sh d0), some (.sh (.lst (strL ws))), a2], S⟩) (st1 := ⟨[some (.sh d0), some (.sh (.lst (strL ws))), a2], S⟩)
    cellD (by simp [gI, frz, gV, Out.bind, RV.fz, OD.fz, asL]) (by rw [show sizeLine = 16777216 from rfl]; simp [strL]; omega) fun d hd => by
      obtain ⟨w, mw, rfl⟩ := List.mem_map.mp hd
      refine ⟨⟨[some (.sh d0), some (.sh (.lst (strL ws))), some (.sh (.str w))], S⟩, rfl, rfl, ?_, rfl, rfl⟩
      by_cases hc : w = "-"
      · simp [frz, gIf, gTest, asB, gBin, gN, gC, eqD, eqB, eqS, opt, bo, hc, gV, Out.bind, RV.fz, cellD, cellW]
      · simp [frz, gIf, gTest, asB, gBin, gN, gC, eqD, eqB, eqS, opt, bo, hc, gV, Out.bind, RV.fz, cellD, cellW]
  rw [cellD_map] at e
  refine ⟨keepE [some (.sh d0), some (.sh (.lst (strL ws))), a2] [some (.sh d0), some (.sh (.lst (strL ws))), a2] [2], ?_⟩
  simp only [gCall, gConsA, gNilA, frz, e, Out.bind, RV.fz, OD.fz, tupleD, opt]
theorem colours_in_ok (hx : x.length ≤ 1000) : K61.m_colours_in [.str x] S = .ok (.sh (rowD x)) S := by
  have hz : sizeLine = 16777216 := rfl
  have hw : ∀ w ∈ words x, w.length ≤ 1000 := fun w h => Nat.le_trans (word_len h) hx
  have hn : (words x).length ≤ 2000 := by have := words_many x; omega
  have ln : (strL (words x)).length = (words x).length := by simp [strL]
  have sp := split_ok hx ⟨[some (.sh (.str x)), none, none], S⟩ 0 rfl
  obtain ⟨a2', all⟩ := col_all (L := .lst []) (d0 := .str x) (a2 := none) (S := S) hw hn
  obtain ⟨st, tp⟩ := col_tup (d0 := .str x) (a2 := a2') (S := S) hn
  obtain ⟨st0, tp0⟩ := col_tup (d0 := .str x) (a2 := none) (S := S) hn
  unfold K61.m_colours_in fm K61.gcolours_in
  show outF (gSeq _ _ ⟨[some (.sh (.str x)), none, none], S⟩) = _
  rw [gSeq, gSet, sp]
  show outF (gSeq _ _ ⟨[some (.sh (.str x)), some (.ow (.lst (strL (words x)))), none], S⟩) = _
  generalize gCall allD (gConsA (frz (gLc (gI asL (gV 1)) [2] (fName 2) gYes (frz (gOrL (gBin eqD (gN 2) (frz (gC (.str "-")))) [(gFn K61.m_is_name (gLen 1 (gConsA (frz (gV 2)) gNilA)))])))) gNilA) = T at all ⊢
  generalize gCall tupleD (gConsA (frz (gLc (gI asL (gV 1)) [2] (fName 2) gYes (frz (gIf (gTest asB (frz (gBin eqD (gN 2) (frz (gC (.str "-")))))) (gC .non) (gV 2))))) gNilA) = U at tp ⊢
  unfold rowD goodL
  by_cases h1 : 7 < (words x).length
  · have h2 : ¬ (words x).length ≤ 7 := by omega
    have h3 : (7 : Int) < (words x).length := by omega
    simp [gSeq, gIfS, gOrs, gOrT, gTest, gBin, gN, gC, frz, Out.bind, Out.bindS, RV.fz, OD.fz, gtD, bo, opt, asB, h2, h3, gRet, gCall, gConsA, gNilA, lenD, ln, outF]
  · have h2 : (words x).length ≤ 7 := by omega
    have h3 : ¬ (7 : Int) < (words x).length := by omega
    cases hc : (words x).all colB with
    | true =>
      rw [hc] at all
      simp [gSeq, gIfS, gOrs, gOrT, gNotT, gTest, gBin, gN, gC, frz, Out.bind, Out.bindS, RV.fz, OD.fz, gtD, bo, opt, asB, truD, h2, h3, gRet, gCall, gConsA, gNilA, lenD, ln, outF, Dn.gNil, all, tp]
    | false =>
      rw [hc] at all
      simp [gSeq, gIfS, gOrs, gOrT, gNotT, gTest, gBin, gN, gC, frz, Out.bind, Out.bindS, RV.fz, OD.fz, gtD, bo, opt, asB, truD, h2, h3, gRet, gCall, gConsA, gNilA, lenD, ln, outF, Dn.gNil, all]
end
end Dn
end

section
set_option maxHeartbeats 4000000
-- P9
/-! P9: reading lines -/
namespace Dn
open PySem PySem.Spec L2
/-! data that can be compared -/
def okP (n : Nat) (d : D) : Prop := ∃ p, toP d = some p ∧ p.canLay0 = true ∧ p.depth ≤ n
theorem okPs {n : Nat} : ∀ {xs : List D}, (∀ x ∈ xs, okP n x) → ∃ ps, toPs xs = some ps ∧ PyData.canLayAll0 ps = true ∧ PyData.depthAll ps ≤ n ∧ ps.length = xs.length
  | [], _ => ⟨[], by rw [toPs], by rw [PyData.canLayAll0], by rw [PyData.depthAll]; omega, rfl⟩
  | x :: xs, h => by
    obtain ⟨p, e, l, d⟩ := h x (by simp)
    obtain ⟨ps, e2, l2, d2, n2⟩ := okPs (xs := xs) fun y hy => h y (List.mem_cons_of_mem _ hy)
    refine ⟨p :: ps, by rw [toPs, e, e2], by rw [PyData.canLayAll0, l, l2]; rfl, by rw [PyData.depthAll]; omega, by simp [n2]⟩
theorem okP_tup {n : Nat} {xs : List D} (h : ∀ x ∈ xs, okP n x) : okP (n + 1) (.tup xs) := by
  obtain ⟨ps, e, l, d, _⟩ := okPs h
  exact ⟨.tuple ps, by rw [toP, e]; rfl, by rw [PyData.canLay0]; exact l, by rw [PyData.depth]; omega⟩
theorem okP_lst {n : Nat} {xs : List D} (h : ∀ x ∈ xs, okP n x) : okP (n + 1) (.lst xs) := by
  obtain ⟨ps, e, l, d, _⟩ := okPs h
  exact ⟨.list ps, by rw [toP, e]; rfl, by rw [PyData.canLay0]; exact l, by rw [PyData.depth]; omega⟩
theorem okP_non {n : Nat} : okP n .non := ⟨.none, by rw [toP], by rw [PyData.canLay0], by rw [PyData.depth]; omega⟩
theorem okP_str {n : Nat} {x : Str} (h : PyData.strOk x = true) : okP n (.str x) := ⟨.str x, by rw [toP], by rw [PyData.canLay0]; exact h, by rw [PyData.depth]; omega⟩
theorem okP.shaped {n : Nat} {d : D} (h : okP n d) (hn : n ≤ 64) : ∃ p, toP d = some p ∧ SeqAt.shaped p = true ∧ p.canLay0 = true := by
  obtain ⟨p, e, l, dd⟩ := h
  exact ⟨p, e, by unfold SeqAt.shaped; rw [l, Bool.true_and]; exact decide_eq_true (by omega), l⟩
theorem eqP_self {n : Nat} {d : D} (h : okP n d) (hn : n ≤ 64) : eqP d d = some true := by
  obtain ⟨p, e, s, l⟩ := h.shaped hn
  unfold eqP
  rw [e]
  simp only [s, and_self, if_true, SeqAt.eqv_refl p l]
theorem eqP_nil {n : Nat} {x : D} {xs : List D} (h : okP n (.lst (x :: xs))) (hn : n ≤ 64) : eqP (.lst (x :: xs)) (.lst []) = some false := by
  obtain ⟨p, e, s, l⟩ := h.shaped hn
  unfold eqP
  have e2 : toP (.lst []) = some (.list []) := by rw [toP, toPs]; rfl
  have s2 : SeqAt.shaped (.list []) = true := by decide
  rw [e, e2]
  simp only [s, s2, and_self, if_true]
  rw [toP, toPs] at e
  cases h1 : toP x with
  | none => rw [h1] at e; cases h2 : toPs xs <;> rw [h2] at e <;> exact absurd e (by simp)
  | some q =>
    cases h2 : toPs xs with
    | none => rw [h1, h2] at e; exact absurd e (by simp)
    | some qs =>
      rw [h1, h2] at e
      simp only [Option.map, Option.some.injEq] at e
      subst e
      rw [PyData.eqv, PyData.eqvAll]
def readB : DS := (gSeq (gSet 4 (gFn K61.m_colours_in (gLen 1 (gConsA (frz (gV 3)) gNilA))))
 (gSeq (gIfS (gOrs (gTest asB (frz (gBin isND (gN 4) (frz (gC .non))))) [(gTest asB (frz (gBin geD (gN 2) (frz (gC (.int 7)))))), (gAnds (gTest asB (frz (gBin neD (gN 1) (frz (gLst gNilA))))) [(gTest asB (frz (gBin neD (frz (gCall lenD (gConsA (gN 4) gNilA))) (frz (gCall lenD (gConsA (frz (gBin ixD (gN 1) (frz (gC (.int 0))))) gNilA))))))])]) (gSeq (gRaise "BadText" (frz (gBin addD (gN 2) (frz (gC (.int 1))))))
 Dn.gNil) Dn.gNil)
 (gSeq (gApp 1 (frz (gV 4)))
 Dn.gNil)))
section
variable {T : Option RV} {m : Nat} {k : Nat} {x : Str} {F : List D} {a4 : Option RV} {S : List OD}
/-- what the rows read so far tell -/
def FirstIs (m : Nat) (x : Str) (F : List D) : Prop := (F = [] ∧ m = (words x).length) ∨ (∃ r F', F = .tup r :: F' ∧ r.length = m ∧ m ≤ 7)
theorem read_turn (hx : x.length ≤ 1000) (hF : F.length ≤ 1000) (hP : okP 3 (.lst F)) (f : FirstIs m x F) :
    readB ⟨[T, some (.ow (.lst F)), some (.sh (.int k)), some (.sh (.str x)), a4], S⟩
  = if dueBad m k x = true then .ex "BadText" (.int (k + 1)) ⟨[T, some (.ow (.lst F)), some (.sh (.int k)), some (.sh (.str x)), some (.sh (rowD x))], S⟩
    else .nx ⟨[T, some (.ow (.lst (F ++ [rowD x]))), some (.sh (.int k)), some (.sh (.str x)), some (.sh (rowD x))], S⟩ := by
  have hz : sizeLine = 16777216 := rfl
  have hz1 : F.length < sizeLine := by omega
  have s1 : gSet 4 (gFn K61.m_colours_in (gLen 1 (gConsA (frz (gV 3)) gNilA))) ⟨[T, some (.ow (.lst F)), some (.sh (.int k)), some (.sh (.str x)), a4], S⟩ = .nx ⟨[T, some (.ow (.lst F)), some (.sh (.int k)), some (.sh (.str x)), some (.sh (rowD x))], S⟩ := by
    simp [gSet, gFn, gLen, gConsA, gNilA, frz, gV, Out.bind, Out.bindS, RV.fz, colours_in_ok hx, outE, put]
  unfold readB
  rw [gSeq, s1]
  simp only
  have ap : gApp 1 (frz (gV 4)) ⟨[T, some (.ow (.lst F)), some (.sh (.int k)), some (.sh (.str x)), some (.sh (rowD x))], S⟩ = .nx ⟨[T, some (.ow (.lst (F ++ [rowD x]))), some (.sh (.int k)), some (.sh (.str x)), some (.sh (rowD x))], S⟩ := by
    simp [gApp, ownL, frz, gV, Out.bind, Out.bindS, RV.fz, hz1]
  by_cases g : goodL x = true
  · have rd : rowD x = .tup ((words x).map cellW) := if_pos g
    rw [rd] at ap ⊢
    unfold goodL at g
    simp only [Bool.and_eq_true, decide_eq_true_eq] at g
    obtain ⟨g1, g2⟩ := g
    have i6 : (7 : Int) ≤ k ↔ (6 : Int) < k := by omega
    rcases f with ⟨rfl, hm⟩ | ⟨r, F', rfl, hr, hm⟩
    · have m1 : ¬ (7 : Int) < m := by omega
      have d : dueBad m k x = decide ((6 : Int) < k) := by
        unfold dueBad
        simp [hm, g2, g1, m1]
        omega
      rw [d]
      by_cases h : (6 : Int) < k
      · simp [gSeq, gIfS, gOrs, gOrT, gAnds, gAndT, gTest, gBin, gN, gC, frz, Out.bind, Out.bindS, RV.fz, OD.fz, geD, bo, opt, asB, gRaise, addD, isND, isNone, h, i6]
      · simp [gSeq, gIfS, gOrs, gOrT, gAnds, gAndT, gTest, gBin, gN, gC, frz, Out.bind, Out.bindS, RV.fz, OD.fz, geD, bo, opt, asB, gRaise, addD, isND, isNone, h, i6, gLst, gNilA, neD, eqB, eqS, eqP, Dn.gNil]
        exact ap
    · have m1 : ¬ (7 : Int) < m := by omega
      have d : dueBad m k x = (decide ((6 : Int) < k) || !decide ((words x).length = m)) := by
        unfold dueBad
        simp [g2, m1]
        congr 2
        simp [Int.ofNat_inj]
      have en := eqP_nil hP (by decide)
      rw [d]
      by_cases h : (6 : Int) < k
      · simp [gSeq, gIfS, gOrs, gOrT, gAnds, gAndT, gTest, gBin, gN, gC, frz, Out.bind, Out.bindS, RV.fz, OD.fz, geD, bo, opt, asB, gRaise, addD, isND, isNone, h, i6]
      · by_cases e : (words x).length = m
        · simp [gSeq, gIfS, gOrs, gOrT, gAnds, gAndT, gTest, gBin, gN, gC, frz, Out.bind, Out.bindS, RV.fz, OD.fz, geD, bo, opt, asB, gRaise, addD, isND, isNone, h, i6, gLst, gNilA, gConsA, neD, eqB, eqS, en, gCall, lenD, ixD, atI, ixN, e, hr, Dn.gNil]
          rw [ap]
          rfl
        · have ei : ¬ ((words x).length : Int) = m := fun q => e (by omega)
          simp [gSeq, gIfS, gOrs, gOrT, gAnds, gAndT, gTest, gBin, gN, gC, frz, Out.bind, Out.bindS, RV.fz, OD.fz, geD, bo, opt, asB, gRaise, addD, isND, isNone, h, i6, gLst, gNilA, gConsA, neD, eqB, eqS, en, gCall, lenD, ixD, atI, ixN, ei, e, hr, Dn.gNil]
  · have rd : rowD x = .non := if_neg g
    rw [rd]
    have d : dueBad m k x = true := by
      unfold goodL at g
      unfold dueBad
      simp only [Bool.and_eq_true, decide_eq_true_eq, not_and] at g
      by_cases e : ((words x).length : Int) = m
      · by_cases h7 : (words x).length ≤ 7
        · simp [g h7]
        · have : (7 : Int) < m := by omega
          simp [this]
      · simp [e]
    rw [d]
    simp [gSeq, gIfS, gOrs, gOrT, gTest, gBin, gN, gC, frz, Out.bind, Out.bindS, RV.fz, OD.fz, bo, opt, asB, gRaise, addD, isND, isNone]
end
end Dn
end

section
set_option maxHeartbeats 4000000
-- P10
/-! P10: read_picture -/
namespace Dn
open PySem PySem.Spec L2 TL
/-- a line of the law: short, of signs that can be laid, without line feeds -/
def LineOk (x : Str) : Prop := x.length ≤ 1000 ∧ ∀ c ∈ tl x, c < 0x110000 ∧ c ≠ 10
theorem mem_joinL {s : List Nat} {c : Nat} : ∀ {ps : List (List Nat)} {p : List Nat}, p ∈ ps → c ∈ p → c ∈ joinL s ps
  | [q], p, h, hc => by
    rw [List.mem_singleton] at h
    rw [joinL, ← h]
    exact hc
  | q :: r :: rs, p, h, hc => by
    rw [joinL, List.mem_append, List.mem_append]
    rcases List.mem_cons.mp h with rfl | h
    · exact .inl hc
    · exact .inr (.inr (mem_joinL h hc))
theorem word_sign {x w : Str} (h : w ∈ words x) {c : Nat} (hc : c ∈ tl w) : c ∈ tl x := by
  have e := congrArg tl (words_join x)
  simp only [join_eq, tl_join] at e
  rw [← e]
  exact mem_joinL (List.mem_map.mpr ⟨w, h, rfl⟩) hc
theorem strOk_of {x : Str} (h : ∀ c ∈ tl x, c < 0x110000 ∧ c ≠ 10) : PyData.strOk x = true := by
  unfold PyData.strOk
  rw [← Array.all_toList, List.all_eq_true]
  intro c hc
  exact decide_eq_true (h c hc).1
theorem rowD_ok {x : Str} (h : LineOk x) : okP 2 (rowD x) := by
  unfold rowD
  split
  · refine okP_tup fun d hd => ?_
    obtain ⟨w, mw, rfl⟩ := List.mem_map.mp hd
    unfold cellW
    split
    · exact okP_non
    · exact okP_str (strOk_of fun c hc => h.2 c (word_sign mw hc))
  · exact okP_non
theorem good_of {m : Nat} {k : Nat} {x : Str} (h : ¬ dueBad m k x = true) : goodL x = true ∧ (words x).length = m ∧ m ≤ 7 := by
  unfold dueBad at h
  simp only [Bool.or_eq_true, decide_eq_true_eq, not_or, Bool.not_eq_true', decide_eq_false_iff_not, Decidable.not_not, Bool.not_eq_false] at h
  obtain ⟨h1, h2, h3, h4⟩ := h
  refine ⟨?_, by omega, by omega⟩
  unfold goodL
  rw [h4, Bool.and_true]
  exact decide_eq_true (by omega)
theorem read_loop {T : Option RV} {m : Nat} {S : List OD} : ∀ (xs : List Str) (k : Nat) (F : List D) (a2 a3 a4 : Option RV), (∀ x ∈ xs, LineOk x) → F.length + xs.length ≤ 1000 → (∀ r ∈ F, okP 2 r) → (xs ≠ [] → FirstIs m (xs.headD SP) F) →
    ∃ b2 b3 b4 E, gForL dueT readB (((strL xs).zipIdx k).map fun p => .tup [.int p.2, p.1]) ⟨[T, some (.ow (.lst F)), a2, a3, a4], S⟩
      = if dueFrom m k xs = 0 then .nx ⟨[T, some (.ow (.lst (F ++ xs.map rowD))), b2, b3, b4], S⟩ else .ex "BadText" (.int (dueFrom m k xs)) ⟨E, S⟩
  | [], k, F, a2, a3, a4, _, _, _, _ => ⟨a2, a3, a4, [], by simp [dueFrom, strL, gForL]⟩
  | x :: xs, k, F, a2, a3, a4, h, hl, hP, hf => by
    have hl' : F.length + (xs.length + 1) ≤ 1000 := hl
    have e := read_turn (T := T) (m := m) (k := k) (x := x) (F := F) (a4 := a4) (S := S) (h x (by simp)).1 (by omega) (okP_lst hP) (hf (by simp))
    have ft : dueT (.tup [.int k, .str x]) ⟨[T, some (.ow (.lst F)), a2, a3, a4], S⟩ = some ⟨[T, some (.ow (.lst F)), some (.sh (.int k)), some (.sh (.str x)), a4], S⟩ := rfl
    show ∃ b2 b3 b4 E, gForL dueT readB (.tup [.int k, .str x] :: (((strL xs).zipIdx (k + 1)).map fun p => .tup [.int p.2, p.1])) _ = _
    rw [gForL, ft]
    simp only
    rw [e]
    unfold dueFrom
    by_cases hb : dueBad m k x = true
    · refine ⟨none, none, none, [T, some (.ow (.lst F)), some (.sh (.int k)), some (.sh (.str x)), some (.sh (rowD x))], ?_⟩
      rw [if_pos hb, if_pos hb, if_neg (by omega)]
    · rw [if_neg hb, if_neg hb]
      obtain ⟨g, gm, g7⟩ := good_of hb
      have rd : rowD x = .tup ((words x).map cellW) := if_pos g
      obtain ⟨b2, b3, b4, E, r⟩ := read_loop (T := T) (m := m) (S := S) xs (k + 1) (F ++ [rowD x]) (some (.sh (.int k))) (some (.sh (.str x))) (some (.sh (rowD x))) (fun y hy => h y (List.mem_cons_of_mem _ hy)) (by simp; omega)
        (fun r hr => by
          rcases List.mem_append.mp hr with hr | hr
          · exact hP r hr
          · rw [List.mem_singleton.mp hr]; exact rowD_ok (h x (by simp)))
        (fun _ => .inr (by
          rcases hf (by simp) with ⟨rfl, _⟩ | ⟨r, F', rfl, h1, h2⟩
          · exact ⟨_, [], by rw [rd]; rfl, by simp [gm], g7⟩
          · exact ⟨r, F' ++ [rowD x], rfl, h1, h2⟩))
      refine ⟨b2, b3, b4, E, r.trans ?_⟩
      rw [List.append_assoc]
      rfl
def NL : Str := "\n"
def textD (xs : List Str) : Str := Txt.join NL xs
theorem lines_split {xs : List Str} (hne : xs ≠ []) (h : ∀ x ∈ xs, LineOk x) : Txt.split (textD xs) NL = xs :=
  split_join (s := 10) (S := []) (by decide) (by decide +kernel) hne fun p hp hc => ((h p hp).2 10 hc).2 rfl
/-- what read_picture says of the law's lines -/
theorem read_ok {x : Str} {xs : List Str} {S : List OD} (h : ∀ y ∈ x :: xs, LineOk y) (hl : xs.length ≤ 100) (ht : (textD (x :: xs)).length ≤ 1000000) :
    K61.m_read_picture [.str (textD (x :: xs))] S = if dueOf (x :: xs) = 0 then .ok (.sh (.tup ((x :: xs).map rowD))) S else .ex "BadText" (.int (dueOf (x :: xs))) S := by
  have hz : sizeLine = 16777216 := rfl
  obtain ⟨b2, b3, b4, E, r⟩ := read_loop (T := some (.sh (.str (textD (x :: xs))))) (m := (words x).length) (S := S) (x :: xs) 0 [] none none none h (by simp; omega) (fun r hr => absurd hr (by simp)) fun _ => .inl ⟨rfl, rfl⟩
  unfold K61.m_read_picture fm K61.gread_picture
  show outF (gSeq _ _ ⟨[some (.sh (.str (textD (x :: xs)))), none, none, none, none], S⟩) = _
  have hi : isT "str" "str" = true := rfl
  have s0 : gIfS (gNotT (gTest truD (frz (gIsi "str" (gN 0))))) (gSeq (gRaise "BadText" (frz (gC (.int 0)))) Dn.gNil) Dn.gNil ⟨[some (.sh (.str (textD (x :: xs)))), none, none, none, none], S⟩ = .nx ⟨[some (.sh (.str (textD (x :: xs)))), none, none, none, none], S⟩ := by
    simp [gIfS, gNotT, gTest, frz, gIsi, gN, Out.bind, Out.bindS, RV.fz, isiD, tyD, hi, opt, truD, Dn.gNil]
  have s1 : gSet 1 (gLst gNilA) ⟨[some (.sh (.str (textD (x :: xs)))), none, none, none, none], S⟩ = .nx ⟨[some (.sh (.str (textD (x :: xs)))), some (.ow (.lst [])), none, none, none], S⟩ := by
    simp [gSet, gLst, gNilA, Out.bind, Out.bindS, put]
  have sp : splitD (textD (x :: xs)) (.str (Str.ofString "\n")) = some (.ow (.lst (strL (x :: xs)))) := by
    rw [show Str.ofString "\n" = NL from rfl]
    unfold splitD
    show (if (NL.length == 0) = false ∧ (textD (x :: xs)).length + 2 ≤ sizeLine then some (RV.ow (OD.lst (strL (Txt.split (textD (x :: xs)) NL)))) else none) = _
    rw [lines_split (by simp) h]
    exact if_pos ⟨by decide, by omega⟩
  have s2 : gEnum (gConsA (frz (gM1 splitD (gN 0) (frz (gC (.str "\n"))))) gNilA) ⟨[some (.sh (.str (textD (x :: xs)))), some (.ow (.lst [])), none, none, none], S⟩ = .ok ((strL (x :: xs)).zipIdx.map fun p => .tup [.int p.2, p.1]) ⟨[some (.sh (.str (textD (x :: xs)))), some (.ow (.lst [])), none, none, none], S⟩ := by
    simp only [gEnum, gConsA, gNilA, frz, gM1, gN, gC, Out.bind, RV.fz, List.getElem?_cons_zero]
    rw [sp]
    rfl
  rw [gSeq, s0]
  simp only
  rw [gSeq, s1]
  simp only
  show outF (gSeq (gFor _ dueT readB) _ _) = _
  rw [gSeq, gFor, s2]
  simp only [Out.bindS]
  rw [r]
  show outF _ = if dueFrom (words x).length ((0 : Nat) : Int) (x :: xs) = 0 then _ else .ex "BadText" (.int (dueFrom (words x).length ((0 : Nat) : Int) (x :: xs))) S
  by_cases h0 : dueFrom (words x).length ((0 : Nat) : Int) (x :: xs) = 0
  · rw [if_pos h0, if_pos h0]
    rfl
  · rw [if_neg h0, if_neg h0]
    rfl
end Dn
end

section
set_option maxHeartbeats 4000000
-- P11
/-! P11: a right picture's lines -/
namespace Dn
open PySem PySem.Spec L2 TL
theorem colour_facts {d : D} (h : d ∈ colours) : cellW (cellS d) = d ∧ colB (cellS d) = true ∧ (cellS d).length ≤ 8 ∧ (∀ c ∈ tl (cellS d), c < 0x110000 ∧ c ≠ 10 ∧ c ≠ 32) ∧ okP 1 d ∧ isCell d := by
  unfold colours at h
  simp only [List.mem_cons, List.not_mem_nil, or_false] at h
  rcases h with rfl | rfl | rfl | rfl | rfl | rfl
  · exact ⟨rfl, by decide +kernel, by decide +kernel, by decide +kernel, okP_str (by decide +kernel), trivial⟩
  · exact ⟨rfl, by decide +kernel, by decide +kernel, by decide +kernel, okP_str (by decide +kernel), trivial⟩
  · exact ⟨rfl, by decide +kernel, by decide +kernel, by decide +kernel, okP_str (by decide +kernel), trivial⟩
  · exact ⟨rfl, by decide +kernel, by decide +kernel, by decide +kernel, okP_str (by decide +kernel), trivial⟩
  · exact ⟨rfl, by decide +kernel, by decide +kernel, by decide +kernel, okP_non, trivial⟩
  · exact ⟨rfl, by decide +kernel, by decide +kernel, by decide +kernel, okP_non, trivial⟩
theorem join_sign {c : Nat} {ps : List Str} (h : c ∈ tl (Txt.join SP ps)) : c = 32 ∨ ∃ p ∈ ps, c ∈ tl p := by
  rw [join_eq, tl_join] at h
  have e : tl SP = [32] := by decide
  rw [e] at h
  induction ps with
  | nil => exact absurd h (by simp [joinL])
  | cons p ps ih =>
    cases ps with
    | nil => exact .inr ⟨p, by simp, h⟩
    | cons q r =>
      rw [List.map_cons, List.map_cons, joinL, List.mem_append, List.mem_append] at h
      rcases h with h | h | h
      · exact .inr ⟨p, by simp, h⟩
      · exact .inl (by simpa using h)
      · rcases ih h with h | ⟨z, hz, hc⟩
        · exact .inl h
        · exact .inr ⟨z, List.mem_cons_of_mem _ hz, hc⟩
section
variable {xs : List D}
theorem words_row (hne : xs ≠ []) (h : ∀ x ∈ xs, x ∈ colours) : words (rowS (.tup xs)) = xs.map cellS :=
  split_join (y := SP) (s := 32) (S := []) (by decide) (by decide +kernel) (fun e => hne (List.map_eq_nil_iff.mp e)) fun p hp hc => by
    obtain ⟨d, hd, rfl⟩ := List.mem_map.mp hp
    exact ((colour_facts (h d hd)).2.2.2.1 32 hc).2.2 rfl
theorem sum_le {l : List Nat} {m : Nat} (h : ∀ n ∈ l, n ≤ m) : l.sum ≤ l.length * m := by
  induction l with
  | nil => simp
  | cons a l ih =>
    have h1 := h a (by simp)
    have h2 := ih fun n hn => h n (List.mem_cons_of_mem _ hn)
    rw [List.sum_cons, List.length_cons, Nat.succ_mul]
    omega
theorem row_ok (hne : xs ≠ []) (hl : xs.length ≤ 7) (h : ∀ x ∈ xs, x ∈ colours) : LineOk (rowS (.tup xs)) ∧ (rowS (.tup xs)).length ≤ 70 := by
  have w := words_len (rowS (.tup xs))
  rw [words_row hne h] at w
  have s := sum_le (l := (xs.map cellS).map (·.length)) (m := 8) fun n hn => by
    obtain ⟨x, hx, rfl⟩ := List.mem_map.mp hn
    obtain ⟨d, hd, rfl⟩ := List.mem_map.mp hx
    exact (colour_facts (h d hd)).2.2.1
  simp only [List.length_map] at s w
  refine ⟨⟨by omega, fun c hc => ?_⟩, by omega⟩
  rcases join_sign (ps := xs.map cellS) hc with rfl | ⟨p, hp, hc⟩
  · decide
  · obtain ⟨d, hd, rfl⟩ := List.mem_map.mp hp
    have f := (colour_facts (h d hd)).2.2.2.1 c hc
    exact ⟨f.1, f.2.1⟩
theorem cols_all (h : ∀ x ∈ xs, x ∈ colours) : (xs.map cellS).all colB = true := by
  rw [List.all_eq_true]
  intro w hw
  obtain ⟨d, hd, rfl⟩ := List.mem_map.mp hw
  exact (colour_facts (h d hd)).2.1
theorem cells_back (h : ∀ x ∈ xs, x ∈ colours) : (xs.map cellS).map cellW = xs := by
  rw [List.map_map]
  conv => rhs; rw [← List.map_id xs]
  exact List.map_congr_left fun d hd => (colour_facts (h d hd)).1
theorem row_back (hne : xs ≠ []) (hl : xs.length ≤ 7) (h : ∀ x ∈ xs, x ∈ colours) : rowD (rowS (.tup xs)) = .tup xs := by
  unfold rowD goodL
  rw [words_row hne h, cols_all h, cells_back h, if_pos (by simp [hl])]
end
theorem due_pic {w : Nat} (w1 : 1 ≤ w) (w7 : w ≤ 7) : ∀ (rows : List D) (k : Nat), k + rows.length ≤ 7 → (∀ r ∈ rows, RowOf w r) → dueFrom w k (rows.map rowS) = 0
  | [], k, _, _ => rfl
  | r :: rows, k, hk, h => by
    rw [List.length_cons] at hk
    obtain ⟨xs, rfl, hl, hx⟩ := h r (by simp)
    have hne : xs ≠ [] := fun e => by subst e; simp at hl; omega
    rw [List.map_cons, dueFrom]
    have d : ¬ dueBad w k (rowS (.tup xs)) = true := by
      unfold dueBad
      rw [words_row hne hx, cols_all hx, List.length_map, hl]
      have a : ¬ (6 : Int) < k := by omega
      have b : ¬ (7 : Int) < w := by omega
      simp [a, b]
    rw [if_neg d]
    exact due_pic w1 w7 rows (k + 1) (by omega) fun y hy => h y (List.mem_cons_of_mem _ hy)
theorem pic_lines {h w : Nat} {rows : List D} (p : PicOf h w rows) (h7 : h ≤ 7) (w1 : 1 ≤ w) (w7 : w ≤ 7) :
    (∀ x ∈ rows.map rowS, LineOk x ∧ x.length ≤ 70) ∧ (rows.map rowS).map rowD = rows ∧ (rows ≠ [] → dueOf (rows.map rowS) = 0) := by
  have key : ∀ r ∈ rows, ∃ xs, r = .tup xs ∧ xs.length = w ∧ (∀ x ∈ xs, x ∈ colours) ∧ xs ≠ [] := fun r hr => by
    obtain ⟨xs, rfl, hl, hx⟩ := p.2 r hr
    exact ⟨xs, rfl, hl, hx, fun e => by subst e; simp at hl; omega⟩
  refine ⟨fun x hx => ?_, ?_, fun hne => ?_⟩
  · obtain ⟨r, hr, rfl⟩ := List.mem_map.mp hx
    obtain ⟨xs, rfl, hl, hx, hne⟩ := key r hr
    exact row_ok hne (by omega) hx
  · rw [List.map_map]
    conv => rhs; rw [← List.map_id rows]
    refine List.map_congr_left fun r hr => ?_
    obtain ⟨xs, rfl, hl, hx, hne⟩ := key r hr
    exact row_back hne (by omega) hx
  · cases rows with
    | nil => exact absurd rfl hne
    | cons r rows =>
      obtain ⟨xs, rfl, hl, hx, hn⟩ := key r (by simp)
      unfold dueOf
      rw [List.map_cons, List.headD_cons, words_row hn hx, List.length_map, hl]
      exact due_pic w1 w7 (.tup xs :: rows) 0 (by rw [p.1]; omega) p.2
end Dn
end

section
set_option maxHeartbeats 4000000
-- P12
/-! P12: what the law meets; lines of a picture -/
namespace Dn
open PySem PySem.Spec L2 TL
section
variable {d v : D} {S S' : List OD}
theorem met_good (h : K61.m_read_picture [d] S = .ok (.sh v) S') : K61.m__law_met [d] S = .ok (.sh (.tup [.bl false, v])) S' := by
  simp [K61.m__law_met, K61.g_law_met, fm, outF, gSeq, gTryRet, gRet, gTup, gConsA, gNilA, frz, gC, gFn, gLen, gV, Out.bind, Out.bindS, RV.fz, h, outE, show sizeLine = 16777216 from rfl]
theorem met_bad (h : K61.m_read_picture [d] S = .ex "BadText" v S') : K61.m__law_met [d] S = .ok (.sh (.tup [.bl true, v])) S' := by
  simp [K61.m__law_met, K61.g_law_met, fm, outF, gSeq, gTryRet, gRet, gTup, gConsA, gNilA, frz, gC, gFn, gLen, gV, Out.bind, Out.bindS, RV.fz, h, outE, mt1]
theorem read_not {t : String} (h : tyD d = some t) (ht : isT "str" t = false) : K61.m_read_picture [d] S = .ex "BadText" (.int 0) S := by
  simp [K61.m_read_picture, K61.gread_picture, fm, outF, gSeq, gIfS, gNotT, gTest, frz, gIsi, gN, gC, Out.bind, Out.bindS, RV.fz, isiD, h, ht, opt, truD, gRaise]
end
/-- a cell of a would-be picture -/
def FineC (c : D) : Prop := c = .non ∨ (∃ x, c = .str x ∧ x.length ≤ 1000) ∨ (∃ i, c = .int i) ∨ (∃ b, c = .bl b)
def cellB : D → Bool
  | .non => true
  | .str x => nameB x
  | _ => false
def celT (c : D) : D := .bl (cellB c)
def lineB (m : Int) : D → Bool
  | .tup xs => decide ((xs.length : Int) = m) && xs.all cellB
  | _ => false
def NotTup (d : D) : Prop := ∃ t, tyD d = some t ∧ isT "tuple" t = false
def FineR (d : D) : Prop := (∃ xs, d = .tup xs ∧ xs.length ≤ 1000 ∧ ∀ c ∈ xs, FineC c) ∨ (NotTup d ∧ ∀ m, lineB m d = false)
theorem cel_map (xs : List D) : xs.map celT = xs.map fun c => .bl (cellB c) := rfl
theorem all_id2 {α : Type} {f : α → Bool} {xs : List α} : (xs.map f).all id = xs.all f := by
  rw [List.all_map]
  rfl
section
variable {d : D} {m : Int} {S : List OD}
theorem line_cells {xs : List D} (hl : xs.length ≤ 1000) (h : ∀ c ∈ xs, FineC c) :
    ∃ E, gCall allD (gConsA (frz (gLc (gI asTu (gV 0)) [2] (fName 2) gYes (frz (gOrL (gBin isND (gN 2) (frz (gC .non))) [(gFn K61.m_is_name (gLen 1 (gConsA (frz (gV 2)) gNilA)))])))) gNilA) ⟨[some (.sh (.tup xs)), some (.sh (.int m)), none], S⟩
      = .ok (.sh (.bl (xs.all cellB))) ⟨E, S⟩ := by
  have e := lc_pure1 (vs := [2]) (f := fName 2) (c := gYes) (e := frz (gOrL (gBin isND (gN 2) (frz (gC .non))) [(gFn K61.m_is_name (gLen 1 (gConsA (frz (gV 2)) gNilA)))])) (s := gI asTu (gV 0)) (ds := xs)
    (st := ⟨[some (.sh (.tup xs)), some (.sh (.int m)), none], S⟩) (st1 := ⟨[some (.sh (.tup xs)), some (.sh (.int m)), none], S⟩)
    celT (by simp [gI, frz, gV, Out.bind, RV.fz, OD.fz, asTu]) (by rw [show sizeLine = 16777216 from rfl]; omega) fun c hc => by
      refine ⟨⟨[some (.sh (.tup xs)), some (.sh (.int m)), some (.sh c)], S⟩, rfl, rfl, ?_, rfl, rfl⟩
      rcases h c hc with rfl | ⟨x, rfl, hx⟩ | ⟨i, rfl⟩ | ⟨b, rfl⟩
      · simp [frz, gOrL, gOr, gBin, gN, gC, isND, isNone, opt, bo, truD, Out.bind, RV.fz, celT, cellB]
      · simp [frz, gOrL, gOr, gBin, gN, gC, isND, isNone, opt, bo, truD, gFn, gLen, gConsA, gNilA, gV, Out.bind, RV.fz, is_name_str hx, outE, celT, cellB]
      · simp [frz, gOrL, gOr, gBin, gN, gC, isND, isNone, opt, bo, truD, gFn, gLen, gConsA, gNilA, gV, Out.bind, RV.fz, is_name_not (d := .int i) (t := "int") rfl rfl, outE, celT, cellB]
      · simp [frz, gOrL, gOr, gBin, gN, gC, isND, isNone, opt, bo, truD, gFn, gLen, gConsA, gNilA, gV, Out.bind, RV.fz, is_name_not (d := .bl b) (t := "bool") rfl rfl, outE, celT, cellB]
  refine ⟨keepE [some (.sh (.tup xs)), some (.sh (.int m)), none] [some (.sh (.tup xs)), some (.sh (.int m)), none] [2], ?_⟩
  rw [cel_map] at e
  simp only [gCall, gConsA, gNilA, frz, e, Out.bind, RV.fz, OD.fz, allD, bools_map, Option.map, opt, all_id2]
theorem is_line_ok (h : FineR d) : K61.m_is_line [d, .int m] S = .ok (.sh (.bl (lineB m d))) S := by
  unfold K61.m_is_line fm K61.gis_line
  show outF (gSeq _ _ ⟨[some (.sh d), some (.sh (.int m)), none], S⟩) = _
  have hi : isT "tuple" "tuple" = true := rfl
  rcases h with ⟨xs, rfl, hl, hx⟩ | ⟨⟨t, ht, hn⟩, hb⟩
  · obtain ⟨E, e⟩ := line_cells (m := m) (S := S) hl hx
    generalize gCall allD (gConsA (frz (gLc (gI asTu (gV 0)) [2] (fName 2) gYes (frz (gOrL (gBin isND (gN 2) (frz (gC .non))) [(gFn K61.m_is_name (gLen 1 (gConsA (frz (gV 2)) gNilA)))])))) gNilA) = T at e ⊢
    unfold lineB
    by_cases hm : (xs.length : Int) = m
    · simp [gSeq, gIfS, gOrs, gOrT, gNotT, gTest, frz, gIsi, gN, gC, Out.bind, Out.bindS, RV.fz, isiD, tyD, hi, opt, truD, asB, gBin, neD, eqB, eqS, gCall, gConsA, gNilA, lenD, hm, gRet, Dn.gNil, e, outF]
    · simp [gSeq, gIfS, gOrs, gOrT, gNotT, gTest, frz, gIsi, gN, gC, Out.bind, Out.bindS, RV.fz, isiD, tyD, hi, opt, truD, asB, gBin, neD, eqB, eqS, gCall, gConsA, gNilA, lenD, hm, gRet, Dn.gNil, outF]
  · rw [hb]
    simp [gSeq, gIfS, gOrs, gOrT, gNotT, gTest, frz, gIsi, gN, gC, Out.bind, Out.bindS, RV.fz, isiD, ht, hn, opt, truD, gRet, outF]
end
end Dn
end

section
set_option maxHeartbeats 4000000
-- P13
/-! P13: check_picture -/
namespace Dn
open PySem PySem.Spec L2 TL
def chkB : D → Bool
  | .tup (.tup xs :: rows) => decide (rows.length + 1 ≤ 7) && (decide (1 ≤ xs.length ∧ xs.length ≤ 7) && (.tup xs :: rows).all (lineB xs.length))
  | _ => false
theorem chkB_cons {xs rows : List D} : chkB (.tup (.tup xs :: rows)) = (decide (rows.length + 1 ≤ 7) && (decide (1 ≤ xs.length ∧ xs.length ≤ 7) && (D.tup xs :: rows).all (lineB xs.length))) := rfl
def FineP (d : D) : Prop := (∃ rows, d = .tup rows ∧ rows.length ≤ 1000 ∧ ∀ r ∈ rows, FineR r) ∨ (NotTup d ∧ chkB d = false)
section
variable {d : D} {S : List OD}
theorem chk_lines {xs rows : List D} (hl : rows.length + 1 ≤ 1000) (h : ∀ r ∈ .tup xs :: rows, FineR r) :
    gCall allD (gConsA (frz (gLc (gI asTu (gV 0)) [1] (fName 1) gYes (frz (gFn K61.m_is_line (gLen 2 (gConsA (frz (gV 1)) (gConsA (frz (gCall lenD (gConsA (frz (gBin ixD (gN 0) (frz (gC (.int 0))))) gNilA))) gNilA))))))) gNilA) ⟨[some (.sh (.tup (.tup xs :: rows))), none], S⟩
      = .ok (.sh (.bl ((.tup xs :: rows).all (lineB xs.length)))) ⟨[some (.sh (.tup (.tup xs :: rows))), none], S⟩ := by
  have e := lc_pure1 (vs := [1]) (f := fName 1) (c := gYes) (e := frz (gFn K61.m_is_line (gLen 2 (gConsA (frz (gV 1)) (gConsA (frz (gCall lenD (gConsA (frz (gBin ixD (gN 0) (frz (gC (.int 0))))) gNilA))) gNilA))))) (s := gI asTu (gV 0)) (ds := .tup xs :: rows)
    (st := ⟨[some (.sh (.tup (.tup xs :: rows))), none], S⟩) (st1 := ⟨[some (.sh (.tup (.tup xs :: rows))), none], S⟩)
    (fun r => .bl (lineB xs.length r)) (by simp [gI, frz, gV, Out.bind, RV.fz, OD.fz, asTu]) (by rw [show sizeLine = 16777216 from rfl, List.length_cons]; omega) fun r hr => by
      refine ⟨⟨[some (.sh (.tup (.tup xs :: rows))), some (.sh r)], S⟩, rfl, rfl, ?_, rfl, rfl⟩
      simp [frz, gFn, gLen, gConsA, gNilA, gV, gCall, gBin, gN, gC, ixD, atI, ixN, lenD, opt, Out.bind, RV.fz, is_line_ok (h r hr), outE]
  simp only [gCall, gConsA, gNilA, frz] at e ⊢
  simp only [e, Out.bind, RV.fz, OD.fz, allD, bools_map, Option.map, opt, all_id2]
  rfl
theorem check_ok (h : FineP d) : K61.m_check_picture [d] S = if chkB d = true then .ok (.sh .non) S else .ex "BadPicture" d S := by
  unfold K61.m_check_picture fm K61.gcheck_picture
  show outF (gSeq _ _ ⟨[some (.sh d), none], S⟩) = _
  have hi : isT "tuple" "tuple" = true := rfl
  rcases h with ⟨rows, rfl, hl, hr⟩ | ⟨⟨t, ht, hn⟩, hb⟩
  · cases rows with
    | nil => simp [gSeq, gIfS, gOrs, gOrT, gNotT, gCmp2, gTest, frz, gIsi, gN, gC, gV, Out.bind, Out.bindS, RV.fz, isiD, tyD, hi, opt, truD, asB, gBin, bo, leD, gCall, gConsA, gNilA, lenD, ixD, atI, ixN, gRaise, Dn.gNil, outF, chkB]
    | cons r rows =>
      rw [List.length_cons] at hl
      by_cases h7 : rows.length + 1 ≤ 7
      · have i1 : (1 : Int) ≤ (rows.length : Int) + 1 := by omega
        have i7 : (rows.length : Int) + 1 ≤ 7 := by omega
        rcases hr r (by simp) with ⟨xs, rfl, hx, hc⟩ | ⟨⟨t, ht, hn⟩, hb⟩
        · have e := chk_lines (S := S) hl hr
          generalize gCall allD (gConsA (frz (gLc (gI asTu (gV 0)) [1] (fName 1) gYes (frz (gFn K61.m_is_line (gLen 2 (gConsA (frz (gV 1)) (gConsA (frz (gCall lenD (gConsA (frz (gBin ixD (gN 0) (frz (gC (.int 0))))) gNilA))) gNilA))))))) gNilA) = T at e ⊢
          by_cases x1 : 1 ≤ xs.length
          · have j1 : (1 : Int) ≤ (xs.length : Int) := by omega
            by_cases x7 : xs.length ≤ 7
            · have j7 : (xs.length : Int) ≤ 7 := by omega
              cases ha : (D.tup xs :: rows).all (lineB xs.length) with
              | true =>
                have hb : chkB (.tup (.tup xs :: rows)) = true := by rw [chkB_cons, ha]; simp [h7, x1, x7]
                rw [ha] at e
                rw [if_pos hb]
                simp [gSeq, gIfS, gOrs, gOrT, gNotT, gCmp2, gTest, frz, gIsi, gN, gC, gV, Out.bind, Out.bindS, RV.fz, isiD, tyD, hi, opt, truD, asB, gBin, bo, leD, gCall, gConsA, gNilA, lenD, ixD, atI, ixN, gRaise, Dn.gNil, outF, i1, i7, j1, j7, e]
              | false =>
                have hb : ¬ chkB (.tup (.tup xs :: rows)) = true := by rw [chkB_cons, ha]; simp
                rw [ha] at e
                rw [if_neg hb]
                simp [gSeq, gIfS, gOrs, gOrT, gNotT, gCmp2, gTest, frz, gIsi, gN, gC, gV, Out.bind, Out.bindS, RV.fz, isiD, tyD, hi, opt, truD, asB, gBin, bo, leD, gCall, gConsA, gNilA, lenD, ixD, atI, ixN, gRaise, Dn.gNil, outF, i1, i7, j1, j7, e]
            · have j7 : ¬ (xs.length : Int) ≤ 7 := by omega
              have hb : ¬ chkB (.tup (.tup xs :: rows)) = true := by unfold chkB; simp [x7]
              rw [if_neg hb]
              simp [gSeq, gIfS, gOrs, gOrT, gNotT, gCmp2, gTest, frz, gIsi, gN, gC, gV, Out.bind, Out.bindS, RV.fz, isiD, tyD, hi, opt, truD, asB, gBin, bo, leD, gCall, gConsA, gNilA, lenD, ixD, atI, ixN, gRaise, Dn.gNil, outF, i1, i7, j1, j7]
          · have j1 : ¬ (1 : Int) ≤ (xs.length : Int) := by omega
            have hb : ¬ chkB (.tup (.tup xs :: rows)) = true := by unfold chkB; simp [x1]
            rw [if_neg hb]
            simp [gSeq, gIfS, gOrs, gOrT, gNotT, gCmp2, gTest, frz, gIsi, gN, gC, gV, Out.bind, Out.bindS, RV.fz, isiD, tyD, hi, opt, truD, asB, gBin, bo, leD, gCall, gConsA, gNilA, lenD, ixD, atI, ixN, gRaise, Dn.gNil, outF, i1, i7, j1]
        · have hb : ¬ chkB (.tup (r :: rows)) = true := by
            unfold chkB
            split
            · rename_i xs rs q
              simp only [D.tup.injEq, List.cons.injEq] at q
              obtain ⟨rfl, _⟩ := q
              simp [tyD] at ht
              subst ht
              exact absurd hn (by decide)
            · simp
          rw [if_neg hb]
          have hy : tyD (.tup (r :: rows)) = some "tuple" := rfl
          simp [gSeq, gIfS, gOrs, gOrT, gNotT, gCmp2, gTest, frz, gIsi, gN, gC, gV, Out.bind, Out.bindS, RV.fz, isiD, hy, hi, opt, truD, asB, gBin, bo, leD, gCall, gConsA, gNilA, lenD, ixD, atI, ixN, gRaise, Dn.gNil, outF, i1, i7, ht, hn]
      · have i1 : (1 : Int) ≤ (rows.length : Int) + 1 := by omega
        have i7 : ¬ (rows.length : Int) + 1 ≤ 7 := by omega
        have hb : ¬ chkB (.tup (r :: rows)) = true := by
          unfold chkB
          split
          · rename_i xs rs q
            simp only [D.tup.injEq, List.cons.injEq] at q
            obtain ⟨_, rfl⟩ := q
            simp [h7]
          · simp
        rw [if_neg hb]
        simp [gSeq, gIfS, gOrs, gOrT, gNotT, gCmp2, gTest, frz, gIsi, gN, gC, gV, Out.bind, Out.bindS, RV.fz, isiD, tyD, hi, opt, truD, asB, gBin, bo, leD, gCall, gConsA, gNilA, lenD, ixD, atI, ixN, gRaise, Dn.gNil, outF, i1, i7]
  · rw [if_neg (by rw [hb]; simp)]
    simp [gSeq, gIfS, gOrs, gOrT, gNotT, gTest, frz, gIsi, gN, Out.bind, Out.bindS, RV.fz, isiD, ht, hn, opt, truD, gRaise, gV, outF]
end
end Dn
end

section
set_option maxHeartbeats 4000000
-- P14
/-! P14: show_picture -/
namespace Dn
open PySem PySem.Spec L2 TL
def cellsL : D → D
  | .tup xs => .lst (xs.map fun d => .str (cellS d))
  | d => d
def joinR : D → D
  | .lst ds => .str (Txt.join " " ((strsOf ds).getD []))
  | d => d
section
variable {d : D} {S : List OD}
theorem show_bad (h : FineP d) (hb : chkB d = false) : K61.m_show_picture [d] S = .ex "BadPicture" d S := by
  have e := check_ok (S := S) h
  rw [if_neg (by rw [hb]; simp)] at e
  simp [K61.m_show_picture, K61.gshow_picture, fm, outF, gSeq, gExp, gFn, gLen, gConsA, gNilA, gV, frz, Out.bind, Out.bindS, RV.fz, e, outE]
theorem bad_ok (h : FineP d) (hb : chkB d = false) (hr : ∃ x, reprD [d] = some (.sh x)) : ∃ x, reprD [d] = some (.sh x) ∧ K61.m__law_bad_picture [d] S = .ok (.sh x) S := by
  obtain ⟨x, hx⟩ := hr
  refine ⟨x, hx, ?_⟩
  have e := show_bad (S := S) h hb
  simp [K61.m__law_bad_picture, K61.g_law_bad_picture, fm, outF, gSeq, gSet, gTryHold, gExp, gFn, gLen, gConsA, gNilA, gV, gC, frz, Out.bind, Out.bindS, RV.fz, e, outE, mt1, put, gRet, gIf, gTest, gBin, gN, isND, isNone, bo, opt, asB, gCall, gValue, hx]
theorem show_ok {rows : List D} (h : FineP (.tup rows)) (hc : chkB (.tup rows) = true) (hr : ∀ r ∈ rows, RowFit r) (hl : rows.length ≤ 1000)
    (hz : ((rows.map rowS).map (·.length)).sum + (rows.map rowS).length * 1 ≤ 16777216) : K61.m_show_picture [.tup rows] S = .ok (.sh (.str (textD (rows.map rowS)))) S := by
  have e := check_ok (S := S) h
  rw [if_pos hc] at e
  have s1 : gExp (gFn K61.m_check_picture (gLen 1 (gConsA (frz (gV 0)) gNilA))) ⟨[some (.sh (.tup rows)), none, none, none], S⟩ = .nx ⟨[some (.sh (.tup rows)), none, none, none], S⟩ := by
    simp [gExp, gFn, gLen, gConsA, gNilA, gV, frz, Out.bind, Out.bindS, RV.fz, e, outE]
  have c1 : gLc (gI asTu (gV 0)) [2] (fName 2) gYes (frz (gLc (gI asTu (gV 2)) [3] (fName 3) gYes (frz (gIf (gTest asB (frz (gBin isND (gN 3) (frz (gC .non))))) (gC (.str "-")) (gV 3))))) ⟨[some (.sh (.tup rows)), none, none, none], S⟩
      = .ok (.ow (.lst (rows.map cellsL))) ⟨[some (.sh (.tup rows)), none, none, none], S⟩ := by
    refine (lc_pure (ds := rows) cellsL (by simp [gI, frz, gV, Out.bind, RV.fz, asTu]) (by rw [show sizeLine = 16777216 from rfl]; omega) fun d hd => ?_).trans (by simp [keepE])
    obtain ⟨xs, rfl, hx, hxl, hz⟩ := hr d hd
    refine ⟨⟨[some (.sh (.tup rows)), none, some (.sh (.tup xs)), none], S⟩, rfl, rfl, ?_, rfl, rfl⟩
    have c := cells_line (S := S) (E := [some (.sh (.tup rows)), none, some (.sh (.tup xs)), none]) (i := 2) (j := 3) hx hxl rfl (by simp)
    rw [frz, c]
    rfl
  have c2 : gLc (gI asL (gV 1)) [2] (fName 2) gYes (frz (gM1 joinD (frz (gC (.str " "))) (gN 2))) ⟨[some (.sh (.tup rows)), some (.ow (.lst (rows.map cellsL))), none, none], S⟩
      = .ok (.ow (.lst ((rows.map cellsL).map joinR))) ⟨[some (.sh (.tup rows)), some (.sh (.lst (rows.map cellsL))), none, none], S⟩ := by
    refine (lc_pure1 (ds := rows.map cellsL) (st1 := ⟨[some (.sh (.tup rows)), some (.sh (.lst (rows.map cellsL))), none, none], S⟩) joinR (by simp [gI, frz, gV, Out.bind, RV.fz, OD.fz, asL]) (by rw [show sizeLine = 16777216 from rfl, List.length_map]; omega) fun d hd => ?_).trans (by simp [keepE])
    obtain ⟨r, hr', rfl⟩ := List.mem_map.mp hd
    obtain ⟨xs, rfl, hx, hxl, hz⟩ := hr r hr'
    refine ⟨⟨[some (.sh (.tup rows)), some (.sh (.lst (rows.map cellsL))), some (.sh (cellsL (.tup xs))), none], S⟩, rfl, rfl, ?_, rfl, rfl⟩
    have hz' : ((xs.map cellS).map (·.length)).sum + (xs.map cellS).length * ((" " : Str)).length ≤ 16777216 := hz
    simp only [frz, gM1, gN, gC, Out.bind, RV.fz, cellsL, joinR, joinD, joinS, strsOf_map, List.getElem?_cons_succ, List.getElem?_cons_zero, hz', if_true, opt, Option.getD]
  have c3 : (rows.map cellsL).map joinR = strL (rows.map rowS) := by
    unfold strL
    rw [List.map_map, List.map_map]
    refine List.map_congr_left fun r hr' => ?_
    obtain ⟨xs, rfl, hx, hxl, hz⟩ := hr r hr'
    simp only [Function.comp, cellsL, joinR, strsOf_map, Option.getD, rowS]
  rw [c3] at c2
  have so : strsOf (strL (rows.map rowS)) = some (rows.map rowS) := by
    unfold strL
    rw [List.map_map]
    exact strsOf_map rows rowS
  unfold K61.m_show_picture fm K61.gshow_picture
  show outF (gSeq _ _ ⟨[some (.sh (.tup rows)), none, none, none], S⟩) = _
  rw [gSeq, s1]
  simp only
  rw [gSeq, gSet, c1]
  show outF (gSeq _ _ ⟨[some (.sh (.tup rows)), some (.ow (.lst (rows.map cellsL))), none, none], S⟩) = _
  have hz2 : ((rows.map rowS).map (·.length)).sum + (rows.map rowS).length * (("\n" : Str)).length ≤ 16777216 := hz
  rw [gSeq, gRet, gM1, frz]
  simp only [gC, Out.bind, RV.fz]
  rw [frz, c2]
  simp only [Out.bind, RV.fz, OD.fz, joinD, joinS, so, hz2, if_true, opt]
  rfl
end
end Dn
end

section
set_option maxHeartbeats 4000000
-- P15
/-! P15: what repr can show -/
namespace Dn
open PySem PySem.Spec L2 TL
theorem len_app (a b : Str) : (a ++ b).length = a.length + b.length := by rw [len_tl, tl_append, List.length_append, ← len_tl, ← len_tl]
def shP (n L : Nat) (d : D) : Prop := ∃ p, toP d = some p ∧ p.showable = true ∧ p.depth ≤ n ∧ p.shown.length ≤ L
theorem shPs {n L : Nat} : ∀ {xs : List D}, (∀ x ∈ xs, shP n L x) → ∃ ps, toPs xs = some ps ∧ PyData.showableAll ps = true ∧ PyData.depthAll ps ≤ n ∧ (∀ t ∈ PyData.shownAll ps, t.length ≤ L) ∧ (PyData.shownAll ps).length = xs.length
  | [], _ => ⟨[], by rw [toPs], by rw [PyData.showableAll], by rw [PyData.depthAll]; omega, by rw [PyData.shownAll]; simp, by rw [PyData.shownAll]; rfl⟩
  | x :: xs, h => by
    obtain ⟨p, e, l, d, s⟩ := h x (by simp)
    obtain ⟨ps, e2, l2, d2, s2, n2⟩ := shPs (xs := xs) fun y hy => h y (List.mem_cons_of_mem _ hy)
    refine ⟨p :: ps, by rw [toPs, e, e2], by rw [PyData.showableAll, l, l2]; rfl, by rw [PyData.depthAll]; omega, by rw [PyData.shownAll]; intro t ht; rcases List.mem_cons.mp ht with rfl | ht; exact s; exact s2 t ht, by rw [PyData.shownAll]; simp [n2]⟩
theorem textFrom_le {L : Nat} : ∀ (ts : List Str) (k : Nat) (acc : Str), (∀ t ∈ ts, t.length ≤ L) → (textFrom k acc ts).length ≤ acc.length + ts.length * (L + 2)
  | [], k, acc, _ => by show acc.length ≤ _; omega
  | t :: r, k, acc, h => by
    have ih := textFrom_le r (k + 1) (acc ++ (if k > 0 then ", " else "" : String) ++ t) fun x hx => h x (List.mem_cons_of_mem _ hx)
    have ht := h t (by simp)
    have q : ((if k > 0 then ", " else "" : String) : Str).length ≤ 2 := by split <;> decide
    have e : (acc ++ ((if k > 0 then ", " else "" : String) : Str) ++ t).length = acc.length + ((if k > 0 then ", " else "" : String) : Str).length + t.length := by
      rw [len_app, len_app]
    show (textFrom (k + 1) _ r).length ≤ _
    rw [List.length_cons, Nat.succ_mul]
    omega
theorem join_le {L : Nat} : ∀ (ts : List Str), (∀ t ∈ ts, t.length ≤ L) → (Str.join ", " ts).length ≤ ts.length * (L + 2)
  | [], _ => Nat.le_trans (by decide : ((Str.join ", " []).length ≤ 0)) (Nat.zero_le _)
  | [x], h => by
    have := h x (by simp)
    show x.length ≤ _
    simp
    omega
  | x :: y :: r, h => by
    have ih := join_le (y :: r) fun z hz => h z (List.mem_cons_of_mem _ hz)
    have hx := h x (by simp)
    show (x ++ (", " : Str) ++ Str.join ", " (y :: r)).length ≤ _
    rw [len_app, len_app, List.length_cons, Nat.succ_mul]
    have : ((", " : Str)).length = 2 := by decide
    omega
theorem shP_lst {n L m : Nat} {xs : List D} (h : ∀ x ∈ xs, shP n L x) (hm : xs.length ≤ m) : shP (n + 1) (m * (L + 2) + 4) (.lst xs) := by
  obtain ⟨ps, e, l, d, s, k⟩ := shPs h
  refine ⟨.list ps, by rw [toP, e]; rfl, by rw [PyData.showable]; exact l, by rw [PyData.depth]; omega, ?_⟩
  rw [PyData.shown]
  unfold listText
  rw [len_app]
  have a := textFrom_le (PyData.shownAll ps) 0 "[" s
  have b : (("[" : Str)).length = 1 := by decide
  have c : (("]" : Str)).length = 1 := by decide
  have g : xs.length * (L + 2) ≤ m * (L + 2) := Nat.mul_le_mul_right _ hm
  rw [k] at a
  omega
theorem shP_tup {n L m : Nat} {xs : List D} (h : ∀ x ∈ xs, shP n L x) (hm : xs.length ≤ m) : shP (n + 1) (m * (L + 2) + 4) (.tup xs) := by
  obtain ⟨ps, e, l, d, s, k⟩ := shPs h
  refine ⟨.tuple ps, by rw [toP, e]; rfl, by rw [PyData.showable]; exact l, by rw [PyData.depth]; omega, ?_⟩
  rw [PyData.shown]
  unfold tupleText
  rw [len_app, len_app]
  have a := join_le (PyData.shownAll ps) s
  have b : (("(" : Str)).length = 1 := by decide
  have c : ((if (PyData.shownAll ps).length == 1 then ",)" else ")" : String) : Str).length ≤ 2 := by split <;> decide
  have g : xs.length * (L + 2) ≤ m * (L + 2) := Nat.mul_le_mul_right _ hm
  rw [k] at a
  omega
theorem shP_non {n L : Nat} : shP n (L + 4) .non := ⟨.none, by rw [toP], by rw [PyData.showable], by rw [PyData.depth]; omega, by rw [PyData.shown]; exact Nat.le_trans (by decide) (Nat.le_add_left 4 L)⟩
theorem shP_str {n L : Nat} {x : Str} (h : PyData.strOk x = true) (hl : 10 * x.length + 2 ≤ L) : shP n L (.str x) := by
  refine ⟨.str x, by rw [toP], by rw [PyData.showable], by rw [PyData.depth]; omega, ?_⟩
  rw [PyData.shown]
  refine Nat.le_trans (StrLaws.reprText_len x fun c hc => ?_) hl
  unfold PyData.strOk at h
  rw [← Array.all_toList, List.all_eq_true] at h
  have := of_decide_eq_true (h c hc)
  omega
theorem shP.mono {n n' L L' : Nat} {d : D} (h : shP n L d) (hn : n ≤ n') (hl : L ≤ L') : shP n' L' d := by
  obtain ⟨p, a, b, c, e⟩ := h
  exact ⟨p, a, b, by omega, by omega⟩
theorem shP.repr {n L : Nat} {d : D} (h : shP n L d) (hn : n < 60) (hl : L ≤ 16777216) : ∃ x, reprD [d] = some (.sh (.str x)) := by
  obtain ⟨p, a, b, c, e0⟩ := h
  have hz : sizeLine = 16777216 := rfl
  refine ⟨p.shown, ?_⟩
  have e : shownD d = some p.shown := by
    unfold shownD
    rw [a]
    exact if_pos ⟨b, by omega, by omega⟩
  show (shownD d).map _ = _
  rw [e]
  rfl
end Dn
end

section
set_option maxHeartbeats 4000000
-- P16
/-! P16: lines that are bent: the parts -/
namespace Dn
open PySem PySem.Spec L2 TL
/-- a line of at most B signs -/
def LnB (B : Nat) (d : D) : Prop := ∃ x, d = .str x ∧ x.length ≤ B ∧ ∀ c ∈ tl x, c < 0x110000 ∧ c ≠ 10
def Lns (B n : Nat) (ls : List D) : Prop := ls ≠ [] ∧ ls.length ≤ n ∧ ∀ d ∈ ls, LnB B d
theorem LnB.mono {B C : Nat} {d : D} (h : LnB B d) (hc : B ≤ C) : LnB C d := by
  obtain ⟨x, rfl, a, b⟩ := h
  exact ⟨x, rfl, by omega, b⟩
theorem cut_mem {xs : List D} {lo hi : Option Int} {d : D} (h : d ∈ cutD xs lo hi) : d ∈ xs := List.mem_of_mem_drop (List.mem_of_mem_take h)
theorem cut_len (xs : List D) (lo hi : Option Int) : (cutD xs lo hi).length ≤ xs.length := by
  unfold cutD
  simp only [List.length_take, List.length_drop]
  omega
theorem cut_two {xs : List D} {a : Int} (h0 : 0 ≤ a) (h1 : a < xs.length) (h2 : 1 < xs.length) : cutD xs none (some a) ++ cutD xs (some (a + 1)) none ≠ [] := fun e => by
  have l := congrArg List.length e
  rw [List.length_append] at l
  unfold cutD at l
  simp only [List.length_take, List.length_drop, HT.sIx_none, List.length_nil] at l
  have e1 : HT.sIx xs.length xs.length (some a) = a.toNat := by
    have := HT.sIx_nat xs.length xs.length a.toNat
    rw [Int.toNat_of_nonneg h0] at this
    rw [this]; omega
  have e2 : HT.sIx xs.length 0 (some (a + 1)) = a.toNat + 1 := by
    have := HT.sIx_nat xs.length 0 (a.toNat + 1)
    rw [show ((a.toNat + 1 : Nat) : Int) = a + 1 by omega] at this
    rw [this]; omega
  rw [e1, e2] at l
  omega
theorem slice_to_ln {x : Str} {i : Int} (h : 0 ≤ i) : tl (Txt.slice x none (some i)) = (tl x).take i.toNat := by
  have e := SX.slice_to (a := x.cps.toList) h
  rw [SX.S_tl] at e
  rw [e]
theorem slice_from_ln {x : Str} {i : Int} (h : 0 ≤ i) : tl (Txt.slice x (some i) none) = (tl x).drop i.toNat := by
  have e := SX.slice_from (a := x.cps.toList) h
  rw [SX.S_tl] at e
  rw [e]
theorem lns_strs {B n : Nat} {ls : List D} (h : Lns B n ls) : ∃ x xs, ls = strL (x :: xs) ∧ xs.length + 1 ≤ n ∧ ∀ y ∈ x :: xs, y.length ≤ B ∧ ∀ c ∈ tl y, c < 0x110000 ∧ c ≠ 10 := by
  obtain ⟨hne, hl, hd⟩ := h
  have key : ∀ ds : List D, (∀ d ∈ ds, LnB B d) → ∃ xs, ds = strL xs ∧ ∀ y ∈ xs, y.length ≤ B ∧ ∀ c ∈ tl y, c < 0x110000 ∧ c ≠ 10 := by
    intro ds
    induction ds with
    | nil => intro _; exact ⟨[], rfl, by simp⟩
    | cons d ds ih =>
      intro h
      obtain ⟨x, rfl, a, b⟩ := h d (by simp)
      obtain ⟨xs, rfl, c⟩ := ih fun e he => h e (List.mem_cons_of_mem _ he)
      exact ⟨x :: xs, rfl, fun y hy => by
        rcases List.mem_cons.mp hy with rfl | hy
        · exact ⟨a, b⟩
        · exact c y hy⟩
  obtain ⟨xs, rfl, hx⟩ := key ls hd
  cases xs with
  | nil => exact absurd rfl hne
  | cons x xs => exact ⟨x, xs, rfl, by simpa [strL] using hl, hx⟩
/-- two cuts with lines between -/
theorem lns_mid {B C n : Nat} {ls ns : List D} {p q r s : Option Int} (h : Lns B n ls) (hn : ns ≠ []) (h1 : ns.length ≤ 1) (hd : ∀ d ∈ ns, LnB C d) (hC : B ≤ C) : Lns C (2 * n + 1) (cutD ls p q ++ ns ++ cutD ls r s) := by
  refine ⟨?_, ?_, fun d hm => ?_⟩
  · intro e
    rw [List.append_eq_nil_iff, List.append_eq_nil_iff] at e
    exact hn e.1.2
  · have a := cut_len ls p q
    have b := cut_len ls r s
    have c := h.2.1
    simp only [List.length_append]
    omega
  · rcases List.mem_append.mp hm with hm | hm
    · rcases List.mem_append.mp hm with hm | hm
      · exact (h.2.2 d (cut_mem hm)).mono hC
      · exact hd d hm
    · exact (h.2.2 d (cut_mem hm)).mono hC
theorem ln_app {B C : Nat} {x y : Str} (h : LnB B (.str x)) (k : LnB C (.str y)) : LnB (B + C) (.str (x ++ y)) := by
  obtain ⟨_, e, a, b⟩ := h
  cases e
  obtain ⟨_, e, a2, b2⟩ := k
  cases e
  refine ⟨x ++ y, rfl, by rw [len_app]; omega, fun c hc => ?_⟩
  rw [tl_append] at hc
  rcases List.mem_append.mp hc with hc | hc
  · exact b c hc
  · exact b2 c hc
theorem ln_bent {B : Nat} {x y : Str} {i j : Int} (h : LnB B (.str x)) (k : LnB 1 (.str y)) (h0 : 0 ≤ i) (hj : i ≤ j) : LnB (B + 1) (.str (Txt.slice x none (some i) ++ y ++ Txt.slice x (some j) none)) := by
  obtain ⟨_, e, a, b⟩ := h
  cases e
  obtain ⟨_, e, a2, b2⟩ := k
  cases e
  refine ⟨_, rfl, ?_, fun c hc => ?_⟩
  · rw [len_app, len_app, len_tl (Txt.slice x none (some i)), len_tl (Txt.slice x (some j) none), slice_to_ln h0, slice_from_ln (by omega), List.length_take, List.length_drop]
    rw [len_tl] at a
    omega
  · rw [tl_append, tl_append, slice_to_ln h0, slice_from_ln (by omega)] at hc
    rcases List.mem_append.mp hc with hc | hc
    · rcases List.mem_append.mp hc with hc | hc
      · exact b c (List.mem_of_mem_take hc)
      · exact b2 c hc
    · exact b c (List.mem_of_mem_drop hc)
end Dn
end

section
set_option maxHeartbeats 8000000
-- P17
/-! P17: _law_bent_lines -/
namespace Dn
open PySem PySem.Spec L2 TL
theorem ln_const {x : Str} {B : Nat} (h : (decide (x.length ≤ B) && (tl x).all fun c => decide (c < 0x110000) && !decide (c = 10)) = true) : LnB B (.str x) := by
  simp only [Bool.and_eq_true, decide_eq_true_eq, List.all_eq_true, Bool.not_eq_true', decide_eq_false_iff_not] at h
  exact ⟨x, rfl, h.1, h.2⟩
theorem addL {xs ys : List D} (h : xs.length + ys.length ≤ 16777216) : addD (.lst xs) (.lst ys) = some (.ow (.lst (xs ++ ys))) := if_pos h
theorem bent_ok {k n m B : Nat} {ls : List D} {S : List OD} (hp : PotIn S k n) (hn : n + 1000 < 1000000) (h : Lns B m ls) (hm : m ≤ 100) (hB : B ≤ 200) :
    ∃ ls' S', K61.m__law_bent_lines [.cell k, .lst ls] S = .ok (.ow (.lst ls')) S' ∧ Lns (B + 10) (2 * m + 1) ls' ∧ PotIn S' k (n + 10) := by
  have hz : sizeLine = 16777216 := rfl
  have hlen : 0 < ls.length := List.length_pos_iff.mpr h.1
  have hm' := h.2.1
  obtain ⟨r1, S1, e1, a1, b1, p1⟩ := take_in (u := 8) hp (by omega) (by decide) (by decide)
  obtain ⟨r2, S2, e2, a2, b2, p2⟩ := take_in (u := (ls.length : Int)) p1 (by omega) (by omega) (by omega)
  obtain ⟨d, hat, hd⟩ := atI_lt a2 b2
  obtain ⟨x, rfl, hx, hs⟩ := h.2.2 d hd
  unfold K61.m__law_bent_lines fm K61.g_law_bent_lines
  show ∃ ls' S', outF (gSeq _ _ ⟨[some (.sh (.cell k)), some (.sh (.lst ls)), none, none, none, none, none], S⟩) = _ ∧ _
  rw [gSeq]
  have s1 : gPar 5 6 (gConsA (frz (gFn K61.m__law_take (gLen 2 (gConsA (frz (gV 0)) (gConsA (frz (gC (.int 8))) gNilA))))) (gConsA (frz (gFn K61.m__law_take (gLen 2 (gConsA (frz (gV 0)) (gConsA (frz (gCall lenD (gConsA (gN 1) gNilA))) gNilA))))) gNilA))
      ⟨[some (.sh (.cell k)), some (.sh (.lst ls)), none, none, none, none, none], S⟩ = .nx ⟨[some (.sh (.cell k)), some (.sh (.lst ls)), none, none, none, some (.sh (.int r1)), some (.sh (.int r2))], S2⟩ := by
    simp [gPar, gConsA, gNilA, frz, gFn, gLen, gV, gC, gN, gCall, lenD, opt, Out.bind, Out.bindS, RV.fz, e1, e2, outE, put]
  rw [s1]
  simp only
  rw [gSeq]
  have s2 : gSet 2 (gBin ixD (gN 1) (gN 6)) ⟨[some (.sh (.cell k)), some (.sh (.lst ls)), none, none, none, some (.sh (.int r1)), some (.sh (.int r2))], S2⟩ = .nx ⟨[some (.sh (.cell k)), some (.sh (.lst ls)), some (.sh (.str x)), none, none, some (.sh (.int r1)), some (.sh (.int r2))], S2⟩ := by
    simp [gSet, gBin, gN, frz, Out.bind, Out.bindS, RV.fz, ixD, hat, opt, put]
  rw [s2]
  simp only
  by_cases w0 : r1 = 0
  · subst w0
    refine ⟨cutD ls none (some r2) ++ [.str x] ++ cutD ls (some r2) none, S2, ?_, (lns_mid h (by simp) (by simp) (fun d hd => by rw [List.mem_singleton.mp hd]; exact ⟨x, rfl, by omega, hs⟩) (by omega) : Lns (B + 10) _ _), p2.mono (by omega)⟩
    have A1 := addL (xs := cutD ls none (some r2)) (ys := [D.str x]) (by have := cut_len ls none (some r2); simp; omega)
    have A2 := addL (xs := cutD ls none (some r2) ++ [D.str x]) (ys := cutD ls (some r2) none) (by have := cut_len ls none (some r2); have := cut_len ls (some r2) none; simp; omega)
    simp [gSeq, gIfS, gTest, gBin, gN, gV, gC, frz, Out.bind, Out.bindS, RV.fz, OD.fz, eqD, eqB, eqS, opt, asB, gRet, gSlice, gNoPart, gPart, slD, gLst, gConsA, gNilA, hz, A1, A2, outF]
  · by_cases w1 : r1 = 1
    · subst w1
      obtain ⟨y, S3, e3, m3, p3⟩ := of_in (xs := [.str "", .str x, .str "-", .str " "]) p2 (by omega) (by simp) (by simp)
      have hy : LnB (B + 10) y := by
        simp only [List.mem_cons, List.not_mem_nil, or_false] at m3
        rcases m3 with rfl | rfl | rfl | rfl
        · exact ln_const (B := 0) (by decide +kernel) |>.mono (by omega)
        · exact ⟨x, rfl, by omega, hs⟩
        · exact ln_const (B := 1) (by decide +kernel) |>.mono (by omega)
        · exact ln_const (B := 1) (by decide +kernel) |>.mono (by omega)
      refine ⟨ls ++ [y], S3, ?_, ⟨by simp, by simp; omega, fun d hd => ?_⟩, p3.mono (by omega)⟩
      · have A1 := addL (xs := ls) (ys := [y]) (by simp; omega)
        simp [gSeq, gIfS, gTest, gBin, gN, gV, gC, frz, Out.bind, Out.bindS, RV.fz, OD.fz, eqD, eqB, eqS, opt, asB, gRet, gLst, gConsA, gNilA, hz, A1, outF, gFn, gLen, e3, outE, Dn.gNil]
      · rcases List.mem_append.mp hd with hd | hd
        · exact (h.2.2 d hd).mono (by omega)
        · rw [List.mem_singleton.mp hd]; exact hy
    · by_cases w2 : r1 = 2 ∧ 1 < ls.length
      · obtain ⟨rfl, w2⟩ := w2
        refine ⟨cutD ls none (some r2) ++ cutD ls (some (r2 + 1)) none, S2, ?_, ⟨cut_two a2 b2 w2, ?_, fun d hd => ?_⟩, p2.mono (by omega)⟩
        · have A1 := addL (xs := cutD ls none (some r2)) (ys := cutD ls (some (r2 + 1)) none) (by have := cut_len ls none (some r2); have := cut_len ls (some (r2 + 1)) none; omega)
          have A0 : addD (.int r2) (.int 1) = some (.sh (.int (r2 + 1))) := rfl
          have w2' : (1 : Int) < ls.length := by omega
          simp [gSeq, gIfS, gAnds, gAndT, gTest, gBin, gN, gV, gC, frz, Out.bind, Out.bindS, RV.fz, OD.fz, eqD, eqB, eqS, opt, asB, gRet, gSlice, gNoPart, gPart, slD, gConsA, gNilA, hz, A0, A1, outF, gtD, bo, gCall, lenD, w2', Dn.gNil]
        · have := cut_len ls none (some r2)
          have := cut_len ls (some (r2 + 1)) none
          rw [List.length_append]; omega
        · rcases List.mem_append.mp hd with hd | hd
          · exact (h.2.2 d (cut_mem hd)).mono (by omega)
          · exact (h.2.2 d (cut_mem hd)).mono (by omega)
      · have T0 : addD (.int r2) (.int 1) = some (.sh (.int (r2 + 1))) := rfl
        have cond : gAnds (gTest asB (frz (gBin eqD (gN 5) (frz (gC (.int 2)))))) [(gTest asB (frz (gBin gtD (frz (gCall lenD (gConsA (gN 1) gNilA))) (frz (gC (.int 1))))))] ⟨[some (.sh (.cell k)), some (.sh (.lst ls)), some (.sh (.str x)), none, none, some (.sh (.int r1)), some (.sh (.int r2))], S2⟩ = .ok false ⟨[some (.sh (.cell k)), some (.sh (.lst ls)), some (.sh (.str x)), none, none, some (.sh (.int r1)), some (.sh (.int r2))], S2⟩ := by
          by_cases q : r1 = 2
          · have w2' : ¬ (1 : Int) < ls.length := fun z => w2 ⟨q, by omega⟩
            simp [gAnds, gAndT, gTest, gBin, gN, gC, frz, Out.bind, RV.fz, eqD, eqB, eqS, opt, asB, gConsA, gNilA, gtD, bo, gCall, lenD, w2', q]
          · simp [gAnds, gAndT, gTest, gBin, gN, gC, frz, Out.bind, RV.fz, eqD, eqB, eqS, opt, asB, q]
        generalize gAnds (gTest asB (frz (gBin eqD (gN 5) (frz (gC (.int 2)))))) [(gTest asB (frz (gBin gtD (frz (gCall lenD (gConsA (gN 1) gNilA))) (frz (gC (.int 1))))))] = T at cond ⊢
        by_cases w3 : r1 = 3
        · subst w3
          obtain ⟨y, S3, e3, m3, p3⟩ := of_in (xs := [.str " -", .str " red", .str " ", .str " A", .str " aaaaaaaaa"]) p2 (by omega) (by simp) (by simp)
          have hy : ∃ z, y = .str z ∧ LnB 10 y := by
            simp only [List.mem_cons, List.not_mem_nil, or_false] at m3
            rcases m3 with rfl | rfl | rfl | rfl | rfl
            · exact ⟨_, rfl, ln_const (by decide +kernel)⟩
            · exact ⟨_, rfl, ln_const (by decide +kernel)⟩
            · exact ⟨_, rfl, ln_const (by decide +kernel)⟩
            · exact ⟨_, rfl, ln_const (by decide +kernel)⟩
            · exact ⟨_, rfl, ln_const (by decide +kernel)⟩
          obtain ⟨z, rfl, hz1⟩ := hy
          have hz10 : z.length ≤ 10 := by
            obtain ⟨_, e, a, _⟩ := hz1
            cases e
            exact a
          have A0 : addD (.str x) (.str z) = some (.sh (.str (x ++ z))) := if_pos (by show _ ≤ (16777216 : Nat); omega)
          have A1 := addL (xs := cutD ls none (some r2)) (ys := [D.str (x ++ z)]) (by have := cut_len ls none (some r2); simp; omega)
          have A2 := addL (xs := cutD ls none (some r2) ++ [D.str (x ++ z)]) (ys := cutD ls (some (r2 + 1)) none) (by have := cut_len ls none (some r2); have := cut_len ls (some (r2 + 1)) none; simp; omega)
          refine ⟨cutD ls none (some r2) ++ [.str (x ++ z)] ++ cutD ls (some (r2 + 1)) none, S3, ?_, lns_mid h (by simp) (by simp) (fun d hd => by rw [List.mem_singleton.mp hd]; exact ln_app ⟨x, rfl, hx, hs⟩ hz1) (by omega), p3.mono (by omega)⟩
          simp [gSeq, gIfS, gTest, gBin, gN, gV, gC, frz, Out.bind, Out.bindS, RV.fz, OD.fz, eqD, eqB, eqS, opt, asB, gRet, gSlice, gNoPart, gPart, slD, gLst, gConsA, gNilA, hz, T0, A0, A1, A2, outF, gFn, gLen, e3, outE, Dn.gNil, cond]
        · obtain ⟨r3, S3, e3, a3, b3, p3⟩ := take_in (u := (x.length : Int) + 1) p2 (by omega) (by omega) (by omega)
          obtain ⟨y, S4, e4, m4, p4⟩ := of_in (xs := [.str " ", .str "-", .str "a", .str "A", .str "0", .str ""]) p3 (by omega) (by simp) (by simp)
          obtain ⟨r5, S5, e5, a5, b5, p5⟩ := take_in (u := 2) p4 (by omega) (by decide) (by decide)
          have hy : ∃ z, y = .str z ∧ LnB 1 y := by
            simp only [List.mem_cons, List.not_mem_nil, or_false] at m4
            rcases m4 with rfl | rfl | rfl | rfl | rfl | rfl
            · exact ⟨_, rfl, ln_const (by decide +kernel)⟩
            · exact ⟨_, rfl, ln_const (by decide +kernel)⟩
            · exact ⟨_, rfl, ln_const (by decide +kernel)⟩
            · exact ⟨_, rfl, ln_const (by decide +kernel)⟩
            · exact ⟨_, rfl, ln_const (by decide +kernel)⟩
            · exact ⟨_, rfl, ln_const (by decide +kernel)⟩
          obtain ⟨z, rfl, hz1⟩ := hy
          have hb := ln_bent (B := B) (x := x) (i := r3) (j := r3 + r5) ⟨x, rfl, hx, hs⟩ hz1 a3 (by omega)
          have hb1 := hb
          obtain ⟨_, eb, ab, _⟩ := hb1
          cases eb
          rw [len_app, len_app] at ab
          have xl : x.length ≤ 16777216 := by omega
          have B0 : addD (.int r3) (.int r5) = some (.sh (.int (r3 + r5))) := rfl
          have B1 : addD (.str (Txt.slice x none (some r3))) (.str z) = some (.sh (.str (Txt.slice x none (some r3) ++ z))) := if_pos (by show _ ≤ (16777216 : Nat); omega)
          have B2 : addD (.str (Txt.slice x none (some r3) ++ z)) (.str (Txt.slice x (some (r3 + r5)) none)) = some (.sh (.str (Txt.slice x none (some r3) ++ z ++ Txt.slice x (some (r3 + r5)) none))) := if_pos (by show _ ≤ (16777216 : Nat); rw [len_app]; omega)
          generalize hw : Txt.slice x none (some r3) ++ z ++ Txt.slice x (some (r3 + r5)) none = w at *
          have A1 := addL (xs := cutD ls none (some r2)) (ys := [D.str w]) (by have := cut_len ls none (some r2); simp; omega)
          have A2 := addL (xs := cutD ls none (some r2) ++ [D.str w]) (ys := cutD ls (some (r2 + 1)) none) (by have := cut_len ls none (some r2); have := cut_len ls (some (r2 + 1)) none; simp; omega)
          have X0 : addD (.int x.length) (.int 1) = some (.sh (.int (x.length + 1))) := rfl
          refine ⟨cutD ls none (some r2) ++ [.str w] ++ cutD ls (some (r2 + 1)) none, S5, ?_, lns_mid h (by simp) (by simp) (fun d hd => by rw [List.mem_singleton.mp hd]; exact hb.mono (by omega)) (by omega), p5.mono (by omega)⟩
          simp [gSeq, gIfS, gSet, gTest, gBin, gN, gV, gC, frz, Out.bind, Out.bindS, RV.fz, OD.fz, eqD, eqB, eqS, opt, asB, gRet, gSlice, gNoPart, gPart, slD, gLst, gConsA, gNilA, hz, T0, X0, B0, B1, B2, A1, A2, outF, gFn, gLen, gCall, lenD, xl, e3, e4, e5, outE, put, Dn.gNil, cond, w0, w1, w3]
end Dn
end

section
set_option maxHeartbeats 4000000
-- P18
/-! P18: facts for one turn -/
namespace Dn
open PySem PySem.Spec L2 TL
theorem due_pos {m : Nat} : ∀ (xs : List Str) (k : Nat), 0 ≤ dueFrom m k xs ∧ dueFrom m k xs ≤ k + xs.length
  | [], k => by
    rw [dueFrom]
    exact ⟨by omega, by omega⟩
  | x :: xs, k => by
    rw [dueFrom]
    have ih : 0 ≤ dueFrom m ((k : Int) + 1) xs ∧ dueFrom m ((k : Int) + 1) xs ≤ ((k + 1 : Nat) : Int) + xs.length := due_pos xs (k + 1)
    rw [List.length_cons]
    split
    · omega
    · omega
theorem due_good {m : Nat} (hm : m ≤ 7) : ∀ (xs : List Str) (k : Nat), dueFrom m k xs = 0 → ∀ x ∈ xs, goodL x = true
  | [], _, _, x, h => absurd h (by simp)
  | y :: xs, k, e, x, h => by
    rw [dueFrom] at e
    have q : ¬ dueBad m k y = true := fun q => by
      rw [if_pos q] at e
      omega
    rw [if_neg q] at e
    rcases List.mem_cons.mp h with rfl | h
    · exact (good_of q).1
    · exact due_good hm xs (k + 1) e x h
theorem due_good' {xs : List Str} (h : dueOf xs = 0) : ∀ x ∈ xs, goodL x = true := by
  have key : ∀ (m : Nat) (xs : List Str) (k : Nat), dueFrom m k xs = 0 → ∀ x ∈ xs, goodL x = true := by
    intro m xs
    induction xs with
    | nil => intro k _ x h; exact absurd h (by simp)
    | cons y xs ih =>
      intro k e x h
      rw [dueFrom] at e
      have q : ¬ dueBad m k y = true := fun q => by
        rw [if_pos q] at e
        omega
      rw [if_neg q] at e
      rcases List.mem_cons.mp h with rfl | h
      · exact (good_of q).1
      · exact ih (k + 1) e x h
  exact key _ xs 0 h
theorem back_word (w : Str) : cellS (cellW w) = w := by
  unfold cellW
  split
  · rename_i h
    rw [eq_of_beq h]
    rfl
  · rfl
theorem back_words : ∀ ws : List Str, (ws.map cellW).map cellS = ws
  | [] => rfl
  | w :: ws => by rw [List.map_cons, List.map_cons, back_word, back_words ws]
theorem back_row {x : Str} (g : goodL x = true) : rowS (rowD x) = x := by
  unfold rowD
  rw [if_pos g]
  show Txt.join " " (((words x).map cellW).map cellS) = x
  rw [back_words]
  exact words_join x
theorem fit_row {x : Str} (g : goodL x = true) (hx : x.length ≤ 1000) : RowFit (rowD x) := by
  have hw := words_len x
  have hm := words_many x
  have e := back_words (words x)
  have g7 : (words x).length ≤ 7 := by
    unfold goodL at g
    simp only [Bool.and_eq_true, decide_eq_true_eq] at g
    exact g.1
  refine ⟨(words x).map cellW, by unfold rowD; rw [if_pos g], fun d hd => ?_, by rw [List.length_map]; omega, ?_⟩
  · obtain ⟨w, _, rfl⟩ := List.mem_map.mp hd
    unfold cellW
    split
    · exact trivial
    · exact trivial
  · rw [e]; omega
theorem len_small : ∀ n : Nat, n < 101 → ((PyData.int (n : Int)).showable = true ∧ (PyData.int (n : Int)).shown.length ≤ 100) := by decide +kernel
theorem sh_int {i : Int} (h0 : 0 ≤ i) (h1 : i < 101) : shP 0 100 (.int i) := by
  have h := len_small i.toNat (by omega)
  rw [Int.toNat_of_nonneg h0] at h
  exact ⟨.int i, by rw [toP], h.1, by rw [PyData.depth]; omega, h.2⟩
theorem ne_self {x : Str} : neD (.str x) (.str x) = some (.sh (.bl false)) := by simp [neD, eqB, eqS]
theorem ne_lst {n : Nat} {xs : List D} (h : okP n (.lst xs)) (hn : n ≤ 64) : neD (.lst xs) (.lst xs) = some (.sh (.bl false)) := by
  simp [neD, eqB, eqS, eqP_self h hn]
theorem ok_lines {xs : List Str} (h : ∀ x ∈ xs, ∀ c ∈ tl x, c < 0x110000 ∧ c ≠ 10) : okP 2 (.lst (strL xs)) := okP_lst fun d hd => by
  obtain ⟨x, hx, rfl⟩ := List.mem_map.mp hd
  exact okP_str (strOk_of (h x hx))
theorem join_big {L : Nat} : ∀ {xs : List Str}, (∀ x ∈ xs, x.length ≤ L) → (xs.map (·.length)).sum ≤ xs.length * L := fun {xs} h => by
  have := sum_le (l := xs.map (·.length)) (m := L) fun n hn => by
    obtain ⟨x, hx, rfl⟩ := List.mem_map.mp hn
    exact h x hx
  rwa [List.length_map] at this
theorem text_len {L : Nat} {x : Str} {xs : List Str} (h : ∀ y ∈ x :: xs, y.length ≤ L) : (textD (x :: xs)).length ≤ (x :: xs).length * (L + 1) := by
  have e := joinL_len 10 ((x :: xs).map tl) (by simp)
  have e0 : tl (textD (x :: xs)) = joinL [10] ((x :: xs).map tl) := by
    unfold textD
    rw [join_eq, tl_join, show tl NL = [10] by decide]
  rw [← e0] at e
  have b := join_big h
  have hm : (((x :: xs).map tl).map List.length) = (x :: xs).map (·.length) := by
    rw [List.map_map]
    exact List.map_congr_left fun z _ => (len_tl z).symm
  rw [hm, List.length_map] at e
  rw [len_tl, Nat.mul_succ]
  omega
/-- the text joins -/
theorem join_text {xs : List Str} {L : Nat} (h : ∀ y ∈ xs, y.length ≤ L) (hl : xs.length * (L + 1) ≤ 16777216) : joinD (Str.ofString "\n") (.lst (strL xs)) = some (.sh (.str (textD xs))) := by
  have so : strsOf (strL xs) = some xs := by
    have := strsOf_map (xs.map .str) cellS
    rw [List.map_map] at this
    unfold strL
    have e : ∀ ys : List Str, strsOf (ys.map D.str) = some ys := fun ys => by
      induction ys with
      | nil => rfl
      | cons y ys ih => rw [List.map_cons, strsOf, ih]; rfl
    exact e xs
  have b := join_big h
  show joinS _ _ = _
  unfold joinS
  rw [so]
  have c : (Str.ofString "\n").length = 1 := by decide
  simp only [c]
  rw [Nat.mul_succ] at hl
  exact if_pos (by omega)
end Dn
end

section
set_option maxHeartbeats 8000000
-- P19
/-! P19: one turn of bending (parts printed from G61) -/
namespace Dn
open PySem PySem.Spec L2 TL
def rightB : DS := (gSeq (gSet 5 (gFn K61.m__law_bent_lines (gLen 2 (gConsA (frz (gV 0)) (gConsA (frz (gV 2)) gNilA)))))
 (gSeq (gSet 5 (gIf (gTest asB (frz (gBin gtD (gN 3) (frz (gC (.int 5)))))) (gFn K61.m__law_bent_lines (gLen 2 (gConsA (frz (gV 0)) (gConsA (frz (gV 5)) gNilA)))) (gV 5)))
 (gSeq (gPar 8 9 (gConsA (frz (gFn K61.m__law_due (gLen 1 (gConsA (frz (gV 5)) gNilA)))) (gConsA (frz (gFn K61.m__law_met (gLen 1 (gConsA (frz (gM1 joinD (frz (gC (.str "\n"))) (gN 5))) gNilA)))) gNilA)))
 (gSeq (gIfS (gOrs (gTest asB (frz (gBin neD (frz (gBin ixD (gN 9) (frz (gC (.int 0))))) (frz (gBin gtD (gN 8) (frz (gC (.int 0)))))))) [(gAnds (gTest truD (frz (gBin ixD (gN 9) (frz (gC (.int 0)))))) [(gTest asB (frz (gBin neD (frz (gCall reprD (gConsA (frz (gBin ixD (gN 9) (frz (gC (.int 1))))) gNilA))) (frz (gCall reprD (gConsA (gN 8) gNilA))))))])]) (gSeq (gRet (gC (.bl false)))
 Dn.gNil) Dn.gNil)
 (gSeq (gIfS (gAnds (gNotT (gTest truD (frz (gBin ixD (gN 9) (frz (gC (.int 0))))))) [(gTest asB (frz (gBin neD (frz (gFn K61.m__law_lines_of (gLen 1 (gConsA (frz (gBin ixD (gN 9) (frz (gC (.int 1))))) gNilA)))) (gN 5))))]) (gSeq (gRet (gC (.bl false)))
 Dn.gNil) Dn.gNil)
 Dn.gNil)))))
section
variable {k : Nat} {P : D} {a3 a5 a8 a9 l2 : Option RV} {S : List OD} {ls : List D} {n m B : Nat}
def isL (r : Option RV) (xs : List D) : Prop := r = some (.ow (.lst xs)) ∨ r = some (.sh (.lst xs))
theorem turn1 (hl : isL l2 ls) (hp : PotIn S k n) (hn : n + 1000 < 1000000) (h : Lns B m ls) (hm : m ≤ 100) (hB : B ≤ 200) :
    ∃ ls' S', gSet 5 (gFn K61.m__law_bent_lines (gLen 2 (gConsA (frz (gV 0)) (gConsA (frz (gV 2)) gNilA)))) ⟨[some (.sh (.cell k)), some (.sh P), l2, a3, none, a5, none, none, a8, a9], S⟩
      = .nx ⟨[some (.sh (.cell k)), some (.sh P), some (.sh (.lst ls)), a3, none, some (.ow (.lst ls')), none, none, a8, a9], S'⟩ ∧ Lns (B + 10) (2 * m + 1) ls' ∧ PotIn S' k (n + 10) := by
  obtain ⟨ls', S', e, a, b⟩ := bent_ok hp hn h hm hB
  refine ⟨ls', S', ?_, a, b⟩
  rcases hl with rfl | rfl
  · simp [gSet, gFn, gLen, gConsA, gNilA, frz, gV, Out.bind, Out.bindS, RV.fz, OD.fz, e, outE, put]
  · simp [gSet, gFn, gLen, gConsA, gNilA, frz, gV, Out.bind, Out.bindS, RV.fz, OD.fz, e, outE, put]
theorem turn2 {i : Int} (hp : PotIn S k n) (hn : n + 1000 < 1000000) (h : Lns B m ls) (hm : m ≤ 100) (hB : B ≤ 200) :
    ∃ ls' r S', gSet 5 (gIf (gTest asB (frz (gBin gtD (gN 3) (frz (gC (.int 5)))))) (gFn K61.m__law_bent_lines (gLen 2 (gConsA (frz (gV 0)) (gConsA (frz (gV 5)) gNilA)))) (gV 5)) ⟨[some (.sh (.cell k)), some (.sh P), l2, some (.sh (.int i)), none, some (.ow (.lst ls)), none, none, a8, a9], S⟩
      = .nx ⟨[some (.sh (.cell k)), some (.sh P), l2, some (.sh (.int i)), none, r, none, none, a8, a9], S'⟩ ∧ isL r ls' ∧ Lns (B + 10) (2 * m + 1) ls' ∧ PotIn S' k (n + 10) := by
  by_cases hi : 5 < i
  · obtain ⟨ls', S', e, a, b⟩ := bent_ok hp hn h hm hB
    refine ⟨ls', some (.ow (.lst ls')), S', ?_, .inl rfl, a, b⟩
    simp [gSet, gIf, gTest, gBin, gN, gC, gtD, bo, opt, asB, hi, gFn, gLen, gConsA, gNilA, frz, gV, Out.bind, Out.bindS, RV.fz, OD.fz, e, outE, put]
  · refine ⟨ls, some (.sh (.lst ls)), S, ?_, .inr rfl, ⟨h.1, by have := h.2.1; omega, fun d hd => (h.2.2 d hd).mono (by omega)⟩, hp.mono (by omega)⟩
    simp [gSet, gIf, gTest, gBin, gN, gC, gtD, bo, opt, asB, hi, gFn, gLen, gConsA, gNilA, frz, gV, Out.bind, Out.bindS, RV.fz, OD.fz, outE, put]
end
def metD (xs : List Str) : D := if dueOf xs = 0 then .tup [.bl false, .tup (xs.map rowD)] else .tup [.bl true, .int (dueOf xs)]
theorem met_ok {x : Str} {xs : List Str} {S : List OD} (h : ∀ y ∈ x :: xs, LineOk y) (hl : xs.length ≤ 100) (ht : (textD (x :: xs)).length ≤ 1000000) : K61.m__law_met [.str (textD (x :: xs))] S = .ok (.sh (metD (x :: xs))) S := by
  have e := read_ok (S := S) h hl ht
  unfold metD
  split
  · rename_i h0
    rw [if_pos h0] at e
    exact met_good e
  · rename_i h0
    rw [if_neg h0] at e
    exact met_bad e
section
variable {k : Nat} {P : D} {a3 r a8 a9 l2 : Option RV} {S : List OD} {x : Str} {xs : List Str} {n m B : Nat}
theorem turn3 (hr : isL r (strL (x :: xs))) (h : ∀ y ∈ x :: xs, LineOk y) (hl : xs.length ≤ 99) :
    (gPar 8 9 (gConsA (frz (gFn K61.m__law_due (gLen 1 (gConsA (frz (gV 5)) gNilA)))) (gConsA (frz (gFn K61.m__law_met (gLen 1 (gConsA (frz (gM1 joinD (frz (gC (.str "\n"))) (gN 5))) gNilA)))) gNilA))) ⟨[some (.sh (.cell k)), some (.sh P), l2, a3, none, r, none, none, a8, a9], S⟩
      = .nx ⟨[some (.sh (.cell k)), some (.sh P), l2, a3, none, some (.sh (.lst (strL (x :: xs)))), none, none, some (.sh (.int (dueOf (x :: xs)))), some (.sh (metD (x :: xs)))], S⟩ := by
  have e1 := due_ok (S := S) (fun y hy => (h y hy).1) (by omega : xs.length ≤ 1000)
  have tl0 := text_len (L := 1000) fun y hy => (h y hy).1
  have e2 := met_ok (S := S) h (by omega) (by rw [List.length_cons] at tl0; omega)
  have e3 := join_text (xs := x :: xs) (L := 1000) (fun y hy => (h y hy).1) (by rw [List.length_cons]; omega)
  generalize dueOf (x :: xs) = dd at *
  generalize metD (x :: xs) = mm at *
  generalize strL (x :: xs) = ll at *
  rcases hr with rfl | rfl
  · simp [gPar, gFn, gLen, gConsA, gNilA, gM1, frz, gV, gN, gC, opt, Out.bind, Out.bindS, RV.fz, OD.fz, e1, e2, e3, outE, put]
  · simp [gPar, gFn, gLen, gConsA, gNilA, gM1, frz, gV, gN, gC, opt, Out.bind, Out.bindS, RV.fz, OD.fz, e1, e2, e3, outE, put]
end
end Dn
end

section
set_option maxHeartbeats 8000000
-- P20
/-! P20: one turn of bending -/
namespace Dn
open PySem PySem.Spec L2 TL
section
variable {k : Nat} {P : D} {a3 a5 r a8 a9 l2 : Option RV} {S : List OD} {x : Str} {xs : List Str} {n m B : Nat} {ls : List D}
theorem turn4 (hl : xs.length ≤ 90) : (gOrs (gTest asB (frz (gBin neD (frz (gBin ixD (gN 9) (frz (gC (.int 0))))) (frz (gBin gtD (gN 8) (frz (gC (.int 0)))))))) [(gAnds (gTest truD (frz (gBin ixD (gN 9) (frz (gC (.int 0)))))) [(gTest asB (frz (gBin neD (frz (gCall reprD (gConsA (frz (gBin ixD (gN 9) (frz (gC (.int 1))))) gNilA))) (frz (gCall reprD (gConsA (gN 8) gNilA))))))])]) ⟨[some (.sh (.cell k)), some (.sh P), l2, a3, none, some (.sh (.lst (strL (x :: xs)))), none, none, some (.sh (.int (dueOf (x :: xs)))), some (.sh (metD (x :: xs)))], S⟩ = .ok false ⟨[some (.sh (.cell k)), some (.sh P), l2, a3, none, some (.sh (.lst (strL (x :: xs)))), none, none, some (.sh (.int (dueOf (x :: xs)))), some (.sh (metD (x :: xs)))], S⟩ := by
  have dp := due_pos (m := (words x).length) (x :: xs) 0
  have dp1 : 0 ≤ dueOf (x :: xs) := dp.1
  have dp2 : dueOf (x :: xs) ≤ 0 + (x :: xs).length := dp.2
  rw [List.length_cons] at dp2
  by_cases h0 : dueOf (x :: xs) = 0
  · have em : metD (x :: xs) = .tup [.bl false, .tup ((x :: xs).map rowD)] := if_pos h0
    rw [em, h0]
    simp [gOrs, gOrT, gAnds, gAndT, gNotT, gTest, frz, gN, gC, gV, Out.bind, Out.bindS, RV.fz, OD.fz, opt, truD, asB, gBin, bo, gCall, gConsA, gNilA, ixD, atI, ixN, gtD, neD, eqB, eqS]
  · have em : metD (x :: xs) = .tup [.bl true, .int (dueOf (x :: xs))] := if_neg h0
    rw [em]
    have pos : 0 < dueOf (x :: xs) := by omega
    obtain ⟨z, hz⟩ := (sh_int dp1 (by omega)).repr (by decide) (by decide)
    generalize dueOf (x :: xs) = dd at *
    simp [gOrs, gOrT, gAnds, gAndT, gNotT, gTest, frz, gN, gC, gV, Out.bind, Out.bindS, RV.fz, OD.fz, opt, truD, asB, gBin, bo, gCall, gConsA, gNilA, ixD, atI, ixN, gtD, neD, eqB, eqS, pos, hz]
theorem turn5 (h : ∀ y ∈ x :: xs, LineOk y) (hl : xs.length ≤ 90) : (gAnds (gNotT (gTest truD (frz (gBin ixD (gN 9) (frz (gC (.int 0))))))) [(gTest asB (frz (gBin neD (frz (gFn K61.m__law_lines_of (gLen 1 (gConsA (frz (gBin ixD (gN 9) (frz (gC (.int 1))))) gNilA)))) (gN 5))))]) ⟨[some (.sh (.cell k)), some (.sh P), l2, a3, none, some (.sh (.lst (strL (x :: xs)))), none, none, some (.sh (.int (dueOf (x :: xs)))), some (.sh (metD (x :: xs)))], S⟩ = .ok false ⟨[some (.sh (.cell k)), some (.sh P), l2, a3, none, some (.sh (.lst (strL (x :: xs)))), none, none, some (.sh (.int (dueOf (x :: xs)))), some (.sh (metD (x :: xs)))], S⟩ := by
  by_cases h0 : dueOf (x :: xs) = 0
  · have em : metD (x :: xs) = .tup [.bl false, .tup ((x :: xs).map rowD)] := if_pos h0
    rw [em, h0]
    have g := due_good' h0
    have e1 := lines_of_ok (S := S) (rows := (x :: xs).map rowD) (fun d hd => by
      obtain ⟨y, hy, rfl⟩ := List.mem_map.mp hd
      exact fit_row (g y hy) (h y hy).1) (by rw [List.length_map, List.length_cons]; omega)
    have e2 : ((x :: xs).map rowD).map rowS = x :: xs := by
      have key : ∀ ys : List Str, (∀ y ∈ ys, goodL y = true) → (ys.map rowD).map rowS = ys := fun ys => by
        induction ys with
        | nil => intro _; rfl
        | cons y ys ih =>
          intro q
          rw [List.map_cons, List.map_cons, back_row (q y (by simp)), ih fun z hz => q z (List.mem_cons_of_mem _ hz)]
      exact key _ g
    rw [e2] at e1
    have e3 := ne_lst (ok_lines (xs := x :: xs) fun y hy => (h y hy).2) (by decide)
    generalize (x :: xs).map rowD = rr at *
    generalize strL (x :: xs) = ll at *
    simp [gOrs, gOrT, gAnds, gAndT, gNotT, gTest, frz, gN, gC, gV, Out.bind, Out.bindS, RV.fz, OD.fz, opt, truD, asB, gBin, bo, gCall, gConsA, gNilA, ixD, atI, ixN, gtD, gFn, gLen, e1, outE, e3]
  · have em : metD (x :: xs) = .tup [.bl true, .int (dueOf (x :: xs))] := if_neg h0
    rw [em]
    generalize dueOf (x :: xs) = dd at *
    simp [gOrs, gOrT, gAnds, gAndT, gNotT, gTest, frz, gN, gC, gV, Out.bind, Out.bindS, RV.fz, OD.fz, opt, truD, asB, gBin, bo, gCall, gConsA, gNilA, ixD, atI, ixN, gtD]
/-- one turn -/
theorem turn_ok {i : Int} (hl2 : isL l2 ls) (hp : PotIn S k n) (hn : n + 2000 < 1000000) (h : Lns B m ls) (hm : m ≤ 10) (hB : B ≤ 150) :
    ∃ c5 c8 c9 S', rightB ⟨[some (.sh (.cell k)), some (.sh P), l2, some (.sh (.int i)), none, a5, none, none, a8, a9], S⟩
      = .nx ⟨[some (.sh (.cell k)), some (.sh P), some (.sh (.lst ls)), some (.sh (.int i)), none, c5, none, none, c8, c9], S'⟩ ∧ PotIn S' k (n + 20) := by
  obtain ⟨ls1, S1, e1, h1, p1⟩ := turn1 (P := P) (a3 := some (.sh (.int i))) (a5 := a5) (a8 := a8) (a9 := a9) hl2 hp (by omega) h (by omega) (by omega)
  obtain ⟨ls2, r2, S2, e2, hr2, h2, p2⟩ := turn2 (P := P) (l2 := some (.sh (.lst ls))) (i := i) (a8 := a8) (a9 := a9) p1 (by omega) h1 (by omega) (by omega)
  obtain ⟨x, xs, rfl, hx, hs⟩ := lns_strs h2
  have hok : ∀ y ∈ x :: xs, LineOk y := fun y hy => ⟨by have := (hs y hy).1; omega, (hs y hy).2⟩
  have e3 := turn3 (k := k) (P := P) (a3 := some (.sh (.int i))) (r := r2) (a8 := a8) (a9 := a9) (l2 := some (.sh (.lst ls))) (S := S2) hr2 hok (by omega)
  have e4 := turn4 (k := k) (P := P) (a3 := some (.sh (.int i))) (l2 := some (.sh (.lst ls))) (S := S2) (x := x) (xs := xs) (by omega)
  have e5 := turn5 (k := k) (P := P) (a3 := some (.sh (.int i))) (l2 := some (.sh (.lst ls))) (S := S2) hok (by omega)
  refine ⟨some (.sh (.lst (strL (x :: xs)))), some (.sh (.int (dueOf (x :: xs)))), some (.sh (metD (x :: xs))), S2, ?_, p2⟩
  unfold rightB
  rw [gSeq, e1]
  simp only
  rw [gSeq, e2]
  simp only
  rw [gSeq, e3]
  simp only
  rw [gSeq, gIfS, e4]
  simp only [Out.bindS, Bool.false_eq_true, if_false, Dn.gNil]
  rw [gSeq, gIfS, e5]
  simp only [Out.bindS, Bool.false_eq_true, if_false, Dn.gNil]
end
end Dn
end

section
set_option maxHeartbeats 8000000
-- P21
/-! P21: the turns of bending; the first test of _law_right -/
namespace Dn
open PySem PySem.Spec L2 TL
section
variable {k : Nat} {P : D} {ls : List D} {m B : Nat}
theorem turns_ok (h : Lns B m ls) (hm : m ≤ 10) (hB : B ≤ 150) : ∀ (is : List Int) (n : Nat) (S : List OD) (l2 a3 a5 a8 a9 : Option RV), isL l2 ls → PotIn S k n → n + 20 * is.length + 2000 < 1000000 →
    ∃ c2 c3 c5 c8 c9 S', gForL (fName 3) rightB (is.map D.int) ⟨[some (.sh (.cell k)), some (.sh P), l2, a3, none, a5, none, none, a8, a9], S⟩
      = .nx ⟨[some (.sh (.cell k)), some (.sh P), c2, c3, none, c5, none, none, c8, c9], S'⟩ ∧ isL c2 ls ∧ PotIn S' k (n + 20 * is.length)
  | [], n, S, l2, a3, a5, a8, a9, hl, hp, hn => ⟨l2, a3, a5, a8, a9, S, rfl, hl, hp⟩
  | i :: is, n, S, l2, a3, a5, a8, a9, hl, hp, hn => by
    rw [List.length_cons] at hn
    obtain ⟨b5, b8, b9, S1, e1, p1⟩ := turn_ok (P := P) (i := i) (a5 := a5) (a8 := a8) (a9 := a9) hl hp (by omega) h hm hB
    obtain ⟨c2, c3, c5, c8, c9, S', e2, hl2, p2⟩ := turns_ok h hm hB is (n + 20) S1 (some (.sh (.lst ls))) (some (.sh (.int i))) b5 b8 b9 (.inr rfl) p1 (by omega)
    refine ⟨c2, c3, c5, c8, c9, S', ?_, hl2, by rw [List.length_cons]; exact p2.mono (by omega)⟩
    have ft : fName 3 (.int i) ⟨[some (.sh (.cell k)), some (.sh P), l2, a3, none, a5, none, none, a8, a9], S⟩ = some ⟨[some (.sh (.cell k)), some (.sh P), l2, some (.sh (.int i)), none, a5, none, none, a8, a9], S⟩ := rfl
    rw [List.map_cons, gForL, ft]
    simp only
    rw [e1]
    exact e2
end
theorem mem_join {s c : Nat} : ∀ {ps : List (List Nat)}, c ∈ joinL [s] ps → c = s ∨ ∃ p ∈ ps, c ∈ p
  | [], h => absurd h (by simp [joinL])
  | [p], h => .inr ⟨p, by simp, h⟩
  | p :: q :: r, h => by
    rw [joinL, List.mem_append, List.mem_append] at h
    rcases h with h | h | h
    · exact .inr ⟨p, by simp, h⟩
    · exact .inl (by simpa using h)
    · rcases mem_join h with h | ⟨z, hz, hc⟩
      · exact .inl h
      · exact .inr ⟨z, List.mem_cons_of_mem _ hz, hc⟩
theorem strOk_of0 {x : Str} (h : ∀ c ∈ tl x, c < 0x110000) : PyData.strOk x = true := by
  unfold PyData.strOk
  rw [← Array.all_toList, List.all_eq_true]
  intro c hc
  exact decide_eq_true (h c hc)
theorem colour_cell {d : D} (h : d ∈ colours) : FineC d ∧ cellB d = true ∧ shP 0 100 d := by
  unfold colours at h
  simp only [List.mem_cons, List.not_mem_nil, or_false] at h
  rcases h with rfl | rfl | rfl | rfl | rfl | rfl
  · exact ⟨.inr (.inl ⟨_, rfl, by decide +kernel⟩), by decide +kernel, shP_str (by decide +kernel) (by decide +kernel)⟩
  · exact ⟨.inr (.inl ⟨_, rfl, by decide +kernel⟩), by decide +kernel, shP_str (by decide +kernel) (by decide +kernel)⟩
  · exact ⟨.inr (.inl ⟨_, rfl, by decide +kernel⟩), by decide +kernel, shP_str (by decide +kernel) (by decide +kernel)⟩
  · exact ⟨.inr (.inl ⟨_, rfl, by decide +kernel⟩), by decide +kernel, shP_str (by decide +kernel) (by decide +kernel)⟩
  · exact ⟨.inl rfl, rfl, shP_non (L := 96)⟩
  · exact ⟨.inl rfl, rfl, shP_non (L := 96)⟩
section
variable {h w : Nat} {rows : List D}
theorem row_fine {r : D} (w7 : w ≤ 7) (q : RowOf w r) : FineR r ∧ lineB w r = true ∧ shP 1 1000 r ∧ RowFit r := by
  obtain ⟨xs, rfl, hl, hx⟩ := q
  have hf : RowFit (.tup xs) := by
    refine ⟨xs, rfl, fun x hx' => (colour_facts (hx x hx')).2.2.2.2.2, by omega, ?_⟩
    have s := sum_le (l := (xs.map cellS).map (·.length)) (m := 8) fun n hn => by
      obtain ⟨x, hx', rfl⟩ := List.mem_map.mp hn
      obtain ⟨d, hd, rfl⟩ := List.mem_map.mp hx'
      exact (colour_facts (hx d hd)).2.2.1
    simp only [List.length_map] at s ⊢
    omega
  refine ⟨.inl ⟨xs, rfl, by omega, fun c hc => (colour_cell (hx c hc)).1⟩, ?_, ?_, hf⟩
  · unfold lineB
    simp only [Bool.and_eq_true, decide_eq_true_eq, List.all_eq_true]
    exact ⟨by omega, fun c hc => (colour_cell (hx c hc)).2.1⟩
  · exact (shP_tup (n := 0) (L := 100) (m := 7) (fun x hx' => (colour_cell (hx x hx')).2.2) (by omega)).mono (by omega) (by omega)
theorem pic_fine (p : PicOf h w rows) (h1 : 1 ≤ h) (h7 : h ≤ 7) (w1 : 1 ≤ w) (w7 : w ≤ 7) : FineP (.tup rows) ∧ chkB (.tup rows) = true ∧ shP 2 10000 (.tup rows) ∧ ∃ r0 rest, rows = .tup r0 :: rest ∧ r0.length = w ∧ ∀ x ∈ r0, x ∈ colours := by
  have hl := p.1
  refine ⟨.inl ⟨rows, rfl, by omega, fun r hr => (row_fine w7 (p.2 r hr)).1⟩, ?_, (shP_tup (n := 1) (L := 1000) (m := 7) (fun x hx => (row_fine w7 (p.2 x hx)).2.2.1) (by omega)).mono (by omega) (by omega), ?_⟩
  · cases rows with
    | nil => simp at hl; omega
    | cons r rest =>
      obtain ⟨r0, rfl, e, hx⟩ := p.2 r (by simp)
      rw [chkB_cons]
      simp only [Bool.and_eq_true, decide_eq_true_eq, List.all_eq_true]
      rw [List.length_cons] at hl
      exact ⟨by omega, by omega, fun r hr => by rw [e]; exact (row_fine w7 (p.2 r hr)).2.1⟩
  · cases rows with
    | nil => simp at hl; omega
    | cons r rest =>
      obtain ⟨r0, rfl, e, hx⟩ := p.2 r (by simp)
      exact ⟨r0, rest, rfl, e, hx⟩
theorem right_first {k : Nat} {a3 a4 a5 a6 a7 a8 a9 : Option RV} {S : List OD} (p : PicOf h w rows) (h1 : 1 ≤ h) (h7 : h ≤ 7) (w1 : 1 ≤ w) (w7 : w ≤ 7) :
    (gOrs (gTest asB (frz (gBin neD (frz (gCall reprD (gConsA (frz (gFn K61.m_show_picture (gLen 1 (gConsA (frz (gV 1)) gNilA)))) gNilA))) (frz (gCall reprD (gConsA (frz (gM1 joinD (frz (gC (.str "\n"))) (gN 2))) gNilA)))))) [(gTest asB (frz (gBin neD (frz (gCall reprD (gConsA (frz (gFn K61.m_read_picture (gLen 1 (gConsA (frz (gM1 joinD (frz (gC (.str "\n"))) (gN 2))) gNilA)))) gNilA))) (frz (gCall reprD (gConsA (gN 1) gNilA))))))]) ⟨[some (.sh (.cell k)), some (.sh (.tup rows)), some (.ow (.lst (strL (rows.map rowS)))), a3, a4, a5, a6, a7, a8, a9], S⟩
      = .ok false ⟨[some (.sh (.cell k)), some (.sh (.tup rows)), some (.ow (.lst (strL (rows.map rowS)))), a3, a4, a5, a6, a7, a8, a9], S⟩ := by
  obtain ⟨fp, cp, sp, r0, rest, er, _⟩ := pic_fine p h1 h7 w1 w7
  obtain ⟨q1, q2, q3⟩ := pic_lines p h7 w1 w7
  have hl := p.1
  have hne : rows ≠ [] := by rw [er]; simp
  obtain ⟨y, ys, ey⟩ : ∃ y ys, rows.map rowS = y :: ys := by rw [er]; exact ⟨_, _, rfl⟩
  have ln : (rows.map rowS).length = rows.length := List.length_map ..
  have jb := join_big (L := 70) fun x hx => (q1 x hx).2
  have e1 := show_ok (S := S) fp cp (fun r hr => (row_fine w7 (p.2 r hr)).2.2.2) (by omega) (by omega)
  have jt := join_text (xs := rows.map rowS) (L := 70) (fun x hx => (q1 x hx).2) (by omega)
  have d0 := q3 hne
  obtain ⟨u, hu⟩ := sp.repr (by decide) (by decide)
  have e2 : K61.m_read_picture [.str (textD (rows.map rowS))] S = .ok (.sh (.tup rows)) S := by
    rw [ey] at d0 q2 ⊢
    have tl0 := text_len (L := 70) fun z hz => (q1 z (by rw [ey]; exact hz)).2
    rw [ey, List.length_cons] at ln
    rw [List.length_cons] at tl0
    rw [read_ok (fun z hz => (q1 z (by rw [ey]; exact hz)).1) (by omega) (by omega), if_pos d0, q2]
  have ts : PyData.strOk (textD (rows.map rowS)) = true := by
    refine strOk_of0 fun c hc => ?_
    have hc : c ∈ tl (textD (rows.map rowS)) := hc
    unfold textD at hc
    rw [join_eq, tl_join, show tl NL = [10] by decide] at hc
    rcases mem_join hc with rfl | ⟨z, hz, hc⟩
    · decide
    · obtain ⟨x, hx, rfl⟩ := List.mem_map.mp hz
      exact ((q1 x hx).1.2 c hc).1
  have tl1 : (textD (rows.map rowS)).length ≤ 1000 := by
    have tl0 := text_len (L := 70) (x := y) (xs := ys) fun z hz => (q1 z (by rw [ey]; exact hz)).2
    rw [← ey, ln] at tl0
    omega
  obtain ⟨v, hv⟩ := (shP_str (n := 0) (L := 10002) ts (by omega)).repr (by decide) (by decide)
  generalize textD (rows.map rowS) = T at *
  generalize strL (rows.map rowS) = LL at *
  simp [gOrs, gOrT, gAnds, gAndT, gNotT, gTest, frz, gN, gC, gV, Out.bind, Out.bindS, RV.fz, OD.fz, opt, truD, asB, gBin, bo, gCall, gConsA, gNilA, gFn, gLen, gM1, e1, e2, jt, hu, hv, outE, ne_self]
end
end Dn
end

section
set_option maxHeartbeats 4000000
-- P22
/-! P22: pictures that are none -/
namespace Dn
open PySem PySem.Spec L2 TL
def Bad (d : D) : Prop := FineP d ∧ chkB d = false ∧ ∃ n L, n < 60 ∧ L ≤ 16777216 ∧ shP n L d
def odds (r0 rest : List D) : List D := [.tup [], .tup [.tup []], .non, .str "-", .lst (.tup r0 :: rest), .tup [.lst r0], .tup [.tup r0, .tup (r0 ++ [.str "red"])], .tup [.tup [.int 0]], .tup [.tup [.bl true]]]
def larges (rows : List D) : List D := [.tup [.tup (List.replicate 8 [D.non]).flatten], .tup (List.replicate 8 [D.tup [D.non]]).flatten, .tup [.tup [.str "A"]], .tup [.tup [.str "-"]], .tup [.tup [.str "aaaaaaaaa"]], .tup (rows ++ [.non])]
theorem fineT {xs : List D} (h : ∀ c ∈ xs, FineC c) (hl : xs.length ≤ 1000) : FineR (.tup xs) := .inl ⟨xs, rfl, hl, h⟩
theorem red_col : D.str "red" ∈ colours := by simp [colours]
theorem sh_colR {xs : List D} (h : ∀ x ∈ xs, x ∈ colours) (hl : xs.length ≤ 8) : shP 1 2000 (.tup xs) := (shP_tup (n := 0) (L := 100) (m := 8) (fun x hx => (colour_cell (h x hx)).2.2) hl).mono (by omega) (by omega)
theorem sh_int0 : shP 0 100 (.int 0) := sh_int (by decide) (by decide)
theorem sh_true : shP 0 100 (.bl true) := ⟨.bool true, by rw [toP], by rw [PyData.showable], by rw [PyData.depth]; omega, by rw [PyData.shown]; decide⟩
theorem one {P : D → Prop} {d : D} (h : P d) : ∀ x ∈ [d], P x := fun x hx => by rw [List.mem_singleton.mp hx]; exact h
theorem none' {P : D → Prop} : ∀ x ∈ ([] : List D), P x := fun x hx => absurd hx (by simp)
/-- a picture of one row -/
theorem bad_one {xs : List D} {n L : Nat} (h : ∀ c ∈ xs, FineC c) (hl : xs.length ≤ 1000) (hb : chkB (.tup [.tup xs]) = false) (hs : ∀ c ∈ xs, shP n L c) (hn : n + 3 < 60) (hL : xs.length * (L + 2) + 100 ≤ 16777216) : Bad (.tup [.tup xs]) := by
  refine ⟨.inl ⟨_, rfl, by simp, one (fineT h hl)⟩, hb, n + 1 + 1, 1 * ((xs.length * (L + 2) + 4) + 2) + 4, by omega, by omega, shP_tup (one (shP_tup hs (Nat.le_refl _))) (by simp)⟩
section
variable {h w : Nat} {r0 rest : List D}
theorem odd_ok (p : PicOf h w (.tup r0 :: rest)) (h1 : 1 ≤ h) (h7 : h ≤ 7) (w1 : 1 ≤ w) (w7 : w ≤ 7) (hl : r0.length = w) (hx : ∀ x ∈ r0, x ∈ colours) : ∀ d ∈ odds r0 rest, Bad d := by
  intro d hd
  have hp := p.1
  unfold odds at hd
  simp only [List.mem_cons, List.not_mem_nil, or_false] at hd
  have fr : ∀ r ∈ D.tup r0 :: rest, shP 1 1000 r := fun r hr => (row_fine w7 (p.2 r hr)).2.2.1
  rcases hd with rfl | rfl | rfl | rfl | rfl | rfl | rfl | rfl | rfl
  · exact ⟨.inl ⟨[], rfl, by simp, none'⟩, rfl, 1, 0 * (0 + 2) + 4, by decide, by decide, shP_tup (n := 0) (L := 0) (m := 0) none' (by simp)⟩
  · exact bad_one (n := 0) (L := 0) none' (by simp) rfl none' (by decide) (by simp)
  · exact ⟨.inr ⟨⟨"NoneType", rfl, by decide⟩, rfl⟩, rfl, 0, 4, by decide, by decide, shP_non (L := 0)⟩
  · exact ⟨.inr ⟨⟨"str", rfl, by decide⟩, rfl⟩, rfl, 0, 100, by decide, by decide, shP_str (by decide +kernel) (by decide +kernel)⟩
  · exact ⟨.inr ⟨⟨"list", rfl, by decide⟩, rfl⟩, rfl, 2, 7 * (1000 + 2) + 4, by decide, by decide, shP_lst fr (by omega)⟩
  · refine ⟨.inl ⟨_, rfl, by simp, one (.inr ⟨⟨"list", rfl, by decide⟩, fun _ => rfl⟩)⟩, rfl, 2, 1 * (7 * (100 + 2) + 4 + 2) + 4, by decide, by decide, shP_tup (one (shP_lst (n := 0) (fun x q => (colour_cell (hx x q)).2.2) (by omega))) (by simp)⟩
  · have mx : ∀ x ∈ r0 ++ [D.str "red"], x ∈ colours := fun x q => by
      rcases List.mem_append.mp q with q | q
      · exact hx x q
      · rw [List.mem_singleton.mp q]; exact red_col
    refine ⟨.inl ⟨_, rfl, by simp, fun r hr => ?_⟩, ?_, 2, 2 * (2000 + 2) + 4, by decide, by decide, shP_tup (n := 1) (L := 2000) (m := 2) (fun r hr => ?_) (by simp)⟩
    · simp only [List.mem_cons, List.not_mem_nil, or_false] at hr
      rcases hr with rfl | rfl
      · exact fineT (fun c hc => (colour_cell (hx c hc)).1) (by omega)
      · exact fineT (fun c hc => (colour_cell (mx c hc)).1) (by simp; omega)
    · rw [chkB_cons]
      have : lineB (r0.length : Int) (.tup (r0 ++ [D.str "red"])) = false := by
        unfold lineB
        have : ¬ ((r0 ++ [D.str "red"]).length : Int) = r0.length := by simp; omega
        show (decide (((r0 ++ [D.str "red"]).length : Int) = r0.length) && _) = false
        rw [decide_eq_false this, Bool.false_and]
      simp [this]
    · simp only [List.mem_cons, List.not_mem_nil, or_false] at hr
      rcases hr with rfl | rfl
      · exact sh_colR hx (by omega)
      · exact sh_colR mx (by simp; omega)
  · exact bad_one (n := 0) (L := 100) (one (.inr (.inr (.inl ⟨0, rfl⟩)))) (by simp) (by decide +kernel) (one sh_int0) (by decide) (by simp)
  · exact bad_one (n := 0) (L := 100) (one (.inr (.inr (.inr ⟨true, rfl⟩)))) (by simp) (by decide +kernel) (one sh_true) (by decide) (by simp)
theorem large_ok {rows : List D} (p : PicOf h w rows) (h1 : 1 ≤ h) (h7 : h ≤ 7) (w1 : 1 ≤ w) (w7 : w ≤ 7) : ∀ d ∈ larges rows, Bad d := by
  intro d hd
  have hp := p.1
  unfold larges at hd
  simp only [List.mem_cons, List.not_mem_nil, or_false] at hd
  have strC : ∀ x : Str, x.length ≤ 1000 → FineC (.str x) := fun x q => .inr (.inl ⟨x, rfl, q⟩)
  rcases hd with rfl | rfl | rfl | rfl | rfl | rfl
  · refine bad_one (n := 0) (L := 100) (fun c hc => ?_) (by decide) (by decide +kernel) (fun c hc => ?_) (by decide) (by decide)
    · have : c = .non := by simpa using hc
      exact .inl this
    · have : c = .non := by simpa using hc
      rw [this]; exact shP_non (L := 96)
  · have each : ∀ r ∈ (List.replicate 8 [D.tup [D.non]]).flatten, r = .tup [.non] := fun r hr => by simpa using hr
    refine ⟨.inl ⟨_, rfl, by decide, fun r hr => by rw [each r hr]; exact fineT (one (.inl rfl)) (by simp)⟩, by decide +kernel, 2, 8 * (1 * (100 + 2) + 4 + 2) + 4, by decide, by decide, shP_tup (fun r hr => by rw [each r hr]; exact shP_tup (n := 0) (L := 100) (m := 1) (one (shP_non (L := 96))) (by simp)) (by decide)⟩
  · exact bad_one (n := 0) (L := 100) (one (strC _ (by decide +kernel))) (by simp) (by decide +kernel) (one (shP_str (by decide +kernel) (by decide +kernel))) (by decide) (by simp)
  · exact bad_one (n := 0) (L := 100) (one (strC _ (by decide +kernel))) (by simp) (by decide +kernel) (one (shP_str (by decide +kernel) (by decide +kernel))) (by decide) (by simp)
  · exact bad_one (n := 0) (L := 100) (one (strC _ (by decide +kernel))) (by simp) (by decide +kernel) (one (shP_str (by decide +kernel) (by decide +kernel))) (by decide) (by simp)
  · have fr : ∀ r ∈ rows ++ [D.non], FineR r ∧ shP 1 1000 r := fun r hr => by
      rcases List.mem_append.mp hr with hr | hr
      · exact ⟨(row_fine w7 (p.2 r hr)).1, (row_fine w7 (p.2 r hr)).2.2.1⟩
      · rw [List.mem_singleton.mp hr]
        exact ⟨.inr ⟨⟨"NoneType", rfl, by decide⟩, fun _ => rfl⟩, shP_non (L := 996)⟩
    refine ⟨.inl ⟨_, rfl, by simp; omega, fun r hr => (fr r hr).1⟩, ?_, 2, 8 * (1000 + 2) + 4, by decide, by decide, shP_tup (fun r hr => (fr r hr).2) (by simp; omega)⟩
    cases rows with
    | nil => rfl
    | cons r rest =>
      obtain ⟨r0, rfl, e, _⟩ := p.2 r (by simp)
      show chkB (.tup (.tup r0 :: (rest ++ [D.non]))) = false
      rw [chkB_cons]
      have : lineB (r0.length : Int) .non = false := rfl
      simp [this]
end
end Dn
end

section
set_option maxHeartbeats 8000000
-- P23
/-! P23: the end of _law_right -/
namespace Dn
open PySem PySem.Spec L2 TL
def odds7 (r0 rest : List D) : List D := [.tup [], .tup [.tup []], .non, .str "-", .lst (.tup r0 :: rest), .tup [.lst r0], .tup [.tup r0, .tup (r0 ++ [.str "red"])]]
def lasts (rows : List D) : List D := [.non, .int 0, .tup rows, .lst [], .dct []]
section
variable {k n h w : Nat} {r0 rest : List D} {c2 c3 c5 c8 c9 : Option RV} {S : List OD} {o l : D}
theorem end4 (hl : r0.length ≤ 7) : (gSet 4 (gBin addD (frz (gBin ixD (gN 1) (frz (gC (.int 0))))) (frz (Dn.gTup (gConsA (frz (gC (.str "red"))) gNilA))))) ⟨[some (.sh (.cell k)), some (.sh (.tup (.tup r0 :: rest))), c2, c3, none, c5, none, none, c8, c9], S⟩ = .nx ⟨[some (.sh (.cell k)), some (.sh (.tup (.tup r0 :: rest))), c2, c3, some (.sh (.tup (r0 ++ [.str "red"]))), c5, none, none, c8, c9], S⟩ := by
  have hz : sizeLine = 16777216 := rfl
  have A : addD (.tup r0) (.tup [.str "red"]) = some (.sh (.tup (r0 ++ [.str "red"]))) := if_pos (by show _ ≤ (16777216 : Nat); simp; omega)
  simp [gTest, frz, gN, gC, gV, Out.bind, Out.bindS, RV.fz, OD.fz, opt, gBin, gCall, gConsA, gNilA, Dn.gTup, gLst, ixD, atI, ixN, gSet, put, hz, A]
theorem end5 : (gSet 5 (gLst (gConsA (frz (Dn.gTup gNilA)) (gConsA (frz (Dn.gTup (gConsA (frz (Dn.gTup gNilA)) gNilA))) (gConsA (frz (gC .non)) (gConsA (frz (gC (.str "-"))) (gConsA (frz (gCall listD (gConsA (gN 1) gNilA))) (gConsA (frz (Dn.gTup (gConsA (frz (gCall listD (gConsA (frz (gBin ixD (gN 1) (frz (gC (.int 0))))) gNilA))) gNilA))) (gConsA (frz (Dn.gTup (gConsA (frz (gBin ixD (gN 1) (frz (gC (.int 0))))) (gConsA (frz (gV 4)) gNilA)))) gNilA))))))))) ⟨[some (.sh (.cell k)), some (.sh (.tup (.tup r0 :: rest))), c2, c3, some (.sh (.tup (r0 ++ [.str "red"]))), c5, none, none, c8, c9], S⟩ = .nx ⟨[some (.sh (.cell k)), some (.sh (.tup (.tup r0 :: rest))), c2, c3, some (.sh (.tup (r0 ++ [.str "red"]))), some (.ow (.lst (odds7 r0 rest))), none, none, c8, c9], S⟩ := by
  have hz : sizeLine = 16777216 := rfl
  simp [gTest, frz, gN, gC, gV, Out.bind, Out.bindS, RV.fz, OD.fz, opt, gBin, gCall, gConsA, gNilA, Dn.gTup, gLst, ixD, atI, ixN, gSet, put, hz, listD, odds7]
theorem end6 (hp : PotIn S k n) (hn : n + 100 < 1000000) : ∃ o S', (gSet 6 (gFn K61.m__law_of (gLen 2 (gConsA (frz (gV 0)) (gConsA (frz (gBin addD (gN 5) (frz (gLst (gConsA (frz (Dn.gTup (gConsA (frz (Dn.gTup (gConsA (frz (gC (.int 0))) gNilA))) gNilA))) (gConsA (frz (Dn.gTup (gConsA (frz (Dn.gTup (gConsA (frz (gC (.bl true))) gNilA))) gNilA))) gNilA)))))) gNilA))))) ⟨[some (.sh (.cell k)), some (.sh (.tup (.tup r0 :: rest))), c2, c3, some (.sh (.tup (r0 ++ [.str "red"]))), some (.ow (.lst (odds7 r0 rest))), none, none, c8, c9], S⟩ = .nx ⟨[some (.sh (.cell k)), some (.sh (.tup (.tup r0 :: rest))), c2, c3, some (.sh (.tup (r0 ++ [.str "red"]))), some (.ow (.lst (odds7 r0 rest))), some (.sh o), none, c8, c9], S'⟩ ∧ o ∈ odds r0 rest ∧ PotIn S' k (n + 1) := by
  have hz : sizeLine = 16777216 := rfl
  obtain ⟨o, S', e, m, p⟩ := of_in (xs := odds r0 rest) hp (by omega) (by simp [odds]) (by simp [odds])
  refine ⟨o, S', ?_, m, p⟩
  have A : addD (.lst (odds7 r0 rest)) (.lst [.tup [.tup [.int 0]], .tup [.tup [.bl true]]]) = some (.ow (.lst (odds r0 rest))) := (addL (by simp [odds7])).trans rfl
  generalize odds r0 rest = oo at *
  generalize odds7 r0 rest = o7 at *
  simp [gTest, frz, gN, gC, gV, Out.bind, Out.bindS, RV.fz, OD.fz, opt, gBin, gCall, gConsA, gNilA, Dn.gTup, gLst, ixD, atI, ixN, gSet, put, hz, A, gFn, gLen, e, outE]
theorem end7 (hl : rest.length ≤ 7) (hp : PotIn S k n) (hn : n + 100 < 1000000) : ∃ l S', (gSet 7 (gFn K61.m__law_of (gLen 2 (gConsA (frz (gV 0)) (gConsA (frz (gLst (gConsA (frz (Dn.gTup (gConsA (frz (gBin mulD (frz (Dn.gTup (gConsA (frz (gC .non)) gNilA))) (frz (gC (.int 8))))) gNilA))) (gConsA (frz (gBin mulD (frz (Dn.gTup (gConsA (frz (Dn.gTup (gConsA (frz (gC .non)) gNilA))) gNilA))) (frz (gC (.int 8))))) (gConsA (frz (Dn.gTup (gConsA (frz (Dn.gTup (gConsA (frz (gC (.str "A"))) gNilA))) gNilA))) (gConsA (frz (Dn.gTup (gConsA (frz (Dn.gTup (gConsA (frz (gC (.str "-"))) gNilA))) gNilA))) (gConsA (frz (Dn.gTup (gConsA (frz (Dn.gTup (gConsA (frz (gC (.str "aaaaaaaaa"))) gNilA))) gNilA))) (gConsA (frz (gBin addD (gN 1) (frz (Dn.gTup (gConsA (frz (gC .non)) gNilA))))) gNilA)))))))) gNilA))))) ⟨[some (.sh (.cell k)), some (.sh (.tup (.tup r0 :: rest))), c2, c3, some (.sh (.tup (r0 ++ [.str "red"]))), some (.ow (.lst (odds7 r0 rest))), some (.sh o), none, c8, c9], S⟩ = .nx ⟨[some (.sh (.cell k)), some (.sh (.tup (.tup r0 :: rest))), c2, c3, some (.sh (.tup (r0 ++ [.str "red"]))), some (.ow (.lst (odds7 r0 rest))), some (.sh o), some (.sh l), c8, c9], S'⟩ ∧ l ∈ larges (.tup r0 :: rest) ∧ PotIn S' k (n + 1) := by
  have hz : sizeLine = 16777216 := rfl
  obtain ⟨l, S', e, m, p⟩ := of_in (xs := larges (.tup r0 :: rest)) hp (by omega) (by simp [larges]) (by simp [larges])
  refine ⟨l, S', ?_, m, p⟩
  have A : addD (.tup (.tup r0 :: rest)) (.tup [.non]) = some (.sh (.tup (.tup r0 :: rest ++ [.non]))) := if_pos (by show _ ≤ (16777216 : Nat); simp; omega)
  have M1 : mulD (.tup [.non]) (.int 8) = some (.sh (.tup (List.replicate 8 [D.non]).flatten)) := by
    unfold mulD
    exact if_pos ⟨by simp, by decide, by decide, by simp⟩
  have M2 : mulD (.tup [.tup [.non]]) (.int 8) = some (.sh (.tup (List.replicate 8 [D.tup [D.non]]).flatten)) := by
    unfold mulD
    exact if_pos ⟨by simp, by decide, by decide, by simp⟩
  unfold larges at e
  generalize odds7 r0 rest = o7 at *
  generalize (List.replicate 8 [D.non]).flatten = z1 at *
  generalize (List.replicate 8 [D.tup [D.non]]).flatten = z2 at *
  generalize D.tup r0 :: rest ++ [D.non] = z3 at *
  simp [gTest, frz, gN, gC, gV, Out.bind, Out.bindS, RV.fz, OD.fz, opt, gBin, gCall, gConsA, gNilA, Dn.gTup, gLst, ixD, atI, ixN, gSet, put, hz, A, M1, M2, gFn, gLen, e, outE]
theorem end8 (ho : Bad o) (hl : Bad l) : (gOrs (gTest asB (frz (gBin neD (frz (gFn K61.m__law_bad_picture (gLen 1 (gConsA (frz (gV 6)) gNilA)))) (frz (gCall reprD (gConsA (gN 6) gNilA)))))) [(gTest asB (frz (gBin neD (frz (gFn K61.m__law_bad_picture (gLen 1 (gConsA (frz (gV 7)) gNilA)))) (frz (gCall reprD (gConsA (gN 7) gNilA))))))]) ⟨[some (.sh (.cell k)), some (.sh (.tup (.tup r0 :: rest))), c2, c3, some (.sh (.tup (r0 ++ [.str "red"]))), some (.ow (.lst (odds7 r0 rest))), some (.sh o), some (.sh l), c8, c9], S⟩ = .ok false ⟨[some (.sh (.cell k)), some (.sh (.tup (.tup r0 :: rest))), c2, c3, some (.sh (.tup (r0 ++ [.str "red"]))), some (.ow (.lst (odds7 r0 rest))), some (.sh o), some (.sh l), c8, c9], S⟩ := by
  obtain ⟨f1, b1, n1, L1, g1, q1, s1⟩ := ho
  obtain ⟨f2, b2, n2, L2, g2, q2, s2⟩ := hl
  obtain ⟨x1, e1⟩ := s1.repr g1 q1
  obtain ⟨x2, e2⟩ := s2.repr g2 q2
  obtain ⟨y1, u1, v1⟩ := bad_ok (S := S) f1 b1 ⟨_, e1⟩
  obtain ⟨y2, u2, v2⟩ := bad_ok (S := S) f2 b2 ⟨_, e2⟩
  rw [e1] at u1
  rw [e2] at u2
  cases u1
  cases u2
  generalize odds7 r0 rest = o7 at *
  simp [gOrs, gOrT, gTest, asB, frz, gN, gV, Out.bind, Out.bindS, RV.fz, OD.fz, opt, gBin, gCall, gConsA, gNilA, gFn, gLen, outE, v1, v2, e1, e2, ne_self]
theorem end9 (hp : PotIn S k n) (hn : n + 100 < 1000000) : ∃ S', outF ((gSeq (gRet (gBin eqD (frz (gCall reprD (gConsA (frz (gFn K61.m__law_met (gLen 1 (gConsA (frz (gFn K61.m__law_of (gLen 2 (gConsA (frz (gV 0)) (gConsA (frz (gLst (gConsA (frz (gC .non)) (gConsA (frz (gC (.int 0))) (gConsA (frz (gV 1)) (gConsA (frz (gLst gNilA)) (gConsA (frz gDict0) gNilA))))))) gNilA))))) gNilA)))) gNilA))) (frz (gCall reprD (gConsA (frz (Dn.gTup (gConsA (frz (gC (.bl true))) (gConsA (frz (gC (.int 0))) gNilA)))) gNilA))))) Dn.gNil) ⟨[some (.sh (.cell k)), some (.sh (.tup (.tup r0 :: rest))), c2, c3, some (.sh (.tup (r0 ++ [.str "red"]))), some (.ow (.lst (odds7 r0 rest))), some (.sh o), some (.sh l), c8, c9], S⟩) = .ok (.sh (.bl true)) S' ∧ PotIn S' k (n + 1) := by
  have hz : sizeLine = 16777216 := rfl
  obtain ⟨d, S', e, m, p⟩ := of_in (xs := lasts (.tup r0 :: rest)) hp (by omega) (by simp [lasts]) (by simp [lasts])
  refine ⟨S', ?_, p⟩
  have em : K61.m__law_met [d] S' = .ok (.sh (.tup [.bl true, .int 0])) S' := by
    unfold lasts at m
    simp only [List.mem_cons, List.not_mem_nil, or_false] at m
    rcases m with rfl | rfl | rfl | rfl | rfl
    · exact met_bad (read_not (t := "NoneType") rfl (by decide))
    · exact met_bad (read_not (t := "int") rfl (by decide))
    · exact met_bad (read_not (t := "tuple") rfl (by decide))
    · exact met_bad (read_not (t := "list") rfl (by decide))
    · exact met_bad (read_not (t := "dict") rfl (by decide))
  have sh : shP 1 (2 * (100 + 2) + 4) (.tup [.bl true, .int 0]) := shP_tup (n := 0) (L := 100) (m := 2) (fun x hx => by
    simp only [List.mem_cons, List.not_mem_nil, or_false] at hx
    rcases hx with rfl | rfl
    · exact sh_true
    · exact sh_int0) (by simp)
  obtain ⟨x, ex⟩ := sh.repr (by decide) (by decide)
  have eq : eqD (.str x) (.str x) = some (.sh (.bl true)) := by simp [eqD, eqB, eqS]
  unfold lasts at e
  generalize odds7 r0 rest = o7 at *
  simp [gSeq, gRet, gTest, frz, gN, gC, gV, Out.bind, Out.bindS, RV.fz, OD.fz, opt, gBin, gCall, gConsA, gNilA, Dn.gTup, gLst, ixD, atI, ixN, gSet, put, hz, gFn, gLen, gDict0, e, em, ex, eq, outE, outF]
end
end Dn
end

section
set_option maxHeartbeats 8000000
-- P24
/-! P24: _law_right -/
namespace Dn
open PySem PySem.Spec L2 TL
theorem up8 : upTo 0 8 = ([0, 1, 2, 3, 4, 5, 6, 7] : List Int).map D.int := by rfl
theorem right_ok {k n : Nat} {S : List OD} (hp : PotIn S k n) (hn : n + 5000 < 1000000) : ∃ S', K61.m__law_right [.cell k] S = .ok (.sh (.bl true)) S' ∧ PotIn S' k (n + 300) := by
  obtain ⟨h, w, rows, S1, e1, h1, h7, w1, w7, p, p1⟩ := drawn_in hp (by omega)
  obtain ⟨fp, cp, sp, r0, rest, er, hl0, hx0⟩ := pic_fine p h1 h7 w1 w7
  have hlen := p.1
  have e2 := lines_of_ok (S := S1) (rows := rows) (fun r hr => (row_fine w7 (p.2 r hr)).2.2.2) (by omega)
  have fst := right_first (k := k) (a3 := none) (a4 := none) (a5 := none) (a6 := none) (a7 := none) (a8 := none) (a9 := none) (S := S1) p h1 h7 w1 w7
  obtain ⟨q1, q2, q3⟩ := pic_lines p h7 w1 w7
  have lns : Lns 70 7 (strL (rows.map rowS)) := ⟨by rw [er]; simp [strL], by simp [strL]; omega, fun d hd => by
    obtain ⟨x, hx, rfl⟩ := List.mem_map.mp hd
    exact ⟨x, rfl, (q1 x hx).2, (q1 x hx).1.2⟩⟩
  obtain ⟨c2, c3, c5, c8, c9, S2, e3, _, p2⟩ := turns_ok (P := .tup rows) lns (by omega) (by omega) [0, 1, 2, 3, 4, 5, 6, 7] (n + 100) S1 (some (.ow (.lst (strL (rows.map rowS))))) none none none none (.inl rfl) p1 (by simp; omega)
  have s1 : gSet 1 (gFn K61.m__law_drawn (gLen 1 (gConsA (frz (gV 0)) gNilA))) ⟨[some (.sh (.cell k)), none, none, none, none, none, none, none, none, none], S⟩ = .nx ⟨[some (.sh (.cell k)), some (.sh (.tup rows)), none, none, none, none, none, none, none, none], S1⟩ := by
    simp [gSet, gFn, gLen, gConsA, gNilA, frz, gV, Out.bind, Out.bindS, RV.fz, e1, outE, put]
  have s2 : gSet 2 (gFn K61.m__law_lines_of (gLen 1 (gConsA (frz (gV 1)) gNilA))) ⟨[some (.sh (.cell k)), some (.sh (.tup rows)), none, none, none, none, none, none, none, none], S1⟩ = .nx ⟨[some (.sh (.cell k)), some (.sh (.tup rows)), some (.ow (.lst (strL (rows.map rowS)))), none, none, none, none, none, none, none], S1⟩ := by
    simp [gSet, gFn, gLen, gConsA, gNilA, frz, gV, Out.bind, Out.bindS, RV.fz, e2, outE, put]
  have s4 : gFor (gRng1 (gConsA (frz (gC (.int 8))) gNilA)) (fName 3) rightB ⟨[some (.sh (.cell k)), some (.sh (.tup rows)), some (.ow (.lst (strL (rows.map rowS)))), none, none, none, none, none, none, none], S1⟩ = .nx ⟨[some (.sh (.cell k)), some (.sh (.tup rows)), c2, c3, none, c5, none, none, c8, c9], S2⟩ := by
    have r : gRng1 (gConsA (frz (gC (.int 8))) gNilA) ⟨[some (.sh (.cell k)), some (.sh (.tup rows)), some (.ow (.lst (strL (rows.map rowS)))), none, none, none, none, none, none, none], S1⟩ = .ok (([0, 1, 2, 3, 4, 5, 6, 7] : List Int).map D.int) ⟨[some (.sh (.cell k)), some (.sh (.tup rows)), some (.ow (.lst (strL (rows.map rowS)))), none, none, none, none, none, none, none], S1⟩ := by
      simp only [gRng1, gConsA, gNilA, frz, gC, Out.bind, RV.fz]
      rw [if_pos (by decide)]
      rfl
    rw [gFor, r]
    exact e3
  subst er
  rw [List.length_cons] at hlen
  have p2 : PotIn S2 k (n + 260) := p2.mono (by simp)
  have f4 := end4 (k := k) (rest := rest) (c2 := c2) (c3 := c3) (c5 := c5) (c8 := c8) (c9 := c9) (S := S2) (r0 := r0) (by omega)
  have f5 := end5 (k := k) (rest := rest) (c2 := c2) (c3 := c3) (c5 := c5) (c8 := c8) (c9 := c9) (S := S2) (r0 := r0)
  obtain ⟨o, S3, f6, mo, p3⟩ := end6 (r0 := r0) (rest := rest) (c2 := c2) (c3 := c3) (c8 := c8) (c9 := c9) p2 (by omega)
  obtain ⟨l, S4, f7, ml, p4⟩ := end7 (r0 := r0) (rest := rest) (c2 := c2) (c3 := c3) (c8 := c8) (c9 := c9) (o := o) (by omega) p3 (by omega)
  have f8 := end8 (k := k) (r0 := r0) (rest := rest) (c2 := c2) (c3 := c3) (c8 := c8) (c9 := c9) (S := S4) (odd_ok p h1 h7 w1 w7 hl0 hx0 o mo) (large_ok p h1 h7 w1 w7 l ml)
  obtain ⟨S5, f9, p5⟩ := end9 (r0 := r0) (rest := rest) (c2 := c2) (c3 := c3) (c8 := c8) (c9 := c9) (o := o) (l := l) p4 (by omega)
  refine ⟨S5, ?_, p5.mono (by omega)⟩
  unfold K61.m__law_right fm K61.g_law_right
  show outF (gSeq _ _ ⟨[some (.sh (.cell k)), none, none, none, none, none, none, none, none, none], S⟩) = _
  rw [gSeq, s1]
  simp only
  rw [gSeq, s2]
  simp only
  rw [gSeq, gIfS, fst]
  simp only [Out.bindS, Bool.false_eq_true, if_false]
  show outF (gSeq (gFor _ (fName 3) rightB) _ ⟨[some (.sh (.cell k)), some (.sh (.tup (.tup r0 :: rest))), some (.ow (.lst (strL ((D.tup r0 :: rest).map rowS)))), none, none, none, none, none, none, none], S1⟩) = _
  rw [gSeq, s4]
  simp only
  rw [gSeq, f4]
  simp only
  rw [gSeq, f5]
  simp only
  rw [gSeq, f6]
  simp only
  rw [gSeq, f7]
  simp only
  rw [gSeq, gIfS, f8]
  simp only [Out.bindS, Bool.false_eq_true, if_false]
  exact f9
end Dn
end

section
set_option maxHeartbeats 4000000
-- P25
/-! P25: _law_pot -/
namespace Dn
open PySem PySem.Spec L2 TL
theorem mulR {i j : Int} (h : -(2 ^ 64) < j ∧ j < 2 ^ 64) : mulD (.int i) (.int j) = some (.sh (.int (i * j))) := by
  unfold mulD
  exact if_pos (.inr h)
theorem mulL {i j : Int} (h : -(2 ^ 64) < i ∧ i < 2 ^ 64) : mulD (.int i) (.int j) = some (.sh (.int (i * j))) := by
  unfold mulD
  exact if_pos (.inl h)
theorem modR {i j : Int} (h : 0 < j) : modD (.int i) (.int j) = some (.sh (.int (i % j))) := by
  unfold modD
  exact if_pos h
theorem powR {i j : Int} (h : 0 ≤ j ∧ (Builtin.Int.intBits i : Int) * j ≤ 2 ^ 27) : powD (.int i) (.int j) = some (.sh (.int (i ^ j.toNat))) := by
  unfold powD
  exact if_pos h
def T60 : Int := 10 ^ (60 : Int).toNat
def T300 : Int := T60 ^ (5 : Int).toNat
def T18 : Int := 10 ^ (18 : Int).toNat
theorem pow60 : powD (.int 10) (.int 60) = some (.sh (.int T60)) := powR (by decide +kernel)
theorem pow300 : powD (.int T60) (.int 5) = some (.sh (.int T300)) := powR (by decide +kernel)
theorem pow18 : powD (.int 10) (.int 18) = some (.sh (.int T18)) := powR (by decide +kernel)
theorem t300 : 0 < T300 := by decide +kernel
theorem pot_cell {ns : List Int} {j : Int} {S : List OD} (h0 : 0 ≤ j) (h1 : j < 1000) : ∃ c : Int, gSet 2 (gIf (gTest asB (frz (gBin ltD (gN 1) (frz (gCall lenD (gConsA (gN 0) gNilA)))))) (gBin ixD (gN 0) (gN 1)) (gBin addD (frz (gBin mulD (frz (gC (.int 31))) (gN 1))) (frz (gC (.int 17))))) ⟨[some (.sh (.scr ns)), some (.sh (.int j)), none, none, none], S⟩
    = .nx ⟨[some (.sh (.scr ns)), some (.sh (.int j)), some (.sh (.int c)), none, none], S⟩ := by
  by_cases hl : j < ns.length
  · have hn : j.toNat < ns.length := by omega
    have ha : atI ns j = some ns[j.toNat] := by
      unfold atI ixN
      rw [if_pos h0, if_pos hl]
      exact List.getElem?_eq_getElem hn
    refine ⟨ns[j.toNat], ?_⟩
    generalize ns[j.toNat] = c at *
    simp [gSet, gIf, gTest, asB, gBin, gN, frz, gCall, gConsA, gNilA, lenD, ltD, bo, opt, Out.bind, Out.bindS, RV.fz, hl, ixD, ha, put]
  · refine ⟨31 * j + 17, ?_⟩
    have m : mulD (.int 31) (.int j) = some (.sh (.int (31 * j))) := mulL (by decide)
    simp [gSet, gIf, gTest, asB, gBin, gN, gC, frz, gCall, gConsA, gNilA, lenD, ltD, bo, opt, Out.bind, Out.bindS, RV.fz, hl, m, addD, put]
theorem pot_ok {ns : List Int} {j : Int} {S : List OD} (h0 : 0 ≤ j) (h1 : j < 1000) : ∃ a b : Int, K61.m__law_pot [.scr ns, .int j] S = .ok (.ow (.lst [.int a, .int b, .int 0])) S ∧ 0 ≤ a ∧ 0 ≤ b ∧ b < 2 ^ 61 := by
  have hz : sizeLine = 16777216 := rfl
  obtain ⟨c, e1⟩ := pot_cell (ns := ns) (S := S) h0 h1
  unfold K61.m__law_pot fm K61.g_law_pot
  show ∃ a b, outF (gSeq _ _ ⟨[some (.sh (.scr ns)), some (.sh (.int j)), none, none, none], S⟩) = _ ∧ _
  rw [gSeq, e1]
  simp only
  have ab : absD [.int c] = some (.sh (.int (if c < 0 then -c else c))) := rfl
  generalize (if c < 0 then -c else c) = u at ab
  have md : modD (.int u) (.int T300) = some (.sh (.int (u % T300))) := modR t300
  have big : geD (.int u) (.int T18) = bo (decide (T18 ≤ u)) := rfl
  have own : ∃ a : Int, mulD (.int (u % T300)) (.int (if decide (T18 ≤ u) = true then 1 else 0)) = some (.sh (.int a)) ∧ 0 ≤ a := by
    have ge := Int.emod_nonneg u (by have := t300; omega : T300 ≠ 0)
    by_cases q : decide (T18 ≤ u) = true
    · rw [if_pos q]
      exact ⟨u % T300 * 1, mulR (by decide), by omega⟩
    · rw [if_neg q]
      exact ⟨u % T300 * 0, mulR (by decide), by omega⟩
  obtain ⟨a, ea, pa⟩ := own
  have m2 : modD (.int c) (.int 2305843009213693951) = some (.sh (.int (c % 2305843009213693951))) := modR (by decide)
  have m3 : mulD (.int (c % 2305843009213693951)) (.int 71011) = some (.sh (.int (c % 2305843009213693951 * 71011))) := mulR (by decide)
  have m4 : mulD (.int 6389) (.int j) = some (.sh (.int (6389 * j))) := mulL (by decide)
  have m5 : mulD (.int (6389 * j)) (.int j) = some (.sh (.int (6389 * j * j))) := mulR (by omega)
  generalize hs : c % 2305843009213693951 * 71011 + 6389 * j * j + 73 = s
  have m6 : modD (.int s) (.int 2305843009213693921) = some (.sh (.int (s % 2305843009213693921))) := modR (by decide)
  have b0 := Int.emod_nonneg s (by decide : (2305843009213693921 : Int) ≠ 0)
  have b1 := Int.emod_lt_of_pos s (by decide : (0 : Int) < 2305843009213693921)
  refine ⟨a, s % 2305843009213693921, ?_, pa, b0, by omega⟩
  subst hs
  generalize hw : (if decide (T18 ≤ u) = true then (1 : Int) else 0) = w at ea
  have ib : intD [.bl (decide (T18 ≤ u))] = some (.sh (.int w)) := by rw [← hw]; rfl
  generalize decide (T18 ≤ u) = bb at *
  have ii : ∀ z : Int, intD [.int z] = some (.sh (.int z)) := fun _ => rfl
  have aa : ∀ y z : Int, addD (.int y) (.int z) = some (.sh (.int (y + z))) := fun _ _ => rfl
  have p60 := pow60
  have p300 := pow300
  have p18 := pow18
  have t18 : bo bb = some (.sh (.bl bb)) := rfl
  generalize T300 = t3 at *
  generalize T60 = t6 at *
  generalize T18 = t8 at *
  simp only [gSeq, gSet, gRet, gBin, gN, gC, gV, frz, gCall, gConsA, gNilA, gLst, Out.bind, Out.bindS, RV.fz, opt, put, List.getElem?_cons_zero, List.getElem?_cons_succ, List.set_cons_zero, List.set_cons_succ, ab, p60, p300, p18, md, big, t18, ib, ea, ii, m2, m3, m4, m5, aa, m6, List.length_cons, List.length_nil, hz, outF, Dn.gNil]
  rfl
end Dn
end

section
set_option maxHeartbeats 4000000
-- P26
/-! P26: the law -/
namespace Dn
open PySem PySem.Spec L2 TL
def lawB : DS := (gSeq (gIfS (gNotT (gTest truD (frz (gFn K61.m__law_right (gLen 1 (gConsA (frz (gV 2)) gNilA)))))) (gSeq (gRet (gC (.bl false)))
 Dn.gNil) Dn.gNil)
 Dn.gNil)
def outB : DS := (gSeq (gSetZ 2 (gCell (gFn K61.m__law_pot (gLen 2 (gConsA (frz (gV 0)) (gConsA (frz (gV 1)) gNilA))))))
 (gSeq (gFor (gRng1 (gConsA (frz (gC (.int 3))) gNilA)) (fName 3) lawB)
 Dn.gNil))
section
variable {k : Nat} {ns : List Int} {j : Int}
theorem in_turns : ∀ (is : List Int) (n : Nat) (S : List OD) (a3 : Option RV), PotIn S k n → n + 300 * is.length + 6000 < 1000000 →
    ∃ c3 S', gForL (fName 3) lawB (is.map D.int) ⟨[some (.sh (.scr ns)), some (.sh (.int j)), some (.sh (.cell k)), a3], S⟩ = .nx ⟨[some (.sh (.scr ns)), some (.sh (.int j)), some (.sh (.cell k)), c3], S'⟩
  | [], n, S, a3, hp, hn => ⟨a3, S, rfl⟩
  | i :: is, n, S, a3, hp, hn => by
    rw [List.length_cons] at hn
    obtain ⟨S1, e1, p1⟩ := right_ok hp (by omega)
    obtain ⟨c3, S', e2⟩ := in_turns is (n + 300) S1 (some (.sh (.int i))) p1 (by omega)
    refine ⟨c3, S', ?_⟩
    have ft : fName 3 (.int i) ⟨[some (.sh (.scr ns)), some (.sh (.int j)), some (.sh (.cell k)), a3], S⟩ = some ⟨[some (.sh (.scr ns)), some (.sh (.int j)), some (.sh (.cell k)), some (.sh (.int i))], S⟩ := rfl
    have e3 : lawB ⟨[some (.sh (.scr ns)), some (.sh (.int j)), some (.sh (.cell k)), some (.sh (.int i))], S⟩ = .nx ⟨[some (.sh (.scr ns)), some (.sh (.int j)), some (.sh (.cell k)), some (.sh (.int i))], S1⟩ := by
      simp [lawB, gSeq, gIfS, gNotT, gTest, truD, frz, gFn, gLen, gConsA, gNilA, gV, Out.bind, Out.bindS, RV.fz, e1, outE, Dn.gNil]
    rw [List.map_cons, gForL, ft]
    simp only
    rw [e3]
    exact e2
theorem out_turn {S : List OD} {a2 a3 : Option RV} (h0 : 0 ≤ j) (h1 : j < 1000) : ∃ c2 c3 S', outB ⟨[some (.sh (.scr ns)), some (.sh (.int j)), a2, a3], S⟩ = .nx ⟨[some (.sh (.scr ns)), some (.sh (.int j)), c2, c3], S'⟩ := by
  obtain ⟨a, b, e1, pa, pb, pb2⟩ := pot_ok (ns := ns) (S := S) h0 h1
  have hp : PotIn (S ++ [.lst [.int a, .int b, .int 0]]) S.length 0 := ⟨a, b, 0, by unfold Pot; simp, pa, pb, pb2, by decide, by decide⟩
  obtain ⟨c3, S', e2⟩ := in_turns (ns := ns) (j := j) [0, 1, 2] 0 _ a3 hp (by simp)
  refine ⟨some (.sh (.cell S.length)), c3, S', ?_⟩
  have s1 : gSetZ 2 (gCell (gFn K61.m__law_pot (gLen 2 (gConsA (frz (gV 0)) (gConsA (frz (gV 1)) gNilA))))) ⟨[some (.sh (.scr ns)), some (.sh (.int j)), a2, a3], S⟩ = .nx ⟨[some (.sh (.scr ns)), some (.sh (.int j)), some (.sh (.cell S.length)), a3], S ++ [.lst [.int a, .int b, .int 0]]⟩ := by
    simp [gSetZ, gCell, gFn, gLen, gConsA, gNilA, frz, gV, Out.bind, Out.bindS, RV.fz, e1, outE, cellR, put]
  have r : gRng1 (gConsA (frz (gC (.int 3))) gNilA) ⟨[some (.sh (.scr ns)), some (.sh (.int j)), some (.sh (.cell S.length)), a3], S ++ [.lst [.int a, .int b, .int 0]]⟩ = .ok (([0, 1, 2] : List Int).map D.int) ⟨[some (.sh (.scr ns)), some (.sh (.int j)), some (.sh (.cell S.length)), a3], S ++ [.lst [.int a, .int b, .int 0]]⟩ := by
    simp only [gRng1, gConsA, gNilA, frz, gC, Out.bind, RV.fz]
    rw [if_pos (by decide)]
    rfl
  unfold outB
  rw [gSeq, s1]
  simp only
  rw [gSeq, gFor, r]
  simp only [Out.bindS]
  rw [e2]
  rfl
theorem out_turns : ∀ (js : List Int) (S : List OD) (a1 a2 a3 : Option RV), (∀ j ∈ js, 0 ≤ j ∧ j < 1000) →
    ∃ c1 c2 c3 S', gForL (fName 1) outB (js.map D.int) ⟨[some (.sh (.scr ns)), a1, a2, a3], S⟩ = .nx ⟨[some (.sh (.scr ns)), c1, c2, c3], S'⟩
  | [], S, a1, a2, a3, _ => ⟨a1, a2, a3, S, rfl⟩
  | j :: js, S, a1, a2, a3, h => by
    obtain ⟨b2, b3, S1, e1⟩ := out_turn (ns := ns) (j := j) (S := S) (a2 := a2) (a3 := a3) (h j (by simp)).1 (h j (by simp)).2
    obtain ⟨c1, c2, c3, S', e2⟩ := out_turns js S1 (some (.sh (.int j))) b2 b3 fun x hx => h x (List.mem_cons_of_mem _ hx)
    refine ⟨c1, c2, c3, S', ?_⟩
    have ft : fName 1 (.int j) ⟨[some (.sh (.scr ns)), a1, a2, a3], S⟩ = some ⟨[some (.sh (.scr ns)), some (.sh (.int j)), a2, a3], S⟩ := rfl
    rw [List.map_cons, gForL, ft]
    simp only
    rw [e1]
    exact e2
end
theorem law_ok (ns : List Int) (hl : ns.length ≤ 63) : ∃ S', K61.m_law [.scr ns] [] = .ok (.sh (.bl true)) S' := by
  obtain ⟨m, hm, h3⟩ : ∃ m : Int, (m = 1 ∨ m = 2 ∨ m = 3) ∧ gRng1 (gConsA (frz (gCall max2D (gConsA (frz (gC (.int 1))) (gConsA (frz (gCall min2D (gConsA (frz (gC (.int 3))) (gConsA (frz (gCall lenD (gConsA (gN 0) gNilA))) gNilA)))) gNilA)))) gNilA) ⟨[some (.sh (.scr ns)), none, none, none], []⟩ = .ok (upTo 0 m.toNat) ⟨[some (.sh (.scr ns)), none, none, none], []⟩ := by
    refine ⟨if (if (ns.length : Int) < 3 then (ns.length : Int) else 3) > 1 then (if (ns.length : Int) < 3 then (ns.length : Int) else 3) else 1, by split <;> split at * <;> omega, ?_⟩
    have i1 : lenD [.scr ns] = some (.sh (.int ns.length)) := rfl
    have i2 : min2D [.int 3, .int ns.length] = some (.sh (.int (if (ns.length : Int) < 3 then (ns.length : Int) else 3))) := rfl
    have i3 : max2D [.int 1, .int (if (ns.length : Int) < 3 then (ns.length : Int) else 3)] = some (.sh (.int (if (if (ns.length : Int) < 3 then (ns.length : Int) else 3) > 1 then (if (ns.length : Int) < 3 then (ns.length : Int) else 3) else 1))) := rfl
    generalize hb : (if (if (ns.length : Int) < 3 then (ns.length : Int) else 3) > 1 then (if (ns.length : Int) < 3 then (ns.length : Int) else 3) else 1) = b at *
    have bb : -(2 ^ 62) ≤ b ∧ b < 2 ^ 62 := by subst hb; split <;> split <;> omega
    generalize (if (ns.length : Int) < 3 then (ns.length : Int) else 3) = a at *
    simp only [gRng1, gCall, gConsA, gNilA, frz, gC, gN, Out.bind, RV.fz, opt, List.getElem?_cons_zero, i1, i2, i3]
    rw [if_pos bb]
  have key : ∃ js : List Int, upTo 0 m.toNat = js.map D.int ∧ ∀ j ∈ js, 0 ≤ j ∧ j < 1000 := by
    rcases hm with rfl | rfl | rfl
    · exact ⟨[0], rfl, by simp⟩
    · exact ⟨[0, 1], rfl, by simp⟩
    · exact ⟨[0, 1, 2], rfl, by simp⟩
  obtain ⟨js, ej, hj⟩ := key
  obtain ⟨c1, c2, c3, S', e⟩ := out_turns (ns := ns) js [] none none none hj
  refine ⟨S', ?_⟩
  rw [ej] at h3
  unfold K61.m_law fm K61.glaw
  show outF (gSeq (gFor _ (fName 1) outB) _ ⟨[some (.sh (.scr ns)), none, none, none], []⟩) = _
  rw [gSeq, gFor, h3]
  simp only [Out.bindS]
  rw [e]
  rfl
end Dn
end

section
set_option maxHeartbeats 0
-- H61
namespace K61
open PySem PySem.Spec PyProof.Rows L2 Dn He
def d0 : He.DefD := ⟨("_law_pot", none), "_law_pot", "_law_pot", defArgs (top 20), defBody (top 20), defScope (top 20), [], []⟩
def d1 : He.DefD := ⟨("_law_take", none), "_law_take", "_law_take", defArgs (top 21), defBody (top 21), defScope (top 21), [], []⟩
def d2 : He.DefD := ⟨("_law_of", none), "_law_of", "_law_of", defArgs (top 22), defBody (top 22), defScope (top 22), [], []⟩
def d3 : He.DefD := ⟨("_law_drawn", none), "_law_drawn", "_law_drawn", defArgs (top 23), defBody (top 23), defScope (top 23), [], []⟩
def d4 : He.DefD := ⟨("_law_lines_of", none), "_law_lines_of", "_law_lines_of", defArgs (top 28), defBody (top 28), defScope (top 28), [], []⟩
def d5 : He.DefD := ⟨("_law_bent_lines", none), "_law_bent_lines", "_law_bent_lines", defArgs (top 26), defBody (top 26), defScope (top 26), [], []⟩
def d6 : He.DefD := ⟨("_law_is_colour", none), "_law_is_colour", "_law_is_colour", defArgs (top 24), defBody (top 24), defScope (top 24), [], []⟩
def d7 : He.DefD := ⟨("_law_due", none), "_law_due", "_law_due", defArgs (top 25), defBody (top 25), defScope (top 25), [], []⟩
def d8 : He.DefD := ⟨("is_name", none), "is_name", "is_name", defArgs (top 7), defBody (top 7), defScope (top 7), [], []⟩
def d9 : He.DefD := ⟨("colours_in", none), "colours_in", "colours_in", defArgs (top 17), defBody (top 17), defScope (top 17), [], []⟩
def d10 : He.DefD := ⟨("read_picture", none), "read_picture", "read_picture", defArgs (top 18), defBody (top 18), defScope (top 18), [], []⟩
def d11 : He.DefD := ⟨("_law_met", none), "_law_met", "_law_met", defArgs (top 27), defBody (top 27), defScope (top 27), [], []⟩
def d12 : He.DefD := ⟨("is_line", none), "is_line", "is_line", defArgs (top 10), defBody (top 10), defScope (top 10), [], []⟩
def d13 : He.DefD := ⟨("check_picture", none), "check_picture", "check_picture", defArgs (top 11), defBody (top 11), defScope (top 11), [], []⟩
def d14 : He.DefD := ⟨("show_picture", none), "show_picture", "show_picture", defArgs (top 16), defBody (top 16), defScope (top 16), [], []⟩
def d15 : He.DefD := ⟨("_law_bad_picture", none), "_law_bad_picture", "_law_bad_picture", defArgs (top 29), defBody (top 29), defScope (top 29), [], []⟩
def d16 : He.DefD := ⟨("_law_right", none), "_law_right", "_law_right", defArgs (top 30), defBody (top 30), defScope (top 30), [], []⟩
def d17 : He.DefD := ⟨("law", none), "law", "law", defArgs (top 31), defBody (top 31), defScope (top 31), [], []⟩
def fn : List He.DefD := [d0, d1, d2, d3, d4, d5, d6, d7, d8, d9, d10, d11, d12, d13, d14, d15, d16, d17]
def fa : List He.Fa := [.glo "_law_pot", .glo "_law_take", .glo "_law_of", .glo "_law_drawn", .glo "_law_lines_of", .glo "_law_bent_lines", .glo "_law_is_colour", .glo "_law_due", .glo "is_name", .glo "colours_in", .glo "read_picture", .glo "_law_met", .glo "is_line", .glo "check_picture", .glo "show_picture", .glo "_law_bad_picture", .glo "_law_right", .glo "law", .free "abs", .free "all", .free "enumerate", .free "int", .free "isinstance", .free "len", .free "list", .free "max", .free "min", .free "range", .free "repr", .free "str", .free "tuple", .glo "BadPicture", .glo "BadText", .str "BLANK" " ", .str "LETTERS" "abcdefghijklmnopqrstuvwxyz", .int "MOST_LETTERS" 8, .int "MOST_reading" 7, .int "MOST_texts" 7, .str "UNKNOWN" "-"]
def fx : List (PySem.W.Frag → Bool) := [fun K => xclsB K (ga K "WeaveError") (ga K "BadPicture"), fun K => xclsB K (ga K "WeaveError") (ga K "BadText"), fun K => iniB PySem.Challenge.pw_treadplans_k61_pictures_as_texts K (ga K "WeaveError"), fun K => decide (PySem.W.typeIn K (.ref (ma K (ga K "WeaveError") "__init__")) = some (.type "function")), fun K => eqO (PySem.W.nsIn K cStatics "thirdparty.any") (some none), fun K => eqO (PySem.W.nsIn K mainGlobals "super") (some none)]
abbrev sI : Stmt := inClass (top 1) 0
def iv : IniW := some ("__init__", "WeaveError.__init__", defArgs sI, .stmts (defBody sI), defScope sI, mainGlobals, builtinsNs)
theorem iT : IniT "__init__" "WeaveError.__init__" (defArgs sI) (defBody sI) (defScope sI) := ⟨fun _ _ _ _ _ _ _ _ _ => rfl, by decide +kernel, rfl, rfl, rfl, rfl, rfl, rfl, rfl, ⟨_, rfl, rfl⟩, ⟨_, _, _, _, _, _, _, _, _, _, rfl, _, fun env => rfl⟩⟩
def nm0 : List PySem.Str := [("WeaveError" : PySem.Str), ("BadPicture" : PySem.Str), ("BadText" : PySem.Str), ("LETTERS" : PySem.Str), ("MOST_LETTERS" : PySem.Str), ("is_name" : PySem.Str), ("MOST_reading" : PySem.Str), ("is_line" : PySem.Str), ("check_picture" : PySem.Str), ("BLANK" : PySem.Str), ("UNKNOWN" : PySem.Str), ("MOST_texts" : PySem.Str), ("show_picture" : PySem.Str), ("colours_in" : PySem.Str), ("read_picture" : PySem.Str), ("_law_pot" : PySem.Str), ("_law_take" : PySem.Str), ("_law_of" : PySem.Str), ("_law_drawn" : PySem.Str), ("_law_is_colour" : PySem.Str), ("_law_due" : PySem.Str), ("_law_bent_lines" : PySem.Str), ("_law_met" : PySem.Str), ("_law_lines_of" : PySem.Str), ("_law_bad_picture" : PySem.Str), ("_law_right" : PySem.Str)]
def names : List PySem.Str := nm0
abbrev R : PySem.W.OpenRow := PySem.W.OpenLaw.row PySem.Challenge.rw_treadplans_k61_pictures_as_texts
abbrev hk : PySem.W.Hook := hookX 6 fa fx fn "WeaveError" iv
def ob (s : PySem.W.SharedT) : AlX := obsXG 6 fa fx fn "WeaveError" (HandSHeadRun.getT s)
theorem ob_eq (s : PySem.W.SharedT) : ob s = hk.obs s.abs := obsXG_eq (v := iv) (HandSHeadRun.getT_eq s)
theorem run (w : World) : HandSHeadRun.RunEq R (PySem.W.view R.prog [31]) hk ob 20000 names w := by
  intro os
  kernel_rfl
theorem facts {w : World} {K : PySem.W.Frag} {h : Heap} {mg : Str → Option Value} {fL : Addr} (X : K.In h) (G : h.Ns mainGlobals mg) (hfa : mg ("law" : Str) = some (.ref fL)) (c : SaysX fa fx fn "WeaveError" iv K) :
    ∃ fd : FuncData, (∀ (s : Shared) (v : Value), BindsTo s fd ⟨[v], []⟩ [("script", v)]) ∧ ∀ base : Heap, K.In base → base.Ns mainGlobals mg → FnG PySem.Challenge.pw_treadplans_k61_pictures_as_texts w K mg base 7 fL fd ["script"] m_law := by
  obtain ⟨fd0, F0⟩ := c.def_ 0 (d := d0) rfl
  have h0 : mg "_law_pot" = some (.ref (ga K "_law_pot")) := glo_ok X G (c.fact 0 (f := .glo "_law_pot") rfl)
  obtain ⟨fd1, F1⟩ := c.def_ 1 (d := d1) rfl
  have h1 : mg "_law_take" = some (.ref (ga K "_law_take")) := glo_ok X G (c.fact 1 (f := .glo "_law_take") rfl)
  obtain ⟨fd2, F2⟩ := c.def_ 2 (d := d2) rfl
  have h2 : mg "_law_of" = some (.ref (ga K "_law_of")) := glo_ok X G (c.fact 2 (f := .glo "_law_of") rfl)
  obtain ⟨fd3, F3⟩ := c.def_ 3 (d := d3) rfl
  have h3 : mg "_law_drawn" = some (.ref (ga K "_law_drawn")) := glo_ok X G (c.fact 3 (f := .glo "_law_drawn") rfl)
  obtain ⟨fd4, F4⟩ := c.def_ 4 (d := d4) rfl
  have h4 : mg "_law_lines_of" = some (.ref (ga K "_law_lines_of")) := glo_ok X G (c.fact 4 (f := .glo "_law_lines_of") rfl)
  obtain ⟨fd5, F5⟩ := c.def_ 5 (d := d5) rfl
  have h5 : mg "_law_bent_lines" = some (.ref (ga K "_law_bent_lines")) := glo_ok X G (c.fact 5 (f := .glo "_law_bent_lines") rfl)
  obtain ⟨fd6, F6⟩ := c.def_ 6 (d := d6) rfl
  have h6 : mg "_law_is_colour" = some (.ref (ga K "_law_is_colour")) := glo_ok X G (c.fact 6 (f := .glo "_law_is_colour") rfl)
  obtain ⟨fd7, F7⟩ := c.def_ 7 (d := d7) rfl
  have h7 : mg "_law_due" = some (.ref (ga K "_law_due")) := glo_ok X G (c.fact 7 (f := .glo "_law_due") rfl)
  obtain ⟨fd8, F8⟩ := c.def_ 8 (d := d8) rfl
  have h8 : mg "is_name" = some (.ref (ga K "is_name")) := glo_ok X G (c.fact 8 (f := .glo "is_name") rfl)
  obtain ⟨fd9, F9⟩ := c.def_ 9 (d := d9) rfl
  have h9 : mg "colours_in" = some (.ref (ga K "colours_in")) := glo_ok X G (c.fact 9 (f := .glo "colours_in") rfl)
  obtain ⟨fd10, F10⟩ := c.def_ 10 (d := d10) rfl
  have h10 : mg "read_picture" = some (.ref (ga K "read_picture")) := glo_ok X G (c.fact 10 (f := .glo "read_picture") rfl)
  obtain ⟨fd11, F11⟩ := c.def_ 11 (d := d11) rfl
  have h11 : mg "_law_met" = some (.ref (ga K "_law_met")) := glo_ok X G (c.fact 11 (f := .glo "_law_met") rfl)
  obtain ⟨fd12, F12⟩ := c.def_ 12 (d := d12) rfl
  have h12 : mg "is_line" = some (.ref (ga K "is_line")) := glo_ok X G (c.fact 12 (f := .glo "is_line") rfl)
  obtain ⟨fd13, F13⟩ := c.def_ 13 (d := d13) rfl
  have h13 : mg "check_picture" = some (.ref (ga K "check_picture")) := glo_ok X G (c.fact 13 (f := .glo "check_picture") rfl)
  obtain ⟨fd14, F14⟩ := c.def_ 14 (d := d14) rfl
  have h14 : mg "show_picture" = some (.ref (ga K "show_picture")) := glo_ok X G (c.fact 14 (f := .glo "show_picture") rfl)
  obtain ⟨fd15, F15⟩ := c.def_ 15 (d := d15) rfl
  have h15 : mg "_law_bad_picture" = some (.ref (ga K "_law_bad_picture")) := glo_ok X G (c.fact 15 (f := .glo "_law_bad_picture") rfl)
  obtain ⟨fd16, F16⟩ := c.def_ 16 (d := d16) rfl
  have h16 : mg "_law_right" = some (.ref (ga K "_law_right")) := glo_ok X G (c.fact 16 (f := .glo "_law_right") rfl)
  obtain ⟨fd17, F17⟩ := c.def_ 17 (d := d17) rfl
  have h17 : mg "law" = some (.ref (ga K "law")) := glo_ok X G (c.fact 17 (f := .glo "law") rfl)
  have nb : ∀ x : Str, x ∈ nbs → mg x = none := by
    intro x hx
    simp only [nbs, List.mem_cons, List.not_mem_nil, or_false] at hx
    rcases hx with rfl | rfl | rfl | rfl | rfl | rfl | rfl | rfl | rfl | rfl | rfl | rfl | rfl
    · exact free_ok X G (c.fact 18 (f := .free "abs") rfl)
    · exact free_ok X G (c.fact 19 (f := .free "all") rfl)
    · exact free_ok X G (c.fact 20 (f := .free "enumerate") rfl)
    · exact free_ok X G (c.fact 21 (f := .free "int") rfl)
    · exact free_ok X G (c.fact 22 (f := .free "isinstance") rfl)
    · exact free_ok X G (c.fact 23 (f := .free "len") rfl)
    · exact free_ok X G (c.fact 24 (f := .free "list") rfl)
    · exact free_ok X G (c.fact 25 (f := .free "max") rfl)
    · exact free_ok X G (c.fact 26 (f := .free "min") rfl)
    · exact free_ok X G (c.fact 27 (f := .free "range") rfl)
    · exact free_ok X G (c.fact 28 (f := .free "repr") rfl)
    · exact free_ok X G (c.fact 29 (f := .free "str") rfl)
    · exact free_ok X G (c.fact 30 (f := .free "tuple") rfl)
  have m_BadPicture : mg "BadPicture" = some (.ref (ga K "BadPicture")) := glo_ok X G (c.fact 31 (f := .glo "BadPicture") rfl)
  obtain ⟨x_BadPicture, f_BadPicture, e_BadPicture⟩ := xclsB_ok (c.xfact 0 rfl : xclsB K (ga K "WeaveError") (ga K "BadPicture") = true)
  have m_BadText : mg "BadText" = some (.ref (ga K "BadText")) := glo_ok X G (c.fact 32 (f := .glo "BadText") rfl)
  obtain ⟨x_BadText, f_BadText, e_BadText⟩ := xclsB_ok (c.xfact 1 rfl : xclsB K (ga K "WeaveError") (ga K "BadText") = true)
  have c_BLANK : ∃ u, mg "BLANK" = some u ∧ RelV (.str " " : V) u := by
    obtain ⟨t, e⟩ := str_ok X G (c.fact 33 (f := .str "BLANK" " ") rfl)
    exact ⟨_, e, t, rfl⟩
  have c_LETTERS : ∃ u, mg "LETTERS" = some u ∧ RelV (.str "abcdefghijklmnopqrstuvwxyz" : V) u := by
    obtain ⟨t, e⟩ := str_ok X G (c.fact 34 (f := .str "LETTERS" "abcdefghijklmnopqrstuvwxyz") rfl)
    exact ⟨_, e, t, rfl⟩
  have c_MOST_LETTERS : ∃ u, mg "MOST_LETTERS" = some u ∧ RelV (.int 8 : V) u := by
    obtain ⟨t, e⟩ := int_ok X G (c.fact 35 (f := .int "MOST_LETTERS" 8) rfl)
    exact ⟨_, e, t, rfl⟩
  have c_MOST_reading : ∃ u, mg "MOST_reading" = some u ∧ RelV (.int 7 : V) u := by
    obtain ⟨t, e⟩ := int_ok X G (c.fact 36 (f := .int "MOST_reading" 7) rfl)
    exact ⟨_, e, t, rfl⟩
  have c_MOST_texts : ∃ u, mg "MOST_texts" = some u ∧ RelV (.int 7 : V) u := by
    obtain ⟨t, e⟩ := int_ok X G (c.fact 37 (f := .int "MOST_texts" 7) rfl)
    exact ⟨_, e, t, rfl⟩
  have c_UNKNOWN : ∃ u, mg "UNKNOWN" = some u ∧ RelV (.str "-" : V) u := by
    obtain ⟨t, e⟩ := str_ok X G (c.fact 38 (f := .str "UNKNOWN" "-") rfl)
    exact ⟨_, e, t, rfl⟩
  have ini := ini_ok (P := PySem.Challenge.pw_treadplans_k61_pictures_as_texts) iT c.ini (c.xfact 2 rfl : iniB PySem.Challenge.pw_treadplans_k61_pictures_as_texts K (ga K "WeaveError") = true) (c.xfact 3 rfl) (c.xfact 4 rfl) (c.xfact 5 rfl) (by kernel_rfl)
  have xval : ∀ c : Str, c ∈ (["BadPicture", "BadText"] : List Str) → XfC K (He.ga K c) ∧ PySem.W.findIn K (.ref (He.ga K c)) "value" = some none := by
    intro x hx
    simp only [List.mem_cons, List.not_mem_nil, or_false] at hx
    rcases hx with rfl | rfl
    · exact ⟨f_BadPicture, x_BadPicture.noV⟩
    · exact ⟨f_BadText, x_BadText.noV⟩
  have e := hfa.symm.trans h17
  cases e
  refine ⟨fd17, fun s v => FunD.bindsA (ps := ["script"]) F17 (fun _ _ _ _ _ _ us hl => match us, hl with | [_], _ => rfl) s [v] rfl, fun base _ _ => ?_⟩
  have G__law_pot : Fn PySem.Challenge.pw_treadplans_k61_pictures_as_texts w K mg base 1 "_law_pot" ["script", "number"] m__law_pot := ok__law_pot F0 h0 nb
  have G__law_take : Fn PySem.Challenge.pw_treadplans_k61_pictures_as_texts w K mg base 1 "_law_take" ["pot", "upto"] m__law_take := ok__law_take F1 h1 nb
  have G__law_of : Fn PySem.Challenge.pw_treadplans_k61_pictures_as_texts w K mg base 2 "_law_of" ["pot", "some"] m__law_of := ok__law_of F2 h2 G__law_take nb
  have G__law_drawn : Fn PySem.Challenge.pw_treadplans_k61_pictures_as_texts w K mg base 3 "_law_drawn" ["pot"] m__law_drawn := ok__law_drawn F3 h3 G__law_take G__law_of nb
  have G__law_lines_of : Fn PySem.Challenge.pw_treadplans_k61_pictures_as_texts w K mg base 1 "_law_lines_of" ["picture"] m__law_lines_of := ok__law_lines_of F4 h4
  have G__law_bent_lines : Fn PySem.Challenge.pw_treadplans_k61_pictures_as_texts w K mg base 3 "_law_bent_lines" ["pot", "lines"] m__law_bent_lines := ok__law_bent_lines F5 h5 G__law_take G__law_of nb
  have G__law_is_colour : Fn PySem.Challenge.pw_treadplans_k61_pictures_as_texts w K mg base 1 "_law_is_colour" ["word"] m__law_is_colour := ok__law_is_colour F6 h6 nb
  have G__law_due : Fn PySem.Challenge.pw_treadplans_k61_pictures_as_texts w K mg base 2 "_law_due" ["lines"] m__law_due := ok__law_due F7 h7 G__law_is_colour nb
  have G_is_name : Fn PySem.Challenge.pw_treadplans_k61_pictures_as_texts w K mg base 1 "is_name" ["value"] m_is_name := ok_is_name F8 h8 nb c_LETTERS c_MOST_LETTERS
  have G_colours_in : Fn PySem.Challenge.pw_treadplans_k61_pictures_as_texts w K mg base 2 "colours_in" ["line"] m_colours_in := ok_colours_in F9 h9 G_is_name nb c_BLANK c_MOST_texts c_UNKNOWN
  have G_read_picture : Fn PySem.Challenge.pw_treadplans_k61_pictures_as_texts w K mg base 3 "read_picture" ["text"] m_read_picture := ok_read_picture F10 h10 G_colours_in nb ini x_BadText m_BadText c_MOST_texts
  have G__law_met : Fn PySem.Challenge.pw_treadplans_k61_pictures_as_texts w K mg base 4 "_law_met" ["value"] m__law_met := ok__law_met F11 h11 G_read_picture ini x_BadText m_BadText e_BadText f_BadText
  have G_is_line : Fn PySem.Challenge.pw_treadplans_k61_pictures_as_texts w K mg base 2 "is_line" ["value", "many"] m_is_line := ok_is_line F12 h12 G_is_name nb
  have G_check_picture : Fn PySem.Challenge.pw_treadplans_k61_pictures_as_texts w K mg base 3 "check_picture" ["value"] m_check_picture := ok_check_picture F13 h13 G_is_line nb ini x_BadPicture m_BadPicture c_MOST_reading
  have G_show_picture : Fn PySem.Challenge.pw_treadplans_k61_pictures_as_texts w K mg base 4 "show_picture" ["picture"] m_show_picture := ok_show_picture F14 h14 G_check_picture c_BLANK c_UNKNOWN
  have G__law_bad_picture : Fn PySem.Challenge.pw_treadplans_k61_pictures_as_texts w K mg base 5 "_law_bad_picture" ["value"] m__law_bad_picture := ok__law_bad_picture F15 h15 G_show_picture nb ini x_BadPicture m_BadPicture e_BadPicture f_BadPicture xval
  have G__law_right : Fn PySem.Challenge.pw_treadplans_k61_pictures_as_texts w K mg base 6 "_law_right" ["pot"] m__law_right := ok__law_right F16 h16 G__law_drawn G__law_lines_of G__law_of G__law_bent_lines G__law_due G__law_met G__law_bad_picture G_show_picture G_read_picture nb
  exact ok_law F17 h17 G__law_pot G__law_right nb
end K61
open PySem PySem.W PySem.Calls PyProof.Rows
theorem K61_holds (pure_ : ∀ ns : List Int, ns.length ≤ 63 → ∃ S', K61.m_law [.scr ns] [] = .ok (.sh (.bl true)) S') : PySem.Challenge.rw_treadplans_k61_pictures_as_texts.Holds := by
  w_on; o_law
  refine HandSHeadRun.head_any (r := OpenLaw.row PySem.Challenge.rw_treadplans_k61_pictures_as_texts) (q := view (OpenLaw.row PySem.Challenge.rw_treadplans_k61_pictures_as_texts).prog [31]) (H := K61.hk) (ob := K61.ob) (M := 20000) (loose := K61.names) (d := HandSHeadRun.topDef (OpenLaw.row PySem.Challenge.rw_treadplans_k61_pictures_as_texts).prog 31) (kwd := []) K61.ob_eq
    (by kernel_rfl) (fun s => by kernel_rfl) K61.run (by kernel_rfl) (by kernel_rfl) (by kernel_rfl) (by rfl) (by first | assumption | decide +kernel) (by decide +kernel) ⟨rfl, rfl, rfl, rfl, rfl, by decide +kernel⟩ ?hw ?hc
  case hw => w_witness2
  case hc =>
    refine Dn.walkG (l := PySem.Challenge.rw_treadplans_k61_pictures_as_texts) (n := 63) (k := 7) (x := "script") rfl (by decide) (by kernel_rfl) ⟨rfl, by decide, by decide⟩ ?F
    intro w mg fL h Y G hmg0
    obtain ⟨K, KX, c⟩ := Y
    have hmg : mg ("law" : PySem.Str) = some (.ref fL) := by
      have e : (HandSHeadRun.topDef (OpenLaw.row PySem.Challenge.rw_treadplans_k61_pictures_as_texts).prog 31).name = ("law" : PySem.Str) := by kernel_rfl
      rw [← e]
      exact hmg0
    obtain ⟨fd, hb, hF⟩ := K61.facts (w := w) KX G hmg c
    exact ⟨K, fd, K61.m_law, KX, hb, pure_, hF⟩
end

theorem PySem.Challenge.cw_treadplans_k61_pictures_as_texts_holds : PySem.Challenge.rw_treadplans_k61_pictures_as_texts.Holds := by
  exact K61_holds Dn.law_ok
