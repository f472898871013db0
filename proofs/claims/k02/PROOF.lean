import PyProof.Rows.All
import Wide.All
import OpenK.AllK
import Wide.FinOn
import HandS.ForMost
import HandS.ForExc
import HandS.CallSlots
import KE.KDictKeyed
import HandS.TupAny
import HandS.TupMul
import HandS.TupLe
import HandS.Wide
import HandS.Zip
import HandS.Flow
import HandS.Deep
import HandS.Style
import HandS.IsInst
import HandS.Gcd
import HandS.TryOnly
import HandS.TryMany
import KE.GoesZip
import KE.GoesMore
import HandS.OwnEq
import HandS.NamedTup0
import PyProof.InstEq
import HandS.IterVal
import HandS.Defaults
import HandS.Words
import KE.GoesEnum
import OpenK.KMeth
import KE.SortCalls
import KE.SortKeyed
import HandS.ExcValue
import KE.KMathG
import PyProof.TupleOfSeq
import Flt.RightSqrt
import HandS.Conv
import PyProof.P3In
import HandS.TupLen
import KE.KExcSuper
import HandS.ExcInit
import HandS.ExcField
import HandS.Nested
import HandS.ExcIs
import KE.KExcIs
import KE.SortLaws
import HandS.EndBits
import PySem.Challenge.RW_gridmetric_k02_determinants
set_option Elab.async false
set_option linter.all false
set_option maxRecDepth 100000
set_option maxHeartbeats 4000000
namespace L2.VD
open PySem PySem.Spec PyProof.Rows

inductive T where
  | non | bl (b : Bool) | int (i : Int) | str (x : Str)
  | tup (ts : List T) | lst (ts : List T) | sq (ts : List T)
  | obj (c : Nat) (ts : List T)

structure VX where
  K : PySem.W.Frag
  ca : Nat → Addr
  cf : Nat → List Str

section
variable (C : VX) (G : Hp)
mutual
def Rp : T → V → Prop
  | .non, v => v = .non
  | .bl b, v => v = .bl b
  | .int i, v => v = .int i
  | .str x, v => v = .str x
  | .tup ts, v => ∃ a xs, v = .ref a ∧ SqT C.K G a xs ∧ Rps ts xs
  | .lst ts, v => ∃ a xs, v = .ref a ∧ G a = some (.lst xs) ∧ Rps ts xs
  | .sq ts, v => ∃ a xs, v = .ref a ∧ SqL C.K G a xs ∧ Rps ts xs
  | .obj c ts, v => ∃ a dx xs, v = .ref a ∧ G a = some (.ins (C.ca c) dx ((C.cf c).zip xs)) ∧ xs.length = (C.cf c).length ∧ Rps ts xs
def Rps : List T → List V → Prop
  | [], xs => xs = []
  | t :: ts, xs => ∃ x r, xs = x :: r ∧ Rp t x ∧ Rps ts r
end
end
section
variable {C : VX} {G G' : Hp}
theorem sqT_mono {K : PySem.W.Frag} {a : Addr} {xs : List V} (g : ∀ a o, G a = some o → G' a = some o) (h : SqT K G a xs) : SqT K G' a xs := by
  rcases h with (h | ⟨o, h⟩) | h
  · exact .inl (.inl (g _ _ h))
  · exact .inl (.inr ⟨o, g _ _ h⟩)
  · exact .inr h
theorem sqL_mono {K : PySem.W.Frag} {a : Addr} {xs : List V} (g : ∀ a o, G a = some o → G' a = some o) (h : SqL K G a xs) : SqL K G' a xs := by
  rcases h with (h | ⟨o, h⟩) | h
  · exact .inl (.inl (g _ _ h))
  · exact .inl (.inr ⟨o, g _ _ h⟩)
  · exact .inr h
mutual
theorem Rp.mono (g : ∀ a o, G a = some o → G' a = some o) : ∀ (t : T) {v : V}, Rp C G t v → Rp C G' t v
  | .non, _, h => h
  | .bl _, _, h => h
  | .int _, _, h => h
  | .str _, _, h => h
  | .tup ts, _, h => by
    obtain ⟨a, xs, e, h1, h2⟩ := h
    exact ⟨a, xs, e, sqT_mono g h1, Rps.mono g ts h2⟩
  | .lst ts, _, h => by
    obtain ⟨a, xs, e, h1, h2⟩ := h
    exact ⟨a, xs, e, g _ _ h1, Rps.mono g ts h2⟩
  | .sq ts, _, h => by
    obtain ⟨a, xs, e, h1, h2⟩ := h
    exact ⟨a, xs, e, sqL_mono g h1, Rps.mono g ts h2⟩
  | .obj c ts, _, h => by
    obtain ⟨a, dx, xs, e, h1, hl, h2⟩ := h
    exact ⟨a, dx, xs, e, g _ _ h1, hl, Rps.mono g ts h2⟩
theorem Rps.mono (g : ∀ a o, G a = some o → G' a = some o) : ∀ (ts : List T) {xs : List V}, Rps C G ts xs → Rps C G' ts xs
  | [], _, h => h
  | t :: ts, _, h => by
    obtain ⟨x, r, e, h1, h2⟩ := h
    exact ⟨x, r, e, Rp.mono g t h1, Rps.mono g ts h2⟩
end
theorem Rps.length : ∀ {ts : List T} {xs : List V}, Rps C G ts xs → xs.length = ts.length
  | [], _, h => by
    have e : _ = [] := h
    rw [e]; rfl
  | t :: ts, _, h => by
    obtain ⟨x, r, rfl, _, h2⟩ := h
    rw [List.length_cons, List.length_cons, Rps.length h2]
theorem Rps.nil : Rps C G [] [] := rfl
theorem Rps.cons {t : T} {ts : List T} {x : V} {xs : List V} (h : Rp C G t x) (hs : Rps C G ts xs) : Rps C G (t :: ts) (x :: xs) := ⟨x, xs, rfl, h, hs⟩
theorem Rps.get : ∀ {ts : List T} {xs : List V} {i : Nat} {t : T}, Rps C G ts xs → ts[i]? = some t → ∃ x, xs[i]? = some x ∧ Rp C G t x
  | [], _, i, t, _, e => by simp at e
  | u :: ts, _, 0, t, h, e => by
    obtain ⟨x, r, rfl, h1, _⟩ := h
    have e' : u = t := by simpa using e
    exact ⟨x, rfl, e' ▸ h1⟩
  | u :: ts, _, i + 1, t, h, e => by
    obtain ⟨x, r, rfl, _, h2⟩ := h
    have e' : ts[i]? = some t := by simpa using e
    obtain ⟨y, e1, e2⟩ := Rps.get h2 e'
    exact ⟨y, by simpa using e1, e2⟩
theorem Rps.append : ∀ {ts us : List T} {xs ys : List V}, Rps C G ts xs → Rps C G us ys → Rps C G (ts ++ us) (xs ++ ys)
  | [], _, _, _, h, k => by
    have e : _ = [] := h
    rw [e]; exact k
  | t :: ts, _, _, _, h, k => by
    obtain ⟨x, r, rfl, h1, h2⟩ := h
    exact ⟨x, r ++ _, rfl, h1, Rps.append h2 k⟩
theorem Rps.set : ∀ {ts : List T} {xs : List V} {t : T} {x : V} (i : Nat), Rps C G ts xs → Rp C G t x → Rps C G (ts.set i t) (xs.set i x)
  | [], _, _, _, _, h, _ => by
    have e : _ = [] := h
    rw [e]; rfl
  | t :: ts, _, _, y, 0, h, k => by
    obtain ⟨x, r, rfl, h1, h2⟩ := h
    exact ⟨y, r, rfl, k, h2⟩
  | t :: ts, _, _, y, i + 1, h, k => by
    obtain ⟨x, r, rfl, h1, h2⟩ := h
    exact ⟨x, r.set i y, rfl, h1, Rps.set i h2 k⟩
theorem Rps.take : ∀ {ts : List T} {xs : List V} (n : Nat), Rps C G ts xs → Rps C G (ts.take n) (xs.take n)
  | ts, xs, 0, _ => by simp [Rps]
  | [], _, n + 1, h => by
    have e : _ = [] := h
    rw [e]; rfl
  | t :: ts, _, n + 1, h => by
    obtain ⟨x, r, rfl, h1, h2⟩ := h
    exact ⟨x, r.take n, rfl, h1, Rps.take n h2⟩
theorem Rps.drop : ∀ {ts : List T} {xs : List V} (n : Nat), Rps C G ts xs → Rps C G (ts.drop n) (xs.drop n)
  | ts, xs, 0, h => h
  | [], _, n + 1, h => by
    have e : _ = [] := h
    rw [e]; rfl
  | t :: ts, _, n + 1, h => by
    obtain ⟨x, r, rfl, h1, h2⟩ := h
    exact Rps.drop n h2
theorem Rps.ints : ∀ {ns : List Int} {xs : List V}, Rps C G (ns.map T.int) xs ↔ xs = ns.map V.int
  | [], xs => Iff.rfl
  | n :: ns, xs => by
    constructor
    · rintro ⟨x, r, rfl, h1, h2⟩
      have e : x = V.int n := h1
      rw [e, Rps.ints.mp h2]; rfl
    · intro e
      rw [e]
      exact ⟨V.int n, ns.map V.int, rfl, rfl, Rps.ints.mpr rfl⟩
end

mutual
/-- a key -/
def nkT : T → NestedKey
  | .int i => .num i
  | .tup ts => .tup (nkTs ts)
  | _ => .none
def nkTs : List T → List NestedKey
  | [] => []
  | t :: ts => nkT t :: nkTs ts
end
mutual
/-- whole numbers and tuples of such, not too deep -/
def kokT : Nat → T → Bool
  | _, .int _ => true
  | 0, _ => false
  | n + 1, .tup ts => kokTs n ts
  | _ + 1, _ => false
def kokTs : Nat → List T → Bool
  | _, [] => true
  | n, t :: ts => kokT n t && kokTs n ts
end
def kOk : T → Bool
  | .tup ts => kokTs 7 ts
  | _ => false
def rawD (a : Addr) (xs : List (NestedKey × Addr × Value)) (h : Heap) : Prop :=
  (xs.map (·.1)).Nodup ∧ (a == sysModules) = false ∧ ∃ o es ep, h.get? a = some o ∧ o.ExactDict ∧ o.data = .dict es ep ∧ ∀ w : World, es.toList = xs.map fun x => (⟨x.1.hash w, .ref x.2.1, x.2.2⟩ : DictEntry)
def Rkv (C : VX) (G : Hp) : List (T × T) → List (NestedKey × Addr × Value) → Prop
  | [], xs => xs = []
  | p :: r, xs => ∃ b u xr v, xs = (nkT p.1, b, u) :: xr ∧ kOk p.1 = true ∧ Rp C G p.1 (.ref b) ∧ RelV v u ∧ Rp C G p.2 v ∧ Rkv C G r xr
theorem Rkv.mono {C : VX} {G G' : Hp} (g : ∀ a o, G a = some o → G' a = some o) : ∀ {kvs : List (T × T)} {xs : List (NestedKey × Addr × Value)}, Rkv C G kvs xs → Rkv C G' kvs xs
  | [], _, h => h
  | p :: r, _, h => by
    obtain ⟨b, u, xr, v, e, h1, h2, h3, h4, h5⟩ := h
    exact ⟨b, u, xr, v, e, h1, Rp.mono g _ h2, h3, Rp.mono g _ h4, Rkv.mono g h5⟩

inductive Slot where
  | un | sh (t : T) | ol (pin : Bool) (ts : List T) | oll (tss : List (List T)) | oi (c : Nat) (ts : List T) | od (kvs : List (T × T))

def ownsV (H : Hp) (v : V) : Slot → Addr → Prop
  | .ol _ _, a => v = .ref a
  | .oi _ _, a => v = .ref a
  | .od _, a => v = .ref a
  | .oll _, a => v = .ref a ∨ ∃ b xs, v = .ref b ∧ H b = some (.lst xs) ∧ V.ref a ∈ xs
  | .un, _ => False
  | .sh _, _ => False

def Rll (C : VX) (G H : Hp) : List (List T) → List V → Prop
  | [], xs => xs = []
  | ts :: r, xs => ∃ b ys xr, xs = .ref b :: xr ∧ H b = some (.lst ys) ∧ Rps C G ts ys ∧ Rll C G H r xr

def SlotOk (C : VX) (G H : Hp) (ov : Option (Option V)) : Slot → Prop
  | .un => True
  | .sh t => ∃ v, ov = some (some v) ∧ Rp C G t v
  | .ol _ ts => ∃ a xs, ov = some (some (.ref a)) ∧ H a = some (.lst xs) ∧ Rps C G ts xs
  | .oll tss => ∃ a xs, ov = some (some (.ref a)) ∧ H a = some (.lst xs) ∧ xs.Nodup ∧ V.ref a ∉ xs ∧ Rll C G H tss xs
  | .od kvs => ∃ a xs, ov = some (some (.ref a)) ∧ H a = some (.ext (rawD a xs)) ∧ Rkv C G kvs xs
  | .oi c ts => ∃ a dx xs, ov = some (some (.ref a)) ∧ H a = some (.ins (C.ca c) dx ((C.cf c).zip xs)) ∧ xs.length ≤ (C.cf c).length ∧ Rps C G ts xs

structure S where
  e : List Slot
  σ : St
  H : Hp
  G : Hp

def Owns (s : S) (i : Nat) (a : Addr) : Prop := ∃ sl v, s.e[i]? = some sl ∧ s.σ[i]? = some (some v) ∧ ownsV s.H v sl a

structure Sees (C : VX) (s : S) : Prop where
  sub : ∀ a o, s.G a = some o → s.H a = some o
  len : s.e.length = s.σ.length
  at_ : ∀ (i : Nat) sl, s.e[i]? = some sl → SlotOk C s.G s.H s.σ[i]? sl
  own : ∀ i a, Owns s i a → s.G a = none
  inj : ∀ i j a, Owns s i a → Owns s j a → i = j

def Slot.pk : Slot → Option Nat
  | .ol true _ => some 0
  | .oi c _ => some (c + 1)
  | _ => none
structure Ext (s s' : S) : Prop where
  g : ∀ a o, s.G a = some o → s'.G a = some o
  keep : ∀ a o, s.H a = some o → (∀ i, ¬ Owns s i a) → s'.H a = some o
  gnew : ∀ a, s'.G a ≠ none → s.G a ≠ none ∨ s.H a = none ∨ ∃ i, Owns s i a
  own : ∀ i a, Owns s' i a → s.H a = none ∨ ∃ j, Owns s j a
  pin : ∀ (i k : Nat), (s.e[i]?).bind Slot.pk = some k → s'.σ[i]? = s.σ[i]? ∧ (s'.e[i]?).bind Slot.pk = some k

theorem Ext.refl (s : S) : Ext s s where
  g := fun _ _ h => h
  keep := fun _ _ h _ => h
  gnew := fun _ h => .inl h
  own := fun i _ h => .inr ⟨i, h⟩
  pin := fun _ _ h => ⟨rfl, h⟩
theorem Ext.gone {s s' : S} (x : Ext s s') {a : Addr} (h : s'.H a = none) : s.H a = none ∨ ∃ j, Owns s j a := by
  by_cases hj : ∃ j, Owns s j a
  · exact .inr hj
  · left
    cases e : s.H a with
    | none => rfl
    | some o =>
      have := x.keep a o e (fun i hi => hj ⟨i, hi⟩)
      rw [h] at this
      cases this
theorem Ext.trans {s s1 s2 : S} (x : Ext s s1) (y : Ext s1 s2) : Ext s s2 where
  g := fun a o h => y.g a o (x.g a o h)
  keep := fun a o h hn => y.keep a o (x.keep a o h hn) fun i hi => by
    rcases x.own i a hi with e | ⟨j, hj⟩
    · rw [h] at e; cases e
    · exact hn j hj
  gnew := fun a h => by
    rcases y.gnew a h with h1 | h1 | ⟨i, h1⟩
    · exact x.gnew a h1
    · exact .inr (x.gone h1)
    · exact .inr (x.own i a h1)
  own := fun i a h => by
    rcases y.own i a h with h1 | ⟨j, h1⟩
    · exact x.gone h1
    · exact x.own j a h1
  pin := fun i k h => by
    obtain ⟨e1, h1⟩ := x.pin i k h
    obtain ⟨e2, h2⟩ := y.pin i k h1
    exact ⟨e2.trans e1, h2⟩

inductive Out where
  | sh (t : T) | fr (ts : List T) | frr (tss : List (List T)) | ft (tss : List (List T))

def Out.t : Out → T
  | .sh t => t
  | .fr ts => .lst ts
  | .frr tss => .lst (tss.map T.lst)
  | .ft tss => .tup (tss.map T.lst)

structure Fresh (s s' : S) (a : Addr) : Prop where
  g : s'.G a = none
  no : ∀ i, ¬ Owns s' i a
  new : s.H a = none ∨ ∃ j, Owns s j a
theorem Fresh.base {s s1 s2 : S} {a : Addr} (x : Ext s s1) (f : Fresh s1 s2 a) : Fresh s s2 a :=
  ⟨f.g, f.no, f.new.elim (fun h => x.gone h) fun ⟨j, h⟩ => x.own j a h⟩

def OutOk (C : VX) (s s' : S) (v : V) : Out → Prop
  | .sh t => Rp C s'.G t v
  | .fr ts => ∃ a xs, v = .ref a ∧ s'.H a = some (.lst xs) ∧ Fresh s s' a ∧ Rps C s'.G ts xs
  | .frr tss => ∃ a xs, v = .ref a ∧ s'.H a = some (.lst xs) ∧ Fresh s s' a ∧ xs.Nodup ∧ V.ref a ∉ xs ∧ Rll C s'.G s'.H tss xs ∧ ∀ b, V.ref b ∈ xs → Fresh s s' b
  | .ft tss => ∃ a xs, v = .ref a ∧ SqT C.K s'.G a xs ∧ xs.Nodup ∧ Rll C s'.G s'.H tss xs ∧ ∀ b, V.ref b ∈ xs → Fresh s s' b
theorem OutOk.base {C : VX} {s s1 s2 : S} {v : V} (x : Ext s s1) : ∀ {o : Out}, OutOk C s1 s2 v o → OutOk C s s2 v o
  | .sh _, h => h
  | .fr _, ⟨a, xs, e, h1, f, h2⟩ => ⟨a, xs, e, h1, f.base x, h2⟩
  | .frr _, ⟨a, xs, e, h1, f, h2, h3, h4, h5⟩ => ⟨a, xs, e, h1, f.base x, h2, h3, h4, fun b hb => (h5 b hb).base x⟩
  | .ft _, ⟨a, xs, e, h1, h2, h3, h4⟩ => ⟨a, xs, e, h1, h2, h3, fun b hb => (h4 b hb).base x⟩

structure Exn where
  c : Nat
  ts : List T
inductive Res (α : Type) where
  | ok (a : α) (e : List Slot) | ex (x : Exn) (e : List Slot) | bad
def Res.bind {α β : Type} (r : Res α) (f : α → List Slot → Res β) : Res β := match r with
  | .ok a e => f a e
  | .ex x e => .ex x e
  | .bad => .bad
def Res.of {α : Type} (o : Option α) (e : List Slot) : Res α := match o with
  | some a => .ok a e
  | none => .bad

def XOk (C : VX) (s' : S) (cls : Value) (d : Option Addr) (x : Exn) : Prop :=
  cls = .ref (C.ca x.c) ∧ match d with
    | none => x.ts = []
    | some dx => ∃ xs, s'.H dx = some (.xd ((C.cf x.c).zip xs)) ∧ xs.length = (C.cf x.c).length ∧ Rps C s'.G x.ts xs

section
variable (C : VX) (W : WX)
def SatE {α : Type} (s : S) (r : Res α) (P : α → S → Prop) : Prop := match r with
  | .ok a e' => ∀ H' G', Sees C ⟨e', s.σ, H', G'⟩ → Ext s ⟨e', s.σ, H', G'⟩ → P a ⟨e', s.σ, H', G'⟩
  | .ex x e' => ∀ cls d H' G', Sees C ⟨e', s.σ, H', G'⟩ → Ext s ⟨e', s.σ, H', G'⟩ → XOk C ⟨e', s.σ, H', G'⟩ cls d x → W cls d s.σ H'
  | .bad => False
inductive Fl where
  | nx | bk | ct | rt (o : Out)
def FlOk (D : Ends) (s s' : S) : Fl → Prop
  | .nx => D.nx s'.σ s'.H
  | .bk => D.bk s'.σ s'.H
  | .ct => D.ct s'.σ s'.H
  | .rt o => ∀ v, OutOk C s s' v o → D.rt v s'.H
def SatS (s : S) (r : Res Fl) (D : Ends) : Prop := match r with
  | .ok f e' => ∀ σ' H' G', Sees C ⟨e', σ', H', G'⟩ → Ext s ⟨e', σ', H', G'⟩ → FlOk C D s ⟨e', σ', H', G'⟩ f
  | .ex x e' => ∀ cls d σ' H' G', Sees C ⟨e', σ', H', G'⟩ → Ext s ⟨e', σ', H', G'⟩ → XOk C ⟨e', σ', H', G'⟩ cls d x → W cls d σ' H'
  | .bad => False
abbrev DE := List Slot → Res Out
abbrev DT := List Slot → Res Bool
abbrev DA := List Slot → Res (List T)
abbrev DS := List Slot → Res Fl
def tD (d : DE) : TE := fun σ H Q => ∃ e G, Sees C ⟨e, σ, H, G⟩ ∧ SatE C W ⟨e, σ, H, G⟩ (d e) fun o s' => ∀ v, OutOk C ⟨e, σ, H, G⟩ s' v o → Q v s'.H
def tDT (d : DT) : TT := fun σ H Q => ∃ e G, Sees C ⟨e, σ, H, G⟩ ∧ SatE C W ⟨e, σ, H, G⟩ (d e) fun b s' => Q b s'.H
def tDA (d : DA) : TA := fun σ H Q => ∃ e G, Sees C ⟨e, σ, H, G⟩ ∧ SatE C W ⟨e, σ, H, G⟩ (d e) fun ts s' => ∀ vs, Rps C s'.G ts vs → Q vs s'.H
def tDS (d : DS) : TS := fun D σ H => ∃ e G, Sees C ⟨e, σ, H, G⟩ ∧ SatS C W ⟨e, σ, H, G⟩ (d e) D
end

theorem _root_.L2.PE.imp {X : Cx} {e : Expr} {t t' : TE} (h : PE X e t) (i : ∀ σ H Q, t' σ H Q → t σ H Q) : PE X e t' := ⟨fun pins s σ H Q I q => h.run pins s σ H Q I (i σ H Q q)⟩
theorem _root_.L2.PT.imp {X : Cx} {e : Expr} {t t' : TT} (h : PT X e t) (i : ∀ σ H Q, t' σ H Q → t σ H Q) : PT X e t' := ⟨fun pins s σ H Q I q => h.run pins s σ H Q I (i σ H Q q)⟩
theorem _root_.L2.PA.imp {X : Cx} {es : List Expr} {t t' : TA} (h : PA X es t) (i : ∀ σ H Q, t' σ H Q → t σ H Q) : PA X es t' := ⟨fun pos pins s σ H Q I q => h.run pos pins s σ H Q I (i σ H Q q)⟩
theorem _root_.L2.PS.imp {X : Cx} {st : Stmt} {t t' : TS} (h : PS X st t) (i : ∀ D σ H, t' D σ H → t D σ H) : PS X st t' := ⟨fun pins s σ H D I q => h.run pins s σ H D I (i D σ H q)⟩
theorem _root_.L2.PSs.imp {X : Cx} {st : List Stmt} {t t' : TS} (h : PSs X st t) (i : ∀ D σ H, t' D σ H → t D σ H) : PSs X st t' := ⟨fun pins s σ H D I q => h.run pins s σ H D I (i D σ H q)⟩

section
variable {C : VX} {W : WX} {α β : Type} {s : S}
theorem SatE.mono {r : Res α} {P P' : α → S → Prop} (h : SatE C W s r P) (i : ∀ a s', Sees C s' → Ext s s' → s'.σ = s.σ → P a s' → P' a s') : SatE C W s r P' := by
  cases r with
  | ok a e => exact fun H' G' h1 h2 => i a _ h1 h2 rfl (h H' G' h1 h2)
  | ex x e => exact h
  | bad => exact h
theorem SatE.rebase {s1 : S} {r : Res α} {P : α → S → Prop} (h : SatE C W s r P) (hσ : s1.σ = s.σ) (x : Ext s s1) : SatE C W s1 r P := by
  obtain ⟨e1, σ1, H1, G1⟩ := s1
  have : σ1 = s.σ := hσ
  subst this
  cases r with
  | ok a e => exact fun H' G' h1 h2 => h H' G' h1 (x.trans h2)
  | ex y e => exact fun cls d H' G' h1 h2 h3 => h cls d H' G' h1 (x.trans h2) h3
  | bad => exact h
theorem SatE.bind {r : Res α} {f : α → List Slot → Res β} {P : β → S → Prop} (h : SatE C W s (r.bind f) P) : SatE C W s r fun a s1 => SatE C W s1 (f a s1.e) P := by
  cases r with
  | ok a e =>
    have h' : SatE C W s (f a e) P := h
    exact fun H' G' h1 h2 => h'.rebase rfl h2
  | ex x e => exact h
  | bad => exact h
theorem SatS.rebase {s1 : S} {r : Res Fl} {D : Ends} (h : SatS C W s r D) (x : Ext s s1) : SatS C W s1 r D := by
  cases r with
  | ok f e =>
    intro σ' H' G' h1 h2
    have h3 := h σ' H' G' h1 (x.trans h2)
    cases f with
    | rt o => exact fun v ov => h3 v (ov.base x)
    | nx => exact h3
    | bk => exact h3
    | ct => exact h3
  | ex y e => exact fun cls d σ' H' G' h1 h2 h3 => h cls d σ' H' G' h1 (x.trans h2) h3
  | bad => exact h
theorem SatS.bind {r : Res α} {f : α → List Slot → Res Fl} {D : Ends} (h : SatS C W s (r.bind f) D) : SatE C W s r fun a s1 => SatS C W s1 (f a s1.e) D := by
  cases r with
  | ok a e =>
    have h' : SatS C W s (f a e) D := h
    exact fun H' G' h1 h2 => h'.rebase h2
  | ex x e => exact fun cls d H' G' h1 h2 h3 => h cls d s.σ H' G' h1 h2 h3
  | bad => exact h
end
end L2.VD

namespace L2.VD
open PySem PySem.Spec PyProof.Rows

section
variable {C : VX} {G G' H H' : Hp}
theorem Rll.length : ∀ {tss : List (List T)} {xs : List V}, Rll C G H tss xs → xs.length = tss.length
  | [], _, h => by
    have e : _ = [] := h
    rw [e]; rfl
  | t :: ts, _, h => by
    obtain ⟨b, ys, xr, rfl, _, _, h2⟩ := h
    rw [List.length_cons, List.length_cons, Rll.length h2]
theorem Rll.mono (k : ∀ b o, V.ref b ∈ xs → H b = some o → H' b = some o) (g : ∀ a o, G a = some o → G' a = some o) : ∀ {tss : List (List T)}, Rll C G H tss xs → Rll C G' H' tss xs := by
  induction xs with
  | nil =>
    intro tss h
    cases tss with
    | nil => rfl
    | cons t ts => obtain ⟨b, ys, xr, e, _⟩ := h; cases e
  | cons x xs ih =>
    intro tss h
    cases tss with
    | nil => cases h
    | cons t ts =>
      obtain ⟨b, ys, xr, e, h1, h2, h3⟩ := h
      cases e
      exact ⟨b, ys, xs, rfl, k b _ (List.mem_cons_self ..) h1, h2.mono g, ih (fun b o hb => k b o (List.mem_cons_of_mem _ hb)) h3⟩
theorem Rll.here : ∀ {tss : List (List T)} {xs : List V}, Rll C G H tss xs → ∀ x ∈ xs, ∃ b ys, x = .ref b ∧ H b = some (.lst ys)
  | [], _, h, x, hx => by
    have e : _ = [] := h
    rw [e] at hx; cases hx
  | t :: ts, _, h, x, hx => by
    obtain ⟨b, ys, xr, rfl, h1, h2, h3⟩ := h
    cases hx with
    | head => exact ⟨b, ys, rfl, h1⟩
    | tail _ hx => exact Rll.here h3 x hx
theorem Rll.get : ∀ {tss : List (List T)} {xs : List V} {i : Nat} {ts : List T}, Rll C G H tss xs → tss[i]? = some ts → ∃ b ys, xs[i]? = some (.ref b) ∧ H b = some (.lst ys) ∧ Rps C G ts ys
  | [], _, i, t, _, e => by simp at e
  | u :: ts, _, 0, t, h, e => by
    obtain ⟨b, ys, xr, rfl, h1, h2, h3⟩ := h
    have e' : u = t := by simpa using e
    subst e'
    exact ⟨b, ys, rfl, h1, h2⟩
  | u :: ts, _, i + 1, t, h, e => by
    obtain ⟨b, ys, xr, rfl, h1, h2, h3⟩ := h
    have e' : ts[i]? = some t := by simpa using e
    obtain ⟨c, zs, e1, e2, e3⟩ := Rll.get h3 e'
    exact ⟨c, zs, by simpa using e1, e2, e3⟩
end

section
variable {C : VX} {s : S} {H' G' : Hp}
theorem SlotOk.mono {G G' H H' : Hp} {ov : Option (Option V)} (k : ∀ a o, H a = some o → H' a = some o) (g : ∀ a o, G a = some o → G' a = some o) : ∀ {sl : Slot}, SlotOk C G H ov sl → SlotOk C G' H' ov sl
  | .un, _ => trivial
  | .sh t, ⟨v, e, h⟩ => ⟨v, e, h.mono g⟩
  | .ol _ ts, ⟨a, xs, e, h1, h2⟩ => ⟨a, xs, e, k _ _ h1, h2.mono g⟩
  | .oll tss, ⟨a, xs, e, h1, h2, h3, h4⟩ => ⟨a, xs, e, k _ _ h1, h2, h3, h4.mono (fun b o _ => k b o) g⟩
  | .od kvs, ⟨a, xs, e, h1, h2⟩ => ⟨a, xs, e, k _ _ h1, h2.mono g⟩
  | .oi c ts, ⟨a, dx, xs, e, h1, h2, h3⟩ => ⟨a, dx, xs, e, k _ _ h1, h2, h3.mono g⟩
theorem Owns.here (hs : Sees C s) {i : Nat} {a : Addr} (h : Owns s i a) : ∃ o, s.H a = some o := by
  obtain ⟨sl, v, h1, h2, h3⟩ := h
  have h4 := hs.at_ i sl h1
  rw [h2] at h4
  cases sl with
  | un => exact h3.elim
  | sh t => exact h3.elim
  | ol p ts =>
    obtain ⟨b, xs, e, h5, _⟩ := h4
    cases e
    cases (show V.ref b = V.ref a from h3)
    exact ⟨_, h5⟩
  | od kvs =>
    obtain ⟨b, xs, e, h5, _⟩ := h4
    cases e
    cases (show V.ref b = V.ref a from h3)
    exact ⟨_, h5⟩
  | oi c ts =>
    obtain ⟨b, dx, xs, e, h5, _⟩ := h4
    cases e
    cases (show V.ref b = V.ref a from h3)
    exact ⟨_, h5⟩
  | oll tss =>
    obtain ⟨b, xs, e, h5, _, _, h6⟩ := h4
    cases e
    rcases h3 with h3 | ⟨b', xs', h3, h7, h8⟩
    · cases h3
      exact ⟨_, h5⟩
    · cases h3
      rw [h5] at h7
      cases h7
      obtain ⟨c, ys, e, h9⟩ := h6.here _ h8
      cases e
      exact ⟨_, h9⟩
theorem ownsV_back {H H' : Hp} {v : V} {a : Addr} {sl : Slot} {G : Hp} (h4 : SlotOk C G H (some (some v)) sl) (k : ∀ b o, (v = .ref b) → H b = some o → H' b = some o) (h : ownsV H' v sl a) : ownsV H v sl a := by
  cases sl with
  | un => exact h
  | sh t => exact h
  | ol p ts => exact h
  | od kvs => exact h
  | oi c ts => exact h
  | oll tss =>
    rcases h with h | ⟨b, xs, rfl, h7, h8⟩
    · exact .inl h
    · obtain ⟨b', xs', e, h5, _⟩ := h4
      cases e
      have := k b _ rfl h5
      rw [h7] at this
      cases this
      exact .inr ⟨b, xs, rfl, h5, h8⟩
theorem Owns.back (hs : Sees C s) (k : ∀ a o, s.H a = some o → H' a = some o) {i : Nat} {a : Addr} (h : Owns ⟨s.e, s.σ, H', G'⟩ i a) : Owns s i a := by
  obtain ⟨sl, v, h1, h2, h3⟩ := h
  have h4 := hs.at_ i sl h1
  have h2' : s.σ[i]? = some (some v) := h2
  rw [h2'] at h4
  exact ⟨sl, v, h1, h2, ownsV_back h4 (fun b o _ => k b o) h3⟩
theorem Sees.grow (hs : Sees C s) (k : ∀ a o, s.H a = some o → H' a = some o) (g : ∀ a o, s.G a = some o → G' a = some o) (sub : ∀ a o, G' a = some o → H' a = some o) (gn : ∀ a, G' a ≠ none → s.G a ≠ none ∨ s.H a = none) :
    Sees C ⟨s.e, s.σ, H', G'⟩ ∧ Ext s ⟨s.e, s.σ, H', G'⟩ := by
  constructor
  · refine ⟨sub, hs.len, fun i sl h => (hs.at_ i sl h).mono k g, fun i a h => ?_, fun i j a h1 h2 => hs.inj i j a (h1.back hs k) (h2.back hs k)⟩
    have h1 := h.back hs k
    have h2 := hs.own i a h1
    obtain ⟨o, h3⟩ := h1.here hs
    cases e : G' a with
    | none => exact e
    | some o' =>
      rcases gn a (by rw [e]; exact fun z => nomatch z) with z | z
      · exact absurd h2 z
      · rw [h3] at z; cases z
  · exact ⟨g, fun a o h _ => k a o h, fun a h => (gn a h).elim .inl fun z => .inr (.inl z), fun i a h => .inr ⟨i, h.back hs k⟩, fun i ts h => ⟨rfl, h⟩⟩
theorem upd_sup {H : Hp} {p : Addr} {o : HO} (h : H p = none) : ∀ b u, H b = some u → upd H p o b = some u := fun b u e => by
  rw [upd_ne (ne_of_none e h)]
  exact e
theorem Sees.gnone (hs : Sees C s) {p : Addr} (h : s.H p = none) : s.G p = none := by
  cases e : s.G p with
  | none => rfl
  | some o =>
    have := hs.sub p o e
    rw [h] at this
    cases this
theorem Sees.newG (hs : Sees C s) {p : Addr} (h : s.H p = none) (o : HO) : Sees C ⟨s.e, s.σ, upd s.H p o, upd s.G p o⟩ ∧ Ext s ⟨s.e, s.σ, upd s.H p o, upd s.G p o⟩ :=
  hs.grow (upd_sup h) (upd_sup (hs.gnone h)) (fun a u e => by
    by_cases ha : a = p
    · subst ha
      rw [upd_same] at e ⊢
      exact e
    · rw [upd_ne ha] at e ⊢
      exact hs.sub a u e) fun a e => by
    by_cases ha : a = p
    · subst ha
      exact .inr h
    · rw [upd_ne ha] at e
      exact .inl e
theorem Sees.newH (hs : Sees C s) {p : Addr} (h : s.H p = none) (o : HO) : Sees C ⟨s.e, s.σ, upd s.H p o, s.G⟩ ∧ Ext s ⟨s.e, s.σ, upd s.H p o, s.G⟩ :=
  hs.grow (upd_sup h) (fun _ _ e => e) (fun a u e => upd_sup h _ _ (hs.sub a u e)) fun a e => .inl e
theorem Sees.fresh (hs : Sees C s) {p : Addr} (h : s.H p = none) (o : HO) : Fresh s ⟨s.e, s.σ, upd s.H p o, s.G⟩ p :=
  ⟨hs.gnone h, fun i hi => by
    have h1 := hi.back hs (upd_sup h)
    obtain ⟨u, h2⟩ := h1.here hs
    rw [h] at h2
    exact (nomatch h2), .inl h⟩
theorem Sees.fz {s0 : S} (hs : Sees C s) (x : Ext s0 s) (g : ∀ a o, s.G a = some o → G' a = some o) (sub : ∀ a o, G' a = some o → s.H a = some o) (fr : ∀ a, G' a ≠ none → s.G a ≠ none ∨ Fresh s0 s a) :
    Sees C ⟨s.e, s.σ, s.H, G'⟩ ∧ Ext s0 ⟨s.e, s.σ, s.H, G'⟩ := by
  constructor
  · refine ⟨sub, hs.len, fun i sl h => (hs.at_ i sl h).mono (fun _ _ e => e) g, fun i a h => ?_, fun i j a h1 h2 => hs.inj i j a (h1.back hs fun _ _ e => e) (h2.back hs fun _ _ e => e)⟩
    have h1 := h.back hs fun _ _ e => e
    cases e : G' a with
    | none => exact e
    | some o' =>
      rcases fr a (by rw [e]; exact fun z => nomatch z) with z | z
      · exact absurd (hs.own i a h1) z
      · exact absurd h1 (z.no i)
  · refine ⟨fun a o h => g a o (x.g a o h), x.keep, fun a h => ?_, fun i a h => x.own i a (h.back hs fun _ _ e => e), x.pin⟩
    rcases fr a h with z | z
    · exact x.gnew a z
    · exact .inr z.new
end

open Classical in
noncomputable def fzG (G H : Hp) (A : Addr → Prop) : Hp := fun a => if A a then H a else G a
section
variable {G H : Hp} {A : Addr → Prop}
theorem fzG_sub (h : ∀ a o, G a = some o → H a = some o) : ∀ a o, fzG G H A a = some o → H a = some o := fun a o e => by
  unfold fzG at e
  split at e
  · exact e
  · exact h a o e
theorem fzG_g (h : ∀ a o, G a = some o → H a = some o) : ∀ a o, G a = some o → fzG G H A a = some o := fun a o e => by
  unfold fzG
  split
  · exact h a o e
  · exact e
theorem fzG_new : ∀ a, fzG G H A a ≠ none → G a ≠ none ∨ A a := fun a e => by
  unfold fzG at e
  split at e
  · exact .inr (by assumption)
  · exact .inl e
theorem fzG_at {a : Addr} (h : A a) : fzG G H A a = H a := by
  unfold fzG
  rw [if_pos h]
end

theorem Rps_of_Rll {C : VX} {G G' H : Hp} : ∀ {tss : List (List T)} {xs : List V}, (∀ b, V.ref b ∈ xs → G' b = H b) → (∀ a o, G a = some o → G' a = some o) → Rll C G H tss xs → Rps C G' (tss.map T.lst) xs
  | [], _, _, _, h => h
  | t :: ts, _, k, g, h => by
    obtain ⟨b, ys, xr, rfl, h1, h2, h3⟩ := h
    exact ⟨.ref b, xr, rfl, ⟨b, ys, rfl, (k b (List.mem_cons_self ..)).trans h1, h2.mono g⟩, Rps_of_Rll (fun c hc => k c (List.mem_cons_of_mem _ hc)) g h3⟩

section
variable {C : VX} {W : WX} {s s0 : S}
theorem OutOk.freeze (hs : Sees C s) (x : Ext s0 s) {v : V} : ∀ {o : Out}, OutOk C s0 s v o → ∃ G', Sees C ⟨s.e, s.σ, s.H, G'⟩ ∧ Ext s0 ⟨s.e, s.σ, s.H, G'⟩ ∧ (∀ a o, s.G a = some o → G' a = some o) ∧ Rp C G' o.t v
  | .sh t, h => ⟨s.G, hs, x, fun _ _ e => e, h⟩
  | .fr ts, ⟨a, xs, e, h1, f, h2⟩ => by
    have z := hs.fz (G' := fzG s.G s.H (fun b => b = a)) x (fzG_g hs.sub) (fzG_sub hs.sub) fun b hb => (fzG_new b hb).imp id fun (q : b = a) => q ▸ f
    exact ⟨_, z.1, z.2, fzG_g hs.sub, a, xs, e, (fzG_at (A := fun b => b = a) rfl).trans h1, h2.mono (fzG_g hs.sub)⟩
  | .frr tss, ⟨a, xs, e, h1, f, h2, h3, h4, h5⟩ => by
    have z := hs.fz (G' := fzG s.G s.H (fun b => b = a ∨ V.ref b ∈ xs)) x (fzG_g hs.sub) (fzG_sub hs.sub) fun b hb => (fzG_new b hb).imp id fun q => q.elim (fun q => q ▸ f) (h5 b)
    exact ⟨_, z.1, z.2, fzG_g hs.sub, a, xs, e, (fzG_at (A := fun b => b = a ∨ V.ref b ∈ xs) (.inl rfl)).trans h1, Rps_of_Rll (fun b hb => fzG_at (.inr hb)) (fzG_g hs.sub) h4⟩
  | .ft tss, ⟨a, xs, e, h1, h2, h4, h5⟩ => by
    have z := hs.fz (G' := fzG s.G s.H (fun b => V.ref b ∈ xs)) x (fzG_g hs.sub) (fzG_sub hs.sub) fun b hb => (fzG_new b hb).imp id (h5 b)
    exact ⟨_, z.1, z.2, fzG_g hs.sub, a, xs, e, sqT_mono (fzG_g hs.sub) h1, Rps_of_Rll (fun b hb => fzG_at hb) (fzG_g hs.sub) h4⟩

theorem tD_T {d : DE} {Q : VK} (hs : Sees C s) (h : SatE C W s (d s.e) fun o s1 => ∀ v, Rp C s1.G o.t v → Q v s1.H) : tD C W d s.σ s.H Q := by
  refine ⟨s.e, s.G, hs, ?_⟩
  cases e : d s.e with
  | ok o e' =>
    rw [e] at h
    intro H' G' h1 h2 v ov
    obtain ⟨G2, z1, z2, _, z4⟩ := ov.freeze h1 h2
    exact h H' G2 z1 z2 v z4
  | ex y e' => rw [e] at h; exact h
  | bad => rw [e] at h; exact h
theorem tD_O {d : DE} {Q : VK} (hs : Sees C s) (h : SatE C W s (d s.e) fun o s1 => ∀ v, OutOk C s s1 v o → Q v s1.H) : tD C W d s.σ s.H Q := ⟨s.e, s.G, hs, h⟩
theorem tDT_I {d : DT} {Q : Bool → Hp → Prop} (hs : Sees C s) (h : SatE C W s (d s.e) fun b s1 => Q b s1.H) : tDT C W d s.σ s.H Q := ⟨s.e, s.G, hs, h⟩
theorem tDA_I {d : DA} {Q : List V → Hp → Prop} (hs : Sees C s) (h : SatE C W s (d s.e) fun ts s1 => ∀ vs, Rps C s1.G ts vs → Q vs s1.H) : tDA C W d s.σ s.H Q := ⟨s.e, s.G, hs, h⟩
theorem tDS_I {d : DS} {D : Ends} (hs : Sees C s) (h : SatS C W s (d s.e) D) : tDS C W d D s.σ s.H := ⟨s.e, s.G, hs, h⟩
end

section
variable {C : VX} {s : S}
theorem get_set {α : Type} {l : List α} {i j : Nat} {x y : α} (h : (l.set i x)[j]? = some y) : (j = i ∧ y = x ∧ i < l.length) ∨ (j ≠ i ∧ l[j]? = some y) := by
  by_cases e : j = i
  · subst e
    rw [List.getElem?_set_self'] at h
    cases q : l[j]? with
    | none => rw [q] at h; cases h
    | some z =>
      rw [q] at h
      cases h
      exact .inl ⟨rfl, rfl, (List.getElem?_eq_some_iff.mp q).1⟩
  · rw [List.getElem?_set_ne (Ne.symm e)] at h
    exact .inr ⟨e, h⟩
theorem Sees.slot (hs : Sees C s) {i : Nat} {sl : Slot} {H' G' : Hp} (hi : ∃ v, s.σ[i]? = some (some v)) (k : ∀ a o, s.H a = some o → ¬ Owns s i a → H' a = some o) (g : ∀ a o, s.G a = some o → G' a = some o) (sub : ∀ a o, G' a = some o → H' a = some o)
    (new : SlotOk C G' H' s.σ[i]? sl) (own : ∀ v a, s.σ[i]? = some (some v) → ownsV H' v sl a → Owns s i a ∧ G' a = none) (gn : ∀ a, G' a ≠ none → s.G a ≠ none ∨ Owns s i a) (pin : ∀ k, (s.e[i]?).bind Slot.pk = some k → sl.pk = some k) :
    Sees C ⟨s.e.set i sl, s.σ, H', G'⟩ ∧ Ext s ⟨s.e.set i sl, s.σ, H', G'⟩ := by
  have back : ∀ j a, Owns ⟨s.e.set i sl, s.σ, H', G'⟩ j a → Owns s j a := by
    rintro j a ⟨sl', v, h1, h2, h3⟩
    rcases get_set h1 with ⟨rfl, rfl, _⟩ | ⟨hj, h1⟩
    · exact (own v a h2 h3).1
    · have h4 := hs.at_ j sl' h1
      rw [show s.σ[j]? = some (some v) from h2] at h4
      refine ⟨sl', v, h1, h2, ownsV_back h4 (fun b o hb hB => k b o hB fun hO => hj ?_) h3⟩
      refine hs.inj j i b ⟨sl', v, h1, h2, ?_⟩ hO
      cases sl' with
      | un => exact h3.elim
      | sh t => exact h3.elim
      | ol p ts => exact hb
      | od kvs => exact hb
      | oi c ts => exact hb
      | oll tss => exact .inl hb
  have gno : ∀ j a, Owns ⟨s.e.set i sl, s.σ, H', G'⟩ j a → G' a = none := by
    intro j a h
    have h1 := back j a h
    have h2 := hs.own j a h1
    cases e : G' a with
    | none => rfl
    | some o' =>
      rcases gn a (by rw [e]; exact fun z => nomatch z) with z | z
      · exact absurd h2 z
      · have hji := hs.inj j i a h1 z
        subst hji
        obtain ⟨sl', v, h1, h2, h3⟩ := h
        rcases get_set h1 with ⟨_, rfl, _⟩ | ⟨hj, _⟩
        · rw [(own v a h2 h3).2] at e; cases e
        · exact absurd rfl hj
  constructor
  · refine ⟨sub, by show (s.e.set i sl).length = _; rw [List.length_set]; exact hs.len, fun j sl' h1 => ?_, gno, fun j j' a h1 h2 => hs.inj j j' a (back j a h1) (back j' a h2)⟩
    rcases get_set h1 with ⟨rfl, rfl, _⟩ | ⟨hj, h1⟩
    · exact new
    · have h4 := hs.at_ j sl' h1
      show SlotOk C G' H' s.σ[j]? sl'
      have kk : ∀ a o, Owns s j a → s.H a = some o → H' a = some o := fun a o ha hA => k a o hA fun hO => hj (hs.inj j i a ha hO)
      cases sl' with
      | un => trivial
      | sh t =>
        obtain ⟨v, e, h⟩ := h4
        exact ⟨v, e, h.mono g⟩
      | ol p ts =>
        obtain ⟨a, xs, e, h1', h2⟩ := h4
        exact ⟨a, xs, e, kk a _ ⟨_, _, h1, e, rfl⟩ h1', h2.mono g⟩
      | od kvs =>
        obtain ⟨a, xs, e, h1', h2⟩ := h4
        exact ⟨a, xs, e, kk a _ ⟨_, _, h1, e, rfl⟩ h1', h2.mono g⟩
      | oi c ts =>
        obtain ⟨a, dx, xs, e, h1', h2, h3⟩ := h4
        exact ⟨a, dx, xs, e, kk a _ ⟨_, _, h1, e, rfl⟩ h1', h2, h3.mono g⟩
      | oll tss =>
        obtain ⟨a, xs, e, h1', h2, h3, h4⟩ := h4
        exact ⟨a, xs, e, kk a _ ⟨_, _, h1, e, .inl rfl⟩ h1', h2, h3, h4.mono (fun b o hb hB => kk b o ⟨_, _, h1, e, .inr ⟨a, xs, rfl, h1', hb⟩⟩ hB) g⟩
  · refine ⟨g, fun a o h hn => k a o h (hn i), fun a h => (gn a h).imp id fun z => .inr ⟨i, z⟩, fun j a h => .inr ⟨j, back j a h⟩, fun j kk h => ⟨rfl, ?_⟩⟩
    by_cases hj : j = i
    · subst hj
      show ((s.e.set j sl)[j]?).bind Slot.pk = _
      cases q : s.e[j]? with
      | none => rw [q] at h; exact nomatch h
      | some s0 =>
        rw [List.getElem?_set_self (List.getElem?_eq_some_iff.mp q).1]
        exact pin kk h
    · show ((s.e.set i sl)[j]?).bind Slot.pk = _
      rw [List.getElem?_set_ne (Ne.symm hj)]
      exact h
theorem Sees.olset (hs : Sees C s) {i : Nat} {p : Bool} {ts ts' : List T} {a : Addr} {xs' : List V} (h1 : s.e[i]? = some (.ol p ts)) (h2 : s.σ[i]? = some (some (.ref a))) (r : Rps C s.G ts' xs') :
    Sees C ⟨s.e.set i (.ol p ts'), s.σ, upd s.H a (.lst xs'), s.G⟩ ∧ Ext s ⟨s.e.set i (.ol p ts'), s.σ, upd s.H a (.lst xs'), s.G⟩ := by
  have hO : Owns s i a := ⟨_, _, h1, h2, rfl⟩
  have hG := hs.own i a hO
  refine hs.slot ⟨_, h2⟩ (fun b o hb hn => ?_) (fun _ _ h => h) (fun b o hb => ?_) ⟨a, xs', h2, upd_same, r⟩ (fun v b hv hb => ?_) (fun b hb => .inl hb) fun kk h0 => ?_
  · rw [upd_ne fun e => hn (by rw [e]; exact hO)]
    exact hb
  · rw [upd_ne fun e => by rw [e, hG] at hb; cases hb]
    exact hs.sub b o hb
  · rw [h2] at hv
    cases hv
    cases (show V.ref a = V.ref b from hb)
    exact ⟨hO, hG⟩
  · rw [h1] at h0
    cases p
    · exact nomatch (show (none : Option Nat) = some kk from h0)
    · exact h0
theorem Sees.olfreeze (hs : Sees C s) {i : Nat} {ts : List T} (h1 : s.e[i]? = some (.ol false ts)) :
    ∃ G' v, s.σ[i]? = some (some v) ∧ Rp C G' (.lst ts) v ∧ Sees C ⟨s.e.set i (.sh (.lst ts)), s.σ, s.H, G'⟩ ∧ Ext s ⟨s.e.set i (.sh (.lst ts)), s.σ, s.H, G'⟩ := by
  obtain ⟨a, xs, e, h3, h4⟩ := hs.at_ i _ h1
  have hO : Owns s i a := ⟨_, _, h1, e, rfl⟩
  have r : Rp C (fzG s.G s.H (fun b => b = a)) (.lst ts) (.ref a) := ⟨a, xs, rfl, (fzG_at (A := fun b => b = a) rfl).trans h3, h4.mono (fzG_g hs.sub)⟩
  refine ⟨fzG s.G s.H (fun b => b = a), .ref a, e, r, ?_⟩
  refine hs.slot ⟨_, e⟩ (fun b o hb hn => hb) (fzG_g hs.sub) (fzG_sub hs.sub) ⟨_, e, r⟩ (fun v b hv hb => hb.elim) (fun b hb => (fzG_new b hb).imp id fun (q : b = a) => q ▸ hO) fun kk h0 => ?_
  rw [h1] at h0
  exact nomatch (show (none : Option Nat) = some kk from h0)
theorem Sees.ollfreeze (hs : Sees C s) {i : Nat} {tss : List (List T)} (h1 : s.e[i]? = some (.oll tss)) :
    ∃ G' v, s.σ[i]? = some (some v) ∧ Rp C G' (.lst (tss.map T.lst)) v ∧ Sees C ⟨s.e.set i (.sh (.lst (tss.map T.lst))), s.σ, s.H, G'⟩ ∧ Ext s ⟨s.e.set i (.sh (.lst (tss.map T.lst))), s.σ, s.H, G'⟩ := by
  obtain ⟨a, xs, e, h3, h4, h5, h6⟩ := hs.at_ i _ h1
  have hO : ∀ b, (b = a ∨ V.ref b ∈ xs) → Owns s i b := fun b hb => ⟨_, _, h1, e, hb.elim (fun q => .inl (by rw [q])) fun q => .inr ⟨a, xs, rfl, h3, q⟩⟩
  have r : Rp C (fzG s.G s.H (fun b => b = a ∨ V.ref b ∈ xs)) (.lst (tss.map T.lst)) (.ref a) := ⟨a, xs, rfl, (fzG_at (A := fun b => b = a ∨ V.ref b ∈ xs) (.inl rfl)).trans h3, Rps_of_Rll (fun b hb => fzG_at (.inr hb)) (fzG_g hs.sub) h6⟩
  refine ⟨fzG s.G s.H (fun b => b = a ∨ V.ref b ∈ xs), .ref a, e, r, ?_⟩
  refine hs.slot ⟨_, e⟩ (fun b o hb hn => hb) (fzG_g hs.sub) (fzG_sub hs.sub) ⟨_, e, r⟩ (fun v b hv hb => hb.elim) (fun b hb => (fzG_new b hb).imp id fun q => hO b q) fun kk h0 => ?_
  rw [h1] at h0
  exact nomatch (show (none : Option Nat) = some kk from h0)
end
end L2.VD

namespace L2.VD
open PySem PySem.Spec PyProof.Rows

abbrev fits (n : Nat) : Bool := Nat.ble n 16777216
theorem fits_le {n : Nat} (h : fits n = true) : n ≤ sizeLine := by
  rw [sizeLine_eq]
  exact Nat.le_of_ble_eq_true h

def dC (t : T) : DE := fun e => .ok (.sh t) e
def dVar (i : Nat) : DE := fun e => match e[i]? with
  | some (.sh t) => .ok (.sh t) e
  | some (.ol false ts) => .ok (.sh (.lst ts)) (e.set i (.sh (.lst ts)))
  | some (.oll tss) => .ok (.sh (.lst (tss.map T.lst))) (e.set i (.sh (.lst (tss.map T.lst))))
  | _ => .bad
section
variable {X : Cx} {C : VX} {W : WX}
theorem e_const {x : Expr} {t : T} {v : V} (h : PE X x (tC v)) (r : ∀ G, Rp C G t v) : PE X x (tD C W (dC t)) := h.imp fun σ H Q ⟨e, G, hs, q⟩ => by
  exact q H G hs (Ext.refl _) v (r G)
theorem e_int {i j pos} : PE X (.Constant (.int i) j pos) (tD C W (dC (.int i))) := e_const pe_int fun _ => rfl
theorem e_bl {b j pos} : PE X (.Constant (.bool b) j pos) (tD C W (dC (.bl b))) := e_const pe_bl fun _ => rfl
theorem e_non {j pos} : PE X (.Constant .none j pos) (tD C W (dC .non)) := e_const pe_non fun _ => rfl
theorem e_var (i : Nat) {x : Str} {pos : Pos} (hN : X.N[i]? = some x := by rfl) (hv : Vis X.env.scope x := by first | exact Or.inl rfl | exact Or.inr (Or.inl rfl) | exact Or.inr (Or.inr rfl)) (hd : (x == ("__debug__" : Str)) = false := by decide)
    (hcd : (x == ("__classdict__" : Str)) = false := by decide) : PE X (.Name x pos) (tD C W (dVar i)) := (pv i hN hv hd hcd).imp fun σ H Q ⟨e, G, hs, q⟩ => by
  unfold dVar at q
  split at q
  · rename_i t h
    obtain ⟨v, e1, r⟩ := hs.at_ i _ h
    exact ⟨v, e1, q H G hs (Ext.refl _) v r⟩
  · rename_i ts h
    obtain ⟨G', v, e1, r, z1, z2⟩ := hs.olfreeze h
    exact ⟨v, e1, q H G' z1 z2 v r⟩
  · rename_i tss h
    obtain ⟨G', v, e1, r, z1, z2⟩ := hs.ollfreeze h
    exact ⟨v, e1, q H G' z1 z2 v r⟩
  · exact q.elim
end

structure OpS (C : VX) (r : R2) (f : T → T → Option Out) : Prop where
  run : ∀ (s : S) (x y : V) (t u : T) (o : Out) (Q : VK), Sees C s → Rp C s.G t x → Rp C s.G u y → f t u = some o →
    (∀ v H' G', Sees C ⟨s.e, s.σ, H', G'⟩ → Ext s ⟨s.e, s.σ, H', G'⟩ → OutOk C s ⟨s.e, s.σ, H', G'⟩ v o → Q v H') → r x y s.H Q
def dOp (f : T → T → Option Out) (da db : DE) : DE := fun e => (da e).bind fun a e1 => (db e1).bind fun b e2 => Res.of (f a.t b.t) e2
section
variable {X : Cx} {C : VX} {W : WX} {a b : Expr} {da db : DE} {f : T → T → Option Out} {r : R2} {pos : Pos}
theorem SatE.of {α : Type} {s : S} {o : Option α} {P : α → S → Prop} (h : SatE C W s (Res.of o s.e) P) : ∃ x, o = some x ∧ ∀ H' G', Sees C ⟨s.e, s.σ, H', G'⟩ → Ext s ⟨s.e, s.σ, H', G'⟩ → P x ⟨s.e, s.σ, H', G'⟩ := by
  cases o with
  | none => exact h.elim
  | some x => exact ⟨x, rfl, h⟩
theorem tOp_of (hf : OpS C r f) {σ : St} {H : Hp} {Q : VK} (h : tD C W (dOp f da db) σ H Q) : tOp r (tD C W da) (tD C W db) σ H Q := by
  obtain ⟨e, G, hs, h⟩ := h
  refine tD_T (s := ⟨e, σ, H, G⟩) hs ((SatE.bind h).mono fun x s1 hs1 x1 e1 h1 v rv => ?_)
  have hσ : s1.σ = σ := e1
  subst hσ
  refine tD_T hs1 ((SatE.bind h1).mono fun y s2 hs2 x2 e2 h2 w rw' => ?_)
  obtain ⟨o, ho, k⟩ := SatE.of h2
  refine hf.run s2 v w _ _ o Q hs2 (rv.mono x2.g) rw' ho fun u H' G' z1 z2 z3 => ?_
  exact k H' G' z1 z2 u (z3.base (x1.trans x2))
theorem e_op {op : Operator} (ho : OpR X (binaryOp op) r) (hf : OpS C r f) (ha : PE X a (tD C W da)) (hb : PE X b (tD C W db)) : PE X (.BinOp a op b pos) (tD C W (dOp f da db)) := (pe_op ho ha hb).imp fun _ _ _ h => tOp_of hf h
theorem e_cmp {op : CmpOp} (ho : OpR X (compareOp op) r) (hf : OpS C r f) (ha : PE X a (tD C W da)) (hb : PE X b (tD C W db)) (hm : behindInMarks op b = false) : PE X (.Compare a [op] [b] pos) (tD C W (dOp f da db)) := (pe_cmpR ho ha hb hm).imp fun _ _ _ h => tOp_of hf h
theorem OpS.or {r r' : R2} (h : ∀ s x y t u o Q, Sees C s → Rp C s.G t x → Rp C s.G u y → f t u = some o → (∀ v H' G', Sees C ⟨s.e, s.σ, H', G'⟩ → Ext s ⟨s.e, s.σ, H', G'⟩ → OutOk C s ⟨s.e, s.σ, H', G'⟩ v o → Q v H') → r x y s.H Q ∨ r' x y s.H Q) : OpS C (fun x y H Q => r x y H Q ∨ r' x y H Q) f := ⟨h⟩
end

theorem out_sh {C : VX} {s : S} {Q : VK} {t : T} (hs : Sees C s) (h : ∀ v H' G', Sees C ⟨s.e, s.σ, H', G'⟩ → Ext s ⟨s.e, s.σ, H', G'⟩ → OutOk C s ⟨s.e, s.σ, H', G'⟩ v (.sh t) → Q v H') {v : V} (r : Rp C s.G t v) : Q v s.H := h v s.H s.G hs (Ext.refl _) r
theorem out_tup {C : VX} {s : S} {Q : VK} {ts : List T} {xs : List V} {p : Addr} (hs : Sees C s) (hp : s.H p = none) (h : ∀ v H' G', Sees C ⟨s.e, s.σ, H', G'⟩ → Ext s ⟨s.e, s.σ, H', G'⟩ → OutOk C s ⟨s.e, s.σ, H', G'⟩ v (.sh (.tup ts)) → Q v H') (r : Rps C s.G ts xs) : Q (.ref p) (upd s.H p (.tup xs)) := by
  obtain ⟨z1, z2⟩ := hs.newG hp (.tup xs)
  exact h _ _ _ z1 z2 ⟨p, xs, rfl, .inl (.inl upd_same), r.mono z2.g⟩
theorem out_lst {C : VX} {s : S} {Q : VK} {ts : List T} {xs : List V} {p : Addr} (hs : Sees C s) (hp : s.H p = none) (h : ∀ v H' G', Sees C ⟨s.e, s.σ, H', G'⟩ → Ext s ⟨s.e, s.σ, H', G'⟩ → OutOk C s ⟨s.e, s.σ, H', G'⟩ v (.fr ts) → Q v H') (r : Rps C s.G ts xs) : Q (.ref p) (upd s.H p (.lst xs)) := by
  obtain ⟨z1, z2⟩ := hs.newH hp (.lst xs)
  exact h _ _ _ z1 z2 ⟨p, xs, rfl, upd_same, hs.fresh hp _, r⟩

def fAdd : T → T → Option Out
  | .int i, .int j => some (.sh (.int (i + j)))
  | .str a, .str b => if fits (a.length + b.length) then some (.sh (.str (a ++ b))) else none
  | .tup a, .tup b => if fits (a.length + b.length) then some (.sh (.tup (a ++ b))) else none
  | .lst a, .lst b => if fits (a.length + b.length) then some (.fr (a ++ b)) else none
  | _, _ => none
def fSub : T → T → Option Out
  | .int i, .int j => some (.sh (.int (i - j)))
  | _, _ => none
def mulFits (i j : Int) : Bool := Nat.ble j.natAbs 9223372036854775807 || Nat.ble i.natAbs 9223372036854775807 || Nat.ble (i.natAbs.log2 + j.natAbs.log2) 100000000
def rep (n : Nat) (ts : List T) : List T := (List.replicate n ts).flatten
def fMul : T → T → Option Out
  | .int i, .int j => if mulFits i j then some (.sh (.int (i * j))) else none
  | .lst a, .int j => if decide (-(2 ^ 63) ≤ j) && decide (j < 2 ^ 63) && fits (a.length * j.toNat) then some (.fr (rep j.toNat a)) else none
  | .tup a, .int j => if decide (a ≠ []) && decide (2 ≤ j) && decide (j ≤ 1000) && Nat.ble a.length 1000 then some (.sh (.tup (rep j.toNat a))) else none
  | _, _ => none
def divFits (j : Int) : Bool := decide (j ≠ 0) && Nat.ble j.natAbs.log2 8999
def fDiv : T → T → Option Out
  | .int i, .int j => if divFits j then some (.sh (.int (i.fdiv j))) else none
  | _, _ => none
def fMod : T → T → Option Out
  | .int i, .int j => if decide (j ≠ 0) then some (.sh (.int (i.fmod j))) else none
  | _, _ => none
section
variable {C : VX}
def CMulB (i j : Int) : Prop := mulFits i j = true
theorem CMulB.ok {i j : Int} (h : CMulB i j) : IntMulOk i j := by
  have b : ∀ x : Int, Builtin.Int.intBits x ≤ x.natAbs.log2 + 1 := fun x => by
    unfold Builtin.Int.intBits
    split <;> omega
  have small : ∀ x : Int, Nat.ble x.natAbs 9223372036854775807 = true → Builtin.Int.intBits x ≤ 64 := fun x hx => by
    have h0 : x.natAbs ≤ 9223372036854775807 := Nat.le_of_ble_eq_true hx
    have h1 := b x
    by_cases hz : x.natAbs = 0
    · rw [hz] at h1
      have : Nat.log2 0 = 0 := by decide
      omega
    · have : x.natAbs.log2 < 63 := (Nat.log2_lt hz).mpr (by omega)
      omega
  have h : (Nat.ble j.natAbs 9223372036854775807 || Nat.ble i.natAbs 9223372036854775807 || Nat.ble (i.natAbs.log2 + j.natAbs.log2) 100000000) = true := h
  rw [Bool.or_eq_true, Bool.or_eq_true] at h
  rcases h with (h | h) | h
  · exact IntMulOk.of_right (small j h)
  · exact IntMulOk.of_left (small i h)
  have h1 := b i
  have h2 := b j
  have h3 : i.natAbs.log2 + j.natAbs.log2 ≤ 100000000 := Nat.le_of_ble_eq_true h
  have e : bitsLine = 134217728 := by decide
  unfold IntMulOk
  intro z
  rw [Bool.and_eq_true] at z
  have z2 := z.2
  unfold Builtin.Int.intTooBig at z2
  have z3 := of_decide_eq_true z2
  rw [e] at z3
  omega
theorem op_mulB {X : Cx} : OpR X (binaryOp .Mult) (rI CMulB fun i j => .int (i * j)) := opI fun _ _ _ _ _ _ _ hc q => mul_int q hc.ok
def CDivB (_ j : Int) : Prop := j ≠ 0 ∧ j.natAbs.log2 < 9000
theorem op_fdivB {X : Cx} : OpR X (binaryOp .FloorDiv) (rI CDivB fun i j => .int (i.fdiv j)) := opI fun i j _ _ _ _ _ hc q => floordiv_int hc.1 q (.inl (PyProof.noPylong_of_log2 hc.2))
def rAddV (K : PySem.W.Frag) : R2 := fun x y H Q => rI0 (fun i j => .int (i + j)) x y H Q ∨ (∃ i j, x = .str i ∧ y = .str j ∧ i.length + j.length ≤ sizeLine ∧ Q (.str (i ++ j)) H) ∨ rCatA K x y H Q ∨ rCat x y H Q
theorem op_addV {X : Cx} : OpR X (binaryOp .Add) (rAddV X.K) := op_add.or (op_add_str.or (op_catA.or op_cat))
theorem os_add {K : PySem.W.Frag} (hK : C.K = K := by rfl) : OpS C (rAddV K) fAdd := by
  subst hK
  refine ⟨fun s x y t u o Q hs rx ry ho q => ?_⟩
  unfold fAdd at ho
  split at ho
  · cases ho
    cases rx; cases ry
    exact .inl ⟨_, _, rfl, rfl, out_sh hs q rfl⟩
  · split at ho
    · rename_i h
      cases ho
      cases rx; cases ry
      exact .inr (.inl ⟨_, _, rfl, rfl, fits_le h, out_sh hs q rfl⟩)
    · cases ho
  · split at ho
    · rename_i ta tb h
      cases ho
      obtain ⟨a, xs, rfl, h1, h2⟩ := rx
      obtain ⟨b, ys, rfl, h3, h4⟩ := ry
      refine .inr (.inr (.inl ⟨a, b, xs, ys, rfl, rfl, sqT_mono hs.sub h1, sqT_mono hs.sub h3, ?_, fun e => ?_, fun _ e => ?_, fun _ _ p hp => ?_⟩))
      · rw [h2.length, h4.length]
        exact fits_le h
      · have e' : ta = [] := by
          have := h2.length
          rw [e] at this
          exact List.eq_nil_of_length_eq_zero this.symm
        subst e'
        exact out_sh hs q ⟨b, ys, rfl, h3, h4⟩
      · have e' : tb = [] := by
          have := h4.length
          rw [e] at this
          exact List.eq_nil_of_length_eq_zero this.symm
        subst e'
        rw [List.append_nil] at q
        exact out_sh hs q ⟨a, xs, rfl, h1, h2⟩
      · exact out_tup hs hp q (h2.append h4)
    · cases ho
  · split at ho
    · rename_i ta tb h
      cases ho
      obtain ⟨a, xs, rfl, h1, h2⟩ := rx
      obtain ⟨b, ys, rfl, h3, h4⟩ := ry
      refine .inr (.inr (.inr ⟨a, b, xs, ys, rfl, rfl, hs.sub _ _ h1, hs.sub _ _ h3, ?_, fun p hp => ?_⟩))
      · rw [h2.length, h4.length]
        exact fits_le h
      · exact out_lst hs hp q (h2.append h4)
    · cases ho
  · cases ho
theorem os_sub : OpS C (rI0 fun i j => .int (i - j)) fSub := by
  refine ⟨fun s x y t u o Q hs rx ry ho q => ?_⟩
  unfold fSub at ho
  split at ho
  · cases ho
    cases rx; cases ry
    exact ⟨_, _, rfl, rfl, out_sh hs q rfl⟩
  · cases ho
theorem Rps.rep {G : Hp} {ts : List T} {xs : List V} (h : Rps C G ts xs) : ∀ n : Nat, Rps C G (VD.rep n ts) (List.replicate n xs).flatten
  | 0 => rfl
  | n + 1 => by
    show Rps C G (List.replicate (n + 1) ts).flatten _
    rw [List.replicate_succ, List.replicate_succ, List.flatten_cons, List.flatten_cons]
    exact h.append (Rps.rep h n)
def rMulV (K : PySem.W.Frag) : R2 := fun x y H Q => rI CMulB (fun i j => .int (i * j)) x y H Q ∨ rRep x y H Q ∨ rRepT K x y H Q
theorem op_mulV {X : Cx} : OpR X (binaryOp .Mult) (rMulV X.K) := op_mulB.or (op_rep.or op_repT)
theorem os_mul {K : PySem.W.Frag} (hK : C.K = K := by rfl) : OpS C (rMulV K) fMul := by
  subst hK
  refine ⟨fun s x y t u o Q hs rx ry ho q => ?_⟩
  unfold fMul at ho
  split at ho
  · split at ho
    · rename_i h
      cases ho
      cases rx; cases ry
      exact .inl ⟨_, _, rfl, rfl, h, out_sh hs q rfl⟩
    · cases ho
  · split at ho
    · rename_i ta j h
      rw [Bool.and_eq_true, Bool.and_eq_true] at h
      cases ho
      obtain ⟨a, xs, rfl, h1, h2⟩ := rx
      cases ry
      refine .inr (.inl ⟨a, j, xs, rfl, rfl, hs.sub _ _ h1, of_decide_eq_true h.1.1, of_decide_eq_true h.1.2, ?_, fun p hp => ?_⟩)
      · rw [h2.length]
        exact fits_le h.2
      · exact out_lst hs hp q (h2.rep _)
    · cases ho
  · split at ho
    · rename_i ta j h
      rw [Bool.and_eq_true, Bool.and_eq_true, Bool.and_eq_true] at h
      cases ho
      obtain ⟨a, xs, rfl, h1, h2⟩ := rx
      cases ry
      refine .inr (.inr ⟨a, j, xs, rfl, rfl, sqT_mono hs.sub h1, ?_, of_decide_eq_true h.1.1.2, of_decide_eq_true h.1.2, ?_, fun p hp => ?_⟩)
      · intro e
        have := h2.length
        rw [e] at this
        exact of_decide_eq_true h.1.1.1 (List.eq_nil_of_length_eq_zero this.symm)
      · rw [h2.length]
        exact Nat.le_of_ble_eq_true h.2
      · exact out_tup hs hp q (h2.rep _)
    · cases ho
  · cases ho
theorem os_div : OpS C (rI CDivB fun i j => .int (i.fdiv j)) fDiv := by
  refine ⟨fun s x y t u o Q hs rx ry ho q => ?_⟩
  unfold fDiv at ho
  split at ho
  · split at ho
    · rename_i h
      cases ho
      cases rx; cases ry
      unfold divFits at h
      rw [Bool.and_eq_true] at h
      exact ⟨_, _, rfl, rfl, ⟨of_decide_eq_true h.1, Nat.lt_succ_of_le (Nat.le_of_ble_eq_true h.2)⟩, out_sh hs q rfl⟩
    · cases ho
  · cases ho
theorem os_mod : OpS C (rI (fun _ j => j ≠ 0) fun i j => .int (i.fmod j)) fMod := by
  refine ⟨fun s x y t u o Q hs rx ry ho q => ?_⟩
  unfold fMod at ho
  split at ho
  · split at ho
    · rename_i h
      cases ho
      cases rx; cases ry
      exact ⟨_, _, rfl, rfl, of_decide_eq_true h, out_sh hs q rfl⟩
    · cases ho
  · cases ho
end
section
variable {X : Cx} {C : VX} {W : WX} {a b : Expr} {da db : DE} {pos : Pos}
abbrev dAdd := dOp fAdd
abbrev dSub := dOp fSub
abbrev dMul := dOp fMul
abbrev dDiv := dOp fDiv
abbrev dMod := dOp fMod
theorem e_add (ha : PE X a (tD C W da)) (hb : PE X b (tD C W db)) (hK : C.K = X.K := by rfl) : PE X (.BinOp a .Add b pos) (tD C W (dAdd da db)) := e_op op_addV (os_add hK) ha hb
theorem e_sub (ha : PE X a (tD C W da)) (hb : PE X b (tD C W db)) : PE X (.BinOp a .Sub b pos) (tD C W (dSub da db)) := e_op op_sub os_sub ha hb
theorem e_mul (ha : PE X a (tD C W da)) (hb : PE X b (tD C W db)) (hK : C.K = X.K := by rfl) : PE X (.BinOp a .Mult b pos) (tD C W (dMul da db)) := e_op op_mulV (os_mul hK) ha hb
theorem e_div (ha : PE X a (tD C W da)) (hb : PE X b (tD C W db)) : PE X (.BinOp a .FloorDiv b pos) (tD C W (dDiv da db)) := e_op op_fdivB os_div ha hb
theorem e_mod (ha : PE X a (tD C W da)) (hb : PE X b (tD C W db)) : PE X (.BinOp a .Mod b pos) (tD C W (dMod da db)) := e_op op_modN os_mod ha hb
end

def dUn (f : T → Option Out) (da : DE) : DE := fun e => (da e).bind fun a e1 => Res.of (f a.t) e1
structure UnS (C : VX) (r : V → Hp → VK → Prop) (f : T → Option Out) : Prop where
  run : ∀ (s : S) (x : V) (t : T) (o : Out) (Q : VK), Sees C s → Rp C s.G t x → f t = some o →
    (∀ v H' G', Sees C ⟨s.e, s.σ, H', G'⟩ → Ext s ⟨s.e, s.σ, H', G'⟩ → OutOk C s ⟨s.e, s.σ, H', G'⟩ v o → Q v H') → r x s.H Q
def fNeg : T → Option Out
  | .int i => some (.sh (.int (-i)))
  | _ => none
abbrev dNeg := dUn fNeg
section
variable {X : Cx} {C : VX} {W : WX} {a : Expr} {da : DE} {f : T → Option Out} {r : V → Hp → VK → Prop} {pos : Pos}
theorem tUn_of (hf : UnS C r f) {σ : St} {H : Hp} {Q : VK} (h : tD C W (dUn f da) σ H Q) : tUn r (tD C W da) σ H Q := by
  obtain ⟨e, G, hs, h⟩ := h
  refine tD_T (s := ⟨e, σ, H, G⟩) hs ((SatE.bind h).mono fun x s1 hs1 x1 e1 h1 v rv => ?_)
  have hσ : s1.σ = σ := e1
  subst hσ
  obtain ⟨o, ho, k⟩ := SatE.of h1
  refine hf.run s1 v _ o Q hs1 rv ho fun u H' G' z1 z2 z3 => ?_
  exact k H' G' z1 z2 u (z3.base x1)
theorem os_neg : UnS C (rU fun i => .int (-i)) fNeg := by
  refine ⟨fun s x t o Q hs rx ho q => ?_⟩
  unfold fNeg at ho
  split at ho
  · cases ho
    cases rx
    exact ⟨_, rfl, out_sh hs q rfl⟩
  · cases ho
theorem e_neg (ha : PE X a (tD C W da)) : PE X (.UnaryOp .USub a pos) (tD C W (dNeg da)) := (pe_un un_neg ha).imp fun _ _ _ h => tUn_of os_neg h
end

mutual
def T.p : T → PyData
  | .non => .none
  | .bl b => .bool b
  | .int i => .int i
  | .str x => .str x
  | .tup ts => .tuple (T.ps ts)
  | .lst ts => .list (T.ps ts)
  | .sq ts => .list (T.ps ts)
  | .obj _ _ => .dict []
def T.ps : List T → List PyData
  | [] => []
  | t :: ts => t.p :: T.ps ts
end
mutual
theorem Rp.dp {C : VX} {G H : Hp} (g : ∀ a o, G a = some o → H a = some o) : ∀ (t : T) {v : V}, t.p.canLay0 = true → Rp C G t v → Dp C.K H v t.p
  | .non, _, _, h => by cases h; exact .non
  | .bl b, _, _, h => by cases h; exact .bl b
  | .int i, _, _, h => by cases h; exact .int i
  | .str x, _, _, h => by cases h; exact .str x
  | .tup ts, _, c, h => by
    obtain ⟨a, xs, rfl, h1, h2⟩ := h
    exact .tup (sqT_mono g h1) (Rps.dp g ts c h2)
  | .lst ts, _, c, h => by
    obtain ⟨a, xs, rfl, h1, h2⟩ := h
    exact .lst (.of (g _ _ h1)) (Rps.dp g ts c h2)
  | .sq ts, _, c, h => by
    obtain ⟨a, xs, rfl, h1, h2⟩ := h
    exact .lst (sqL_mono g h1) (Rps.dp g ts c h2)
  | .obj _ _, _, c, _ => nomatch (show false = true from c)
theorem Rps.dp {C : VX} {G H : Hp} (g : ∀ a o, G a = some o → H a = some o) : ∀ (ts : List T) {xs : List V}, PyData.canLayAll0 (T.ps ts) = true → Rps C G ts xs → DpAll C.K H xs (T.ps ts)
  | [], _, _, h => by cases h; exact .nil
  | t :: ts, _, c, h => by
    obtain ⟨x, r, rfl, h1, h2⟩ := h
    have c' : (t.p.canLay0 && PyData.canLayAll0 (T.ps ts)) = true := c
    rw [Bool.and_eq_true] at c'
    exact .cons (Rp.dp g t c'.1 h1) (Rps.dp g ts c'.2 h2)
end
def eqT (t u : T) : Option Bool := if SeqAt.shaped t.p && SeqAt.shaped u.p then some (PyData.eqv t.p u.p) else none
def fEq (t u : T) : Option Out := (eqT t u).map fun b => .sh (.bl b)
def fNe (t u : T) : Option Out := (eqT t u).map fun b => .sh (.bl (!b))
def ltT : T → T → Option Bool
  | .int i, .int j => some (decide (i < j))
  | .str x, .str y => some (decide (x.cps.toList < y.cps.toList))
  | _, _ => none
def fLt (t u : T) : Option Out := (ltT t u).map fun b => .sh (.bl b)
def fGt (t u : T) : Option Out := (ltT u t).map fun b => .sh (.bl b)
def isN (t : T) : Bool := match t with
  | .non => true
  | _ => false
def fIsN (t u : T) : Option Out := match u with
  | .non => some (.sh (.bl (isN t)))
  | .bl b => match t with
    | .bl a => some (.sh (.bl (decide (a = b))))
    | _ => none
  | _ => none
section
variable {C : VX}
theorem os_eq {K : PySem.W.Frag} (hK : C.K = K := by rfl) : OpS C (rEqD K) fEq := by
  subst hK
  refine ⟨fun s x y t u o Q hs rx ry ho q => ?_⟩
  unfold fEq eqT at ho
  split at ho
  · rename_i h
    rw [Bool.and_eq_true] at h
    cases ho
    exact ⟨_, _, rx.dp hs.sub t (SeqAt.canLay_of_shaped h.1), ry.dp hs.sub u (SeqAt.canLay_of_shaped h.2), h.1, h.2, out_sh hs q rfl⟩
  · cases ho
theorem os_ne {K : PySem.W.Frag} (hK : C.K = K := by rfl) : OpS C (rNeD K) fNe := by
  subst hK
  refine ⟨fun s x y t u o Q hs rx ry ho q => ?_⟩
  unfold fNe eqT at ho
  split at ho
  · rename_i h
    rw [Bool.and_eq_true] at h
    cases ho
    exact ⟨_, _, rx.dp hs.sub t (SeqAt.canLay_of_shaped h.1), ry.dp hs.sub u (SeqAt.canLay_of_shaped h.2), h.1, h.2, out_sh hs q rfl⟩
  · cases ho
def rLtV : R2 := fun x y H Q => rI0 (fun i j => .bl (decide (i < j))) x y H Q ∨ (∃ i j, x = .str i ∧ y = .str j ∧ Q (.bl (decide (i.cps.toList < j.cps.toList))) H)
def rGtV : R2 := fun x y H Q => rI0 (fun i j => .bl (decide (j < i))) x y H Q ∨ (∃ i j, x = .str i ∧ y = .str j ∧ Q (.bl (decide (j.cps.toList < i.cps.toList))) H)
theorem os_lt : OpS C rLtV fLt := by
  refine ⟨fun s x y t u o Q hs rx ry ho q => ?_⟩
  unfold fLt ltT at ho
  split at ho
  · cases ho; cases rx; cases ry
    exact .inl ⟨_, _, rfl, rfl, out_sh hs q rfl⟩
  · cases ho; cases rx; cases ry
    exact .inr ⟨_, _, rfl, rfl, out_sh hs q rfl⟩
  · cases ho
theorem os_gt : OpS C rGtV fGt := by
  refine ⟨fun s x y t u o Q hs rx ry ho q => ?_⟩
  unfold fGt ltT at ho
  split at ho
  · cases ho; cases rx; cases ry
    exact .inl ⟨_, _, rfl, rfl, out_sh hs q rfl⟩
  · cases ho; cases rx; cases ry
    exact .inr ⟨_, _, rfl, rfl, out_sh hs q rfl⟩
  · cases ho
theorem isN_of {G : Hp} {t : T} {v : V} (h : Rp C G t v) : decide (v = V.non) = isN t := by
  cases t with
  | non => cases h; rfl
  | bl b => cases h; rfl
  | int i => cases h; rfl
  | str x => cases h; rfl
  | tup ts => obtain ⟨a, xs, rfl, _⟩ := h; rfl
  | lst ts => obtain ⟨a, xs, rfl, _⟩ := h; rfl
  | sq ts => obtain ⟨a, xs, rfl, _⟩ := h; rfl
  | obj c ts => obtain ⟨a, dx, xs, rfl, _⟩ := h; rfl
def rIsV : R2 := fun x y H Q => (y = .non ∧ Q (.bl (decide (x = .non))) H) ∨ (∃ a b, x = .bl a ∧ y = .bl b ∧ Q (.bl (decide (a = b))) H)
theorem os_isN : OpS C rIsV fIsN := by
  refine ⟨fun s x y t u o Q hs rx ry ho q => ?_⟩
  unfold fIsN at ho
  split at ho
  · cases ho; cases ry
    refine .inl ⟨rfl, ?_⟩
    rw [isN_of rx]
    exact out_sh hs q rfl
  · split at ho
    · cases ho; cases rx; cases ry
      exact .inr ⟨_, _, rfl, rfl, out_sh hs q rfl⟩
    · cases ho
  · cases ho
end
section
variable {X : Cx} {C : VX} {W : WX} {a b : Expr} {da db : DE} {pos : Pos} {k : Nat}
theorem op_ltV : OpR X (compareOp .Lt) rLtV := op_lt.or op_lt_str
theorem op_gtV : OpR X (compareOp .Gt) rGtV := op_gt.or op_gt_str
theorem op_isV : OpR X (compareOp .Is) rIsV := op_isN.or op_is_bl
theorem e_eq (hr : Room k X.A) (ha : PE X a (tD C W da)) (hb : PE X b (tD C W db)) (hK : C.K = X.K := by rfl) : PE X (.Compare a [.Eq] [b] pos) (tD C W (dOp fEq da db)) := e_cmp (op_eqD hr.units) (os_eq hK) ha hb (nomark _)
theorem e_is (ha : PE X a (tD C W da)) (hb : PE X b (tD C W db)) : PE X (.Compare a [.Is] [b] pos) (tD C W (dOp fIsN da db)) := e_cmp op_isV os_isN ha hb (nomark _)
end
end L2.VD

namespace L2.VD
open PySem PySem.Spec PyProof.Rows

def truthT : T → Option Bool
  | .non => some false
  | .bl b => some b
  | .int i => some (i != 0)
  | .str x => if fits x.length then some ((x.length : Int) != 0) else none
  | .tup ts => some (!ts.isEmpty)
  | .lst ts => some (!ts.isEmpty)
  | .sq ts => some (!ts.isEmpty)
  | .obj _ _ => none
def asBl : T → Option Bool
  | .bl b => some b
  | _ => none
def dTru (da : DE) : DT := fun e => (da e).bind fun a e1 => Res.of (truthT a.t) e1
def dTst (da : DE) : DT := fun e => (da e).bind fun a e1 => Res.of (asBl a.t) e1
def dNot (d : DT) : DT := fun e => (d e).bind fun b e1 => .ok (!b) e1
def dAnd (d1 d2 : DT) : DT := fun e => (d1 e).bind fun b e1 => if b then d2 e1 else .ok false e1
def dOr (d1 d2 : DT) : DT := fun e => (d1 e).bind fun b e1 => if b then .ok true e1 else d2 e1
def dIf (c : DT) (da db : DE) : DE := fun e => (c e).bind fun b e1 => if b then da e1 else db e1
def dAndV (da db : DE) : DE := fun e => (da e).bind fun a e1 => (Res.of (truthT a.t) e1).bind fun b e2 => if b then db e2 else .ok (.sh a.t) e2
def dNotV (da : DE) : DE := fun e => (da e).bind fun a e1 => (Res.of (truthT a.t) e1).bind fun b e2 => .ok (.sh (.bl (!b))) e2
theorem Rps.isEmpty {C : VX} {G : Hp} {ts : List T} {xs : List V} (h : Rps C G ts xs) : xs.isEmpty = ts.isEmpty := by
  cases ts with
  | nil => cases h; rfl
  | cons t ts => obtain ⟨x, r, rfl, _⟩ := h; rfl
theorem truthT_of {C : VX} {G H : Hp} (g : ∀ a o, G a = some o → H a = some o) {t : T} {v : V} {b : Bool} (h : Rp C G t v) (e : truthT t = some b) : TruV C.K v H b := by
  cases t with
  | non => cases h; cases e; exact rfl
  | bl b => cases h; cases e; exact rfl
  | int i => cases h; cases e; exact rfl
  | str x =>
    cases h
    unfold truthT at e
    dsimp only at e
    split at e
    · cases e
      exact ⟨fits_le (by assumption), rfl⟩
    · cases e
  | tup ts =>
    obtain ⟨a, xs, rfl, h1, h2⟩ := h
    cases e
    exact .inr (.inl ⟨xs, sqT_mono g h1, by rw [h2.isEmpty]⟩)
  | lst ts =>
    obtain ⟨a, xs, rfl, h1, h2⟩ := h
    cases e
    exact .inl ⟨xs, .of (g _ _ h1), by rw [h2.isEmpty]⟩
  | sq ts =>
    obtain ⟨a, xs, rfl, h1, h2⟩ := h
    cases e
    exact .inl ⟨xs, sqL_mono g h1, by rw [h2.isEmpty]⟩
  | obj c ts => cases e
section
variable {X : Cx} {C : VX} {W : WX} {a b : Expr} {da db dc : DE} {d1 d2 : DT} {rest : List Expr} {pos : Pos}
theorem t_tru (ha : PE X a (tD C W da)) (he : ∀ whole, isTrue a X.env whole = (do let v ← whole; standAt a.pos; holding [v] (truthy v)) := by intro _; rfl) (hK : C.K = X.K := by rfl) : PT X a (tDT C W (dTru da)) := (pt_truth ha he).imp fun σ H Q ⟨e, G, hs, h⟩ => by
  refine tD_T (s := ⟨e, σ, H, G⟩) hs ((SatE.bind h).mono fun x s1 hs1 x1 e1 h1 v rv => ?_)
  obtain ⟨o, ho, k⟩ := SatE.of h1
  refine ⟨o, ?_, ?_⟩
  · rw [← hK]
    exact truthT_of hs1.sub rv ho
  · exact k s1.H s1.G hs1 (Ext.refl _)
theorem tTest_of {d : DE} {t : TE} {σ : St} {H : Hp} {Q : Bool → Hp → Prop} (i : ∀ Q, tD C W d σ H Q → t σ H Q) (h : tDT C W (dTst d) σ H Q) : tTest t σ H Q := by
  obtain ⟨e, G, hs, h⟩ := h
  refine i _ (tD_T (s := ⟨e, σ, H, G⟩) hs ((SatE.bind h).mono fun x s1 hs1 x1 e1 h1 v rv => ?_))
  obtain ⟨o, ho, k⟩ := SatE.of h1
  cases q : x.t with
  | bl b =>
    rw [q] at ho rv
    cases ho
    cases rv
    exact ⟨_, rfl, k s1.H s1.G hs1 (Ext.refl _)⟩
  | non => rw [q] at ho; cases ho
  | int i => rw [q] at ho; cases ho
  | str x => rw [q] at ho; cases ho
  | tup ts => rw [q] at ho; cases ho
  | lst ts => rw [q] at ho; cases ho
  | sq ts => rw [q] at ho; cases ho
  | obj c ts => rw [q] at ho; cases ho
theorem t_cmp {op : CmpOp} {r : R2} {f : T → T → Option Out} (ho : OpR X (compareOp op) r) (hf : OpS C r f) (ha : PE X a (tD C W da)) (hb : PE X b (tD C W db)) (hm : behindInMarks op b = false) : PT X (.Compare a [op] [b] pos) (tDT C W (dTst (dOp f da db))) := (pt_cmpR ho ha hb hm).imp fun _ _ _ h => tTest_of (fun _ z => tOp_of hf z) h
theorem t_not (ha : PT X a (tDT C W d1)) : PT X (.UnaryOp .Not a pos) (tDT C W (dNot d1)) := (pt_not ha).imp fun σ H Q ⟨e, G, hs, h⟩ => by
  refine tDT_I (s := ⟨e, σ, H, G⟩) hs ((SatE.bind h).mono fun x s1 hs1 x1 e1 h1 => ?_)
  exact h1 s1.H s1.G hs1 (Ext.refl _)
theorem tAnd_of {σ : St} {H : Hp} {Q : Bool → Hp → Prop} (h : tDT C W (dAnd d1 d2) σ H Q) : tAnd (tDT C W d1) (tDT C W d2) σ H Q := by
  obtain ⟨e, G, hs, h⟩ := h
  refine tDT_I (s := ⟨e, σ, H, G⟩) hs ((SatE.bind h).mono fun x s1 hs1 x1 e1 h1 => ?_)
  have hσ : s1.σ = σ := e1
  subst hσ
  cases x with
  | true => exact iteT (tDT_I hs1 h1)
  | false => exact iteF (h1 s1.H s1.G hs1 (Ext.refl _))
theorem tOr_of {σ : St} {H : Hp} {Q : Bool → Hp → Prop} (h : tDT C W (dOr d1 d2) σ H Q) : tOr (tDT C W d1) (tDT C W d2) σ H Q := by
  obtain ⟨e, G, hs, h⟩ := h
  refine tDT_I (s := ⟨e, σ, H, G⟩) hs ((SatE.bind h).mono fun x s1 hs1 x1 e1 h1 => ?_)
  have hσ : s1.σ = σ := e1
  subst hσ
  cases x with
  | true => exact iteT (h1 s1.H s1.G hs1 (Ext.refl _))
  | false => exact iteF (tDT_I hs1 h1)
theorem _root_.L2.PW.imp {X : Cx} {e : Expr} {t t' : TT} (h : PW X e t) (i : ∀ σ H Q, t' σ H Q → t σ H Q) : PW X e t' := ⟨fun w pins s σ H Q I q => h.run w pins s σ H Q I (i σ H Q q)⟩
theorem w_and1 (ha : PT X a (tDT C W d1)) : PW X (.BoolOp .And [a] pos) (tDT C W d1) := pw_and1 ha
theorem w_or1 (ha : PT X a (tDT C W d1)) : PW X (.BoolOp .Or [a] pos) (tDT C W d1) := pw_or1 ha
theorem w_and (ha : PT X a (tDT C W d1)) (hb : PW X (.BoolOp .And (b :: rest) pos) (tDT C W d2)) : PW X (.BoolOp .And (a :: b :: rest) pos) (tDT C W (dAnd d1 d2)) := (pw_and ha hb).imp fun _ _ _ h => tAnd_of h
theorem w_or (ha : PT X a (tDT C W d1)) (hb : PW X (.BoolOp .Or (b :: rest) pos) (tDT C W d2)) : PW X (.BoolOp .Or (a :: b :: rest) pos) (tDT C W (dOr d1 d2)) := (pw_or ha hb).imp fun _ _ _ h => tOr_of h
theorem e_ifExp {c : Expr} (hc : PT X c (tDT C W d1)) (ha : PE X a (tD C W da)) (hb : PE X b (tD C W db)) : PE X (.IfExp c a b pos) (tD C W (dIf d1 da db)) := (pe_ifExp hc ha hb).imp fun σ H Q ⟨e, G, hs, h⟩ => by
  refine tDT_I (s := ⟨e, σ, H, G⟩) hs ((SatE.bind h).mono fun x s1 hs1 x1 e1 h1 => ?_)
  have hσ : s1.σ = σ := e1
  subst hσ
  cases x with
  | true => exact iteT (tD_O hs1 (h1.mono fun o s2 _ _ _ z v ov => z v (ov.base x1)))
  | false => exact iteF (tD_O hs1 (h1.mono fun o s2 _ _ _ z v ov => z v (ov.base x1)))
theorem e_one {op} (h : PE X a (tD C W da)) : PE X (.BoolOp op [a] pos) (tD C W da) := pe_one h
theorem e_andV (ha : PE X a (tD C W da)) (hb : PE X (.BoolOp .And (b :: rest) pos) (tD C W db)) (hK : C.K = X.K := by rfl) : PE X (.BoolOp .And (a :: b :: rest) pos) (tD C W (dAndV da db)) := (pe_andT ha hb).imp fun σ H Q ⟨e, G, hs, h⟩ => by
  refine tD_T (s := ⟨e, σ, H, G⟩) hs ((SatE.bind h).mono fun x s1 hs1 x1 e1 h1 v rv => ?_)
  have hσ : s1.σ = σ := e1
  subst hσ
  obtain ⟨c, hc, k⟩ := SatE.of (SatE.bind h1)
  refine ⟨c, by rw [← hK]; exact truthT_of hs1.sub rv hc, ?_⟩
  have k := k s1.H s1.G hs1 (Ext.refl _)
  cases c with
  | true => exact iteT (tD_O hs1 (k.mono fun o s2 _ _ _ z v ov => z v (ov.base x1)))
  | false => exact iteF (k s1.H s1.G hs1 (Ext.refl _) v rv)
theorem e_notV (ha : PE X a (tD C W da)) (hK : C.K = X.K := by rfl) : PE X (.UnaryOp .Not a pos) (tD C W (dNotV da)) := (pe_notT ha).imp fun σ H Q ⟨e, G, hs, h⟩ => by
  refine tD_T (s := ⟨e, σ, H, G⟩) hs ((SatE.bind h).mono fun x s1 hs1 x1 e1 h1 v rv => ?_)
  have hσ : s1.σ = σ := e1
  subst hσ
  obtain ⟨c, hc, k⟩ := SatE.of (SatE.bind h1)
  refine ⟨c, by rw [← hK]; exact truthT_of hs1.sub rv hc, ?_⟩
  exact k s1.H s1.G hs1 (Ext.refl _) s1.H s1.G hs1 (Ext.refl _) _ rfl
end

def dNil : DA := fun e => .ok [] e
def dCons (da : DE) (dr : DA) : DA := fun e => (da e).bind fun a e1 => (dr e1).bind fun ts e2 => .ok (a.t :: ts) e2
def dTup (d : DA) : DE := fun e => (d e).bind fun ts e1 => if fits ts.length then .ok (.sh (.tup ts)) e1 else .bad
def dLst (d : DA) : DE := fun e => (d e).bind fun ts e1 => if fits ts.length then .ok (.fr ts) e1 else .bad
section
variable {X : Cx} {C : VX} {W : WX} {x : Expr} {es : List Expr} {da : DE} {dr : DA} {pos : Pos}
theorem a_nil : PA X [] (tDA C W dNil) := pa_nil.imp fun σ H Q ⟨e, G, hs, h⟩ => h H G hs (Ext.refl _) [] rfl
theorem a_cons (ha : PE X x (tD C W da)) (hr : PA X es (tDA C W dr)) (hst : starEach (x :: es) X.env = (false, eval x X.env) :: starEach es X.env := by rfl) : PA X (x :: es) (tDA C W (dCons da dr)) := (pa_cons ha hr hst).imp fun σ H Q ⟨e, G, hs, h⟩ => by
  refine tD_T (s := ⟨e, σ, H, G⟩) hs ((SatE.bind h).mono fun x s1 hs1 x1 e1 h1 v rv => ?_)
  have hσ : s1.σ = σ := e1
  subst hσ
  refine tDA_I hs1 ((SatE.bind h1).mono fun ts s2 hs2 x2 e2 h2 vs rvs => ?_)
  exact h2 s2.H s2.G hs2 (Ext.refl _) _ ⟨v, vs, rfl, rv.mono x2.g, rvs⟩
theorem e_tup {x1} (h : PA X es (tDA C W dr)) : PE X (.Tuple es x1 pos) (tD C W (dTup dr)) := (pe_tup h).imp fun σ H Q ⟨e, G, hs, h⟩ => by
  refine tDA_I (s := ⟨e, σ, H, G⟩) hs ((SatE.bind h).mono fun ts s1 hs1 x1 e1 h1 vs rvs => ?_)
  have hσ : s1.σ = σ := e1
  subst hσ
  split at h1
  · rename_i hz
    refine ⟨by rw [rvs.length]; exact fits_le hz, fun p hp => ?_⟩
    obtain ⟨z1, z2⟩ := hs1.newG hp (.tup vs)
    exact h1 _ _ z1 z2 _ ⟨p, vs, rfl, .inl (.inl upd_same), rvs.mono z2.g⟩
  · exact h1.elim
theorem e_lst (h : PA X es (tDA C W dr)) : PE X (.List es pos) (tD C W (dLst dr)) := (pe_lst h).imp fun σ H Q ⟨e, G, hs, h⟩ => by
  refine tDA_I (s := ⟨e, σ, H, G⟩) hs ((SatE.bind h).mono fun ts s1 hs1 x1 e1 h1 vs rvs => ?_)
  have hσ : s1.σ = σ := e1
  subst hσ
  split at h1
  · rename_i hz
    refine ⟨by rw [rvs.length]; exact fits_le hz, fun p hp => ?_⟩
    obtain ⟨z1, z2⟩ := hs1.newH hp (.lst vs)
    exact h1 _ _ z1 z2 _ ⟨p, vs, rfl, upd_same, (hs1.fresh hp _).base x1, rvs⟩
  · exact h1.elim
end

def fIdx : T → T → Option Out
  | .lst ts, .int i => (atI ts i).map .sh
  | .tup ts, .int i => (atI ts i).map .sh
  | .sq ts, .int i => (atI ts i).map .sh
  | .str x, .int i => if fits x.length then (atI x.cps.toList i).map fun c => .sh (.str ⟨#[c]⟩) else none
  | _, _ => none
section
variable {C : VX}
theorem Rps.atI {G : Hp} {ts : List T} {xs : List V} {i : Int} {t : T} (h : Rps C G ts xs) (e : L2.atI ts i = some t) : ∃ v, L2.atI xs i = some v ∧ Rp C G t v := by
  unfold L2.atI at e ⊢
  rw [h.length]
  cases q : ixN ts.length i with
  | none => rw [q] at e; cases e
  | some j =>
    rw [q] at e
    exact h.get e
theorem os_idx {K : PySem.W.Frag} (hK : C.K = K := by rfl) : OpS C (rIx K) fIdx := by
  subst hK
  refine ⟨fun s x y t u o Q hs rx ry ho q => ?_⟩
  unfold fIdx at ho
  split at ho
  · rename_i ts i
    obtain ⟨a, xs, rfl, h1, h2⟩ := rx
    cases ry
    cases z : L2.atI ts i with
    | none => rw [z] at ho; cases ho
    | some t =>
      rw [z] at ho
      cases ho
      obtain ⟨v, e1, e2⟩ := h2.atI z
      exact .inl ⟨a, xs, i, v, rfl, rfl, .of (hs.sub _ _ h1), e1, out_sh hs q e2⟩
  · rename_i ts i
    obtain ⟨a, xs, rfl, h1, h2⟩ := rx
    cases ry
    cases z : L2.atI ts i with
    | none => rw [z] at ho; cases ho
    | some t =>
      rw [z] at ho
      cases ho
      obtain ⟨v, e1, e2⟩ := h2.atI z
      exact .inr (.inl ⟨a, xs, i, v, rfl, rfl, sqT_mono hs.sub h1, e1, out_sh hs q e2⟩)
  · rename_i ts i
    obtain ⟨a, xs, rfl, h1, h2⟩ := rx
    cases ry
    cases z : L2.atI ts i with
    | none => rw [z] at ho; cases ho
    | some t =>
      rw [z] at ho
      cases ho
      obtain ⟨v, e1, e2⟩ := h2.atI z
      exact .inl ⟨a, xs, i, v, rfl, rfl, sqL_mono hs.sub h1, e1, out_sh hs q e2⟩
  · rename_i z i
    split at ho
    · rename_i hz
      cases rx
      cases ry
      cases e : L2.atI z.cps.toList i with
      | none => rw [e] at ho; cases ho
      | some c =>
        rw [e] at ho
        cases ho
        exact .inr (.inr ⟨z, i, c, rfl, rfl, fits_le hz, e, out_sh hs q rfl⟩)
    · cases ho
  · cases ho
end
abbrev dIdx := dOp fIdx
theorem fIdx_lst {ts : List T} {u : T} {o : Out} (h : fIdx (.lst ts) u = some o) : ∃ i t, u = .int i ∧ atI ts i = some t ∧ o = .sh t := by
  cases u with
  | int i =>
    have h' : (atI ts i).map Out.sh = some o := h
    cases z : atI ts i with
    | none => rw [z] at h'; cases h'
    | some t =>
      rw [z] at h'
      cases h'
      exact ⟨i, t, rfl, z, rfl⟩
  | non => cases h
  | bl b => cases h
  | str x => cases h
  | tup ts => cases h
  | lst ts => cases h
  | sq ts => cases h
  | obj c ts => cases h
def dIdxN (i : Nat) (db : DE) : DE := fun e => match e[i]? with
  | some (.sh t) => (db e).bind fun b e1 => Res.of (fIdx t b.t) e1
  | some (.ol _ _) => (db e).bind fun b e1 => match e1[i]? with
    | some (.ol _ ts) => Res.of (fIdx (.lst ts) b.t) e1
    | _ => .bad
  | _ => .bad
section
variable {X : Cx} {C : VX} {W : WX} {a b : Expr} {da db : DE} {pos p2 : Pos}
theorem e_idx (ha : PE X a (tD C W da)) (hb : PE X b (tD C W db)) (hs : PlainIx b := by intro _ _; rfl) (hK : C.K = X.K := by rfl) : PE X (.Subscript a b pos) (tD C W (dIdx da db)) := (pe_ix ix_seq ha hb hs).imp fun _ _ _ h => tOp_of (os_idx hK) h
theorem e_idxN (i : Nat) {x : Str} {npos : Pos} (hb : PE X b (tD C W db)) (hp : PlainIx b := by intro _ _; rfl) (hN : X.N[i]? = some x := by rfl) (hv : Vis X.env.scope x := by first | exact Or.inl rfl | exact Or.inr (Or.inl rfl) | exact Or.inr (Or.inr rfl)) (hd : (x == ("__debug__" : Str)) = false := by decide)
    (hcd : (x == ("__classdict__" : Str)) = false := by decide) (hK : C.K = X.K := by rfl) : PE X (.Subscript (.Name x npos) b pos) (tD C W (dIdxN i db)) := (pe_ix ix_seq (pv i hN hv hd hcd) hb hp).imp fun σ H Q ⟨e, G, hs, h⟩ => by
  unfold dIdxN at h
  split at h
  · rename_i t ht
    obtain ⟨v, e1, rv⟩ := hs.at_ i _ ht
    refine ⟨v, e1, tD_T (s := ⟨e, σ, H, G⟩) hs ((SatE.bind h).mono fun y s1 hs1 x1 e1 h1 w rw' => ?_)⟩
    obtain ⟨o, ho, k⟩ := SatE.of h1
    exact (os_idx hK).run s1 v w _ _ o Q hs1 (rv.mono x1.g) rw' ho fun u H' G' z1 z2 z3 => k H' G' z1 z2 u (z3.base x1)
  · rename_i p ts ht
    obtain ⟨a, xs, e1, h1, h2⟩ := hs.at_ i _ ht
    refine ⟨.ref a, e1, tD_T (s := ⟨e, σ, H, G⟩) hs ((SatE.bind h).mono fun y s1 hs1 x1 e2 h3 w rw' => ?_)⟩
    split at h3
    · rename_i p' ts' ht'
      obtain ⟨a', xs', e3, h4, h5⟩ := hs1.at_ i _ ht'
      rw [show s1.σ = σ from e2, show σ[i]? = some (some (V.ref a)) from e1] at e3
      cases e3
      obtain ⟨o, ho, k⟩ := SatE.of h3
      obtain ⟨j, t, hj, z, rfl⟩ := fIdx_lst ho
      rw [hj] at rw'
      cases rw'
      obtain ⟨v, y1, y2⟩ := h5.atI z
      exact .inl ⟨a, xs', j, v, rfl, rfl, .of h4, y1, k s1.H s1.G hs1 (Ext.refl _) v y2⟩
    · exact h3.elim
  · exact h.elim
end

abbrev DO := List Slot → Res (Option Int)
def tDO (C : VX) (W : WX) (d : DO) : TO := fun σ H Q => ∃ e G, Sees C ⟨e, σ, H, G⟩ ∧ SatE C W ⟨e, σ, H, G⟩ (d e) fun o s' => Q o s'.H
def dNoPart : DO := fun e => .ok none e
def asInt : T → Option Int
  | .int i => some i
  | _ => none
def dPart (da : DE) : DO := fun e => (da e).bind fun a e1 => (Res.of (asInt a.t) e1).bind fun i e2 => .ok (some i) e2
def cutT (xs : List T) (lo hi : Option Int) : List T := (xs.drop (HT.sIx xs.length 0 lo)).take (HT.sIx xs.length xs.length hi - HT.sIx xs.length 0 lo)
def fSl (t : T) (lo hi : Option Int) : Option Out := match t with
  | .lst ts => some (.fr (cutT ts lo hi))
  | .sq ts => some (.fr (cutT ts lo hi))
  | .tup ts => some (.sh (.tup (cutT ts lo hi)))
  | .str x => if fits x.length then some (.sh (.str (cutS x lo hi))) else none
  | _ => none
def dSl (da : DE) (dl du : DO) : DE := fun e => (da e).bind fun a e1 => (dl e1).bind fun l e2 => (du e2).bind fun u e3 => Res.of (fSl a.t l u) e3
theorem Rps.cut {C : VX} {G : Hp} {ts : List T} {xs : List V} (h : Rps C G ts xs) (lo hi : Option Int) : Rps C G (cutT ts lo hi) (cutV xs lo hi) := by
  unfold cutT cutV
  rw [h.length]
  exact (h.drop _).take _
theorem sIx_whole {n : Nat} {lo hi : Option Int} (h1 : HT.sIx n 0 lo = 0) (h2 : HT.sIx n n hi = n) {α : Type} {xs : List α} (hn : xs.length = n) : (xs.drop (HT.sIx n 0 lo)).take (HT.sIx n n hi - HT.sIx n 0 lo) = xs := by
  rw [h1, h2]
  subst hn
  simp
section
variable {X : Cx} {C : VX} {W : WX} {a b : Expr} {da db : DE} {dl du : DO} {pos p2 : Pos}
theorem o_none : PO X none (tDO C W dNoPart) := ⟨fun pins s σ H Q I ⟨e, G, hs, h⟩ => po_none.run pins s σ H Q I (h H G hs (Ext.refl _))⟩
theorem o_some (h : PE X a (tD C W da)) : PO X (some a) (tDO C W (dPart da)) := ⟨fun pins s σ H Q I ⟨e, G, hs, h'⟩ => (po_some h).run pins s σ H Q I (by
  refine tD_T (s := ⟨e, σ, H, G⟩) hs ((SatE.bind h').mono fun x s1 hs1 x1 e1 h1 v rv => ?_)
  obtain ⟨i, hi, k⟩ := SatE.of (SatE.bind h1)
  cases q : x.t with
  | int j =>
    rw [q] at hi rv
    cases hi
    cases rv
    exact ⟨_, rfl, k s1.H s1.G hs1 (Ext.refl _) s1.H s1.G hs1 (Ext.refl _)⟩
  | non => rw [q] at hi; cases hi
  | bl b => rw [q] at hi; cases hi
  | str x => rw [q] at hi; cases hi
  | tup ts => rw [q] at hi; cases hi
  | lst ts => rw [q] at hi; cases hi
  | sq ts => rw [q] at hi; cases hi
  | obj c ts => rw [q] at hi; cases hi)⟩
def rSlV (K : PySem.W.Frag) : V → Option Int → Option Int → Hp → VK → Prop := fun x lo hi H Q => rSlL K x lo hi H Q ∨ rSlA K x lo hi H Q ∨ rSlS x lo hi H Q
theorem sl_V : SlR X (rSlV X.K) := sl_list.or (sl_tupA.or sl_str)
theorem e_sl (ha : PE X a (tD C W da)) {lo hi : Option Expr} (hl : PO X lo (tDO C W dl)) (hu : PO X hi (tDO C W du)) (hK : C.K = X.K := by rfl) : PE X (.Subscript a (.Slice lo hi none p2) pos) (tD C W (dSl da dl du)) := (pe_slice sl_V ha hl hu).imp fun σ H Q ⟨e, G, hs, h⟩ => by
  refine tD_T (s := ⟨e, σ, H, G⟩) hs ((SatE.bind h).mono fun x s1 hs1 x1 e1 h1 v rv => ?_)
  have hσ : s1.σ = σ := e1
  subst hσ
  refine ⟨s1.e, s1.G, hs1, (SatE.bind h1).mono fun l s2 hs2 x2 e2 h2 => ?_⟩
  have hσ : s2.σ = s1.σ := e2
  rw [← hσ]
  refine ⟨s2.e, s2.G, hs2, (SatE.bind h2).mono fun u s3 hs3 x3 e3 h3 => ?_⟩
  obtain ⟨o, ho, k⟩ := SatE.of h3
  have rv3 := (rv.mono x2.g).mono x3.g
  have x13 : Ext ⟨e, s1.σ, H, G⟩ s3 := x1.trans (x2.trans x3)
  rw [← hK]
  unfold fSl at ho
  split at ho
  · rename_i ts q
    rw [q] at rv3
    cases ho
    obtain ⟨a, xs, rfl, h4, h5⟩ := rv3
    exact .inl ⟨a, xs, rfl, .of (hs3.sub _ _ h4), fun p hp => out_lst hs3 hp (fun v H' G' z1 z2 z3 => k H' G' z1 z2 v (z3.base x13)) (h5.cut _ _)⟩
  · rename_i ts q
    rw [q] at rv3
    cases ho
    obtain ⟨a, xs, rfl, h4, h5⟩ := rv3
    exact .inl ⟨a, xs, rfl, sqL_mono hs3.sub h4, fun p hp => out_lst hs3 hp (fun v H' G' z1 z2 z3 => k H' G' z1 z2 v (z3.base x13)) (h5.cut _ _)⟩
  · rename_i ts q
    rw [q] at rv3
    cases ho
    obtain ⟨a, xs, rfl, h4, h5⟩ := rv3
    refine .inr (.inl ⟨a, xs, rfl, sqT_mono hs3.sub h4, fun hw => ?_, fun _ p hp => out_tup hs3 hp (fun v H' G' z1 z2 z3 => k H' G' z1 z2 v (z3.base x13)) (h5.cut _ _)⟩)
    refine k s3.H s3.G hs3 (Ext.refl _) _ ⟨a, xs, rfl, h4, ?_⟩
    have e6 : cutT ts l u = ts := by
      unfold cutT
      rw [← h5.length]
      exact sIx_whole hw.1 hw.2 h5.length.symm
    rw [e6]
    exact h5
  · rename_i z q
    rw [q] at rv3
    cases rv3
    split at ho
    · cases ho
      exact .inr (.inr ⟨z, rfl, fits_le (by assumption), k s3.H s3.G hs3 (Ext.refl _) _ rfl⟩)
    · cases ho
  · cases ho
end
end L2.VD

namespace L2.VD
open PySem PySem.Spec PyProof.Rows

def Out.slot : Out → Slot
  | .sh t => .sh t
  | .fr ts => .ol false ts
  | .frr tss => .oll tss
  | .ft tss => .sh (.tup (tss.map T.lst))
def setSlot (i : Nat) (sl : Slot) (e : List Slot) : Res Fl := match e[i]? with
  | none => .bad
  | some s0 => match s0.pk with
    | none => .ok .nx (e.set i sl)
    | some _ => .bad
theorem setSlot_ok {i : Nat} {sl : Slot} {e e' : List Slot} {f : Fl} (h : setSlot i sl e = .ok f e') : f = .nx ∧ e' = e.set i sl ∧ (∃ s0, e[i]? = some s0 ∧ s0.pk = none) := by
  unfold setSlot at h
  split at h
  · cases h
  · rename_i s0 hs
    split at h
    · rename_i hn
      cases h
      exact ⟨rfl, rfl, s0, hs, hn⟩
    · cases h

section
variable {C : VX} {s s0 : S}
theorem Sees.storeG (hs : Sees C s) (x : Ext s0 s) {v : V} {i : Nat} {sl slN : Slot} (hi : s.e[i]? = some sl) (hp : sl.pk = none) (new : ∀ a, ownsV s.H v slN a → Fresh s0 s a) (slot : SlotOk C s.G s.H (some (some v)) slN) :
    Sees C ⟨s.e.set i slN, s.σ.set i (some v), s.H, s.G⟩ ∧ Ext s0 ⟨s.e.set i slN, s.σ.set i (some v), s.H, s.G⟩ := by
  have hie : i < s.e.length := (List.getElem?_eq_some_iff.mp hi).1
  have hiσ : i < s.σ.length := by rw [← hs.len]; exact hie
  have hi' : (s.σ.set i (some v))[i]? = some (some v) := List.getElem?_set_self hiσ
  have back : ∀ j a, Owns ⟨s.e.set i slN, s.σ.set i (some v), s.H, s.G⟩ j a → (j = i ∧ Fresh s0 s a) ∨ (j ≠ i ∧ Owns s j a) := by
    rintro j a ⟨sl', w, h1, h2, h3⟩
    rcases get_set h1 with ⟨rfl, rfl, _⟩ | ⟨hj, h1⟩
    · have h2' : (s.σ.set j (some v))[j]? = some (some w) := h2
      rw [hi'] at h2'
      cases h2'
      exact .inl ⟨rfl, new a h3⟩
    · have h2' : (s.σ.set i (some v))[j]? = some (some w) := h2
      rw [List.getElem?_set_ne (Ne.symm hj)] at h2'
      exact .inr ⟨hj, sl', w, h1, h2', h3⟩
  constructor
  · refine ⟨hs.sub, by show (s.e.set i _).length = (s.σ.set i _).length; rw [List.length_set, List.length_set]; exact hs.len, fun j sl' h1 => ?_, fun j a h => ?_, fun j k a h1 h2 => ?_⟩
    · show SlotOk C s.G s.H (s.σ.set i (some v))[j]? sl'
      rcases get_set h1 with ⟨rfl, rfl, _⟩ | ⟨hj, h1⟩
      · rw [hi']; exact slot
      · rw [List.getElem?_set_ne (Ne.symm hj)]
        exact hs.at_ j sl' h1
    · rcases back j a h with ⟨_, f⟩ | ⟨_, h⟩
      · exact f.g
      · exact hs.own j a h
    · rcases back j a h1 with ⟨rfl, f⟩ | ⟨hj, h1⟩
      · rcases back k a h2 with ⟨rfl, _⟩ | ⟨hk, h2⟩
        · rfl
        · exact absurd h2 (f.no k)
      · rcases back k a h2 with ⟨_, f⟩ | ⟨hk, h2⟩
        · exact absurd h1 (f.no j)
        · exact hs.inj j k a h1 h2
  · refine ⟨x.g, x.keep, x.gnew, fun j a h => ?_, fun j kk h => ?_⟩
    · rcases back j a h with ⟨_, f⟩ | ⟨_, h⟩
      · exact f.new
      · exact x.own j a h
    · obtain ⟨e1, h1⟩ := x.pin j kk h
      have hj : j ≠ i := fun q => by
        subst q
        rw [hi] at h1
        exact nomatch (show (none : Option Nat) = some kk from hp ▸ h1)
      refine ⟨?_, ?_⟩
      · show (s.σ.set i (some v))[j]? = _
        rw [List.getElem?_set_ne (Ne.symm hj)]
        exact e1
      · show ((s.e.set i _)[j]?).bind Slot.pk = _
        rw [List.getElem?_set_ne (Ne.symm hj)]
        exact h1
theorem Sees.store (hs : Sees C s) (x : Ext s0 s) {v : V} {o : Out} (ov : OutOk C s0 s v o) (hft : ∀ tss, o ≠ .ft tss) {i : Nat} {sl : Slot} (hi : s.e[i]? = some sl) (hp : sl.pk = none) :
    Sees C ⟨s.e.set i o.slot, s.σ.set i (some v), s.H, s.G⟩ ∧ Ext s0 ⟨s.e.set i o.slot, s.σ.set i (some v), s.H, s.G⟩ := by
  have new : ∀ a, ownsV s.H v o.slot a → Fresh s0 s a := by
    intro a h
    cases o with
    | sh t => exact h.elim
    | fr ts =>
      obtain ⟨b, xs, rfl, h1, f, _⟩ := ov
      cases (show V.ref b = V.ref a from h)
      exact f
    | frr tss =>
      obtain ⟨b, xs, rfl, h1, f, h2, h3, h4, h5⟩ := ov
      rcases h with h | ⟨c, ys, h, h6, h7⟩
      · cases h; exact f
      · cases h
        rw [h1] at h6
        cases h6
        exact h5 a h7
    | ft tss => exact absurd rfl (hft tss)
  have slot : SlotOk C s.G s.H (some (some v)) o.slot := by
    cases o with
    | sh t => exact ⟨v, rfl, ov⟩
    | fr ts =>
      obtain ⟨b, xs, rfl, h1, f, h2⟩ := ov
      exact ⟨b, xs, rfl, h1, h2⟩
    | frr tss =>
      obtain ⟨b, xs, rfl, h1, f, h2, h3, h4, h5⟩ := ov
      exact ⟨b, xs, rfl, h1, h2, h3, h4⟩
    | ft tss => exact absurd rfl (hft tss)
  exact hs.storeG x hi hp new slot
theorem Sees.store' (hs : Sees C s) (x : Ext s0 s) {v : V} {o : Out} (ov : OutOk C s0 s v o) {i : Nat} {sl : Slot} (hi : s.e[i]? = some sl) (hp : sl.pk = none) :
    ∃ G', Sees C ⟨s.e.set i o.slot, s.σ.set i (some v), s.H, G'⟩ ∧ Ext s0 ⟨s.e.set i o.slot, s.σ.set i (some v), s.H, G'⟩ := by
  by_cases hft : ∃ tss, o = .ft tss
  · obtain ⟨tss, rfl⟩ := hft
    obtain ⟨G', z1, z2, z3, z4⟩ := ov.freeze hs x
    exact ⟨G', z1.store z2 (o := .sh (.tup (tss.map T.lst))) z4 (fun _ e => nomatch e) hi hp⟩
  · exact ⟨s.G, hs.store x ov (fun tss e => hft ⟨tss, e⟩) hi hp⟩
end

def dNx : DS := fun e => .ok .nx e
def dSeq (d1 d2 : DS) : DS := fun e => (d1 e).bind fun f e1 => match f with
  | .nx => d2 e1
  | .bk => .ok .bk e1
  | .ct => .ok .ct e1
  | .rt o => .ok (.rt o) e1
def dRet (da : DE) : DS := fun e => (da e).bind fun o e1 => .ok (.rt o) e1
def dDrop (da : DE) : DS := fun e => (da e).bind fun _ e1 => .ok .nx e1
def dIfS (c : DT) (d1 d2 : DS) : DS := fun e => (c e).bind fun b e1 => if b then d1 e1 else d2 e1
def dSet (i : Nat) (da : DE) : DS := fun e => (da e).bind fun o e1 => setSlot i o.slot e1
section
variable {X : Cx} {C : VX} {W : WX} {st : Stmt} {rest : List Stmt} {d1 d2 : DS} {a b : Expr} {da db : DE} {c : DT} {pos : Pos}
theorem s_nil : PSs X [] (tDS C W dNx) := pss_nil.imp fun D σ H ⟨e, G, hs, h⟩ => h σ H G hs (Ext.refl _)
theorem tSeq_of {D : Ends} {σ : St} {H : Hp} (h : tDS C W (dSeq d1 d2) D σ H) : tSeq (tDS C W d1) (tDS C W d2) D σ H := by
  obtain ⟨e, G, hs, h⟩ := h
  refine ⟨e, G, hs, ?_⟩
  unfold dSeq at h
  cases q : d1 e with
  | bad => rw [q] at h; exact h
  | ex x e1 => rw [q] at h; exact h
  | ok f e1 =>
    rw [q] at h
    intro σ' H' G' h1 h2
    cases f with
    | nx =>
      have h' : SatS C W ⟨e, σ, H, G⟩ (d2 e1) D := h
      exact ⟨e1, G', h1, h'.rebase h2⟩
    | bk => exact h σ' H' G' h1 h2
    | ct => exact h σ' H' G' h1 h2
    | rt o => exact h σ' H' G' h1 h2
theorem s_cons (h1 : PS X st (tDS C W d1)) (h2 : PSs X rest (tDS C W d2)) : PSs X (st :: rest) (tDS C W (dSeq d1 d2)) := (pss_cons h1 h2).imp fun _ _ _ h => tSeq_of h
theorem s_one (h1 : PS X st (tDS C W d1)) : PSs X [st] (tDS C W d1) := pss_one h1
theorem s_ret (he : PE X a (tD C W da)) : PS X (.Return (some a) pos) (tDS C W (dRet da)) := (ps_ret he).imp fun D σ H ⟨e, G, hs, h⟩ => by
  refine ⟨e, G, hs, ?_⟩
  unfold dRet at h
  cases q : da e with
  | bad => rw [q] at h; exact h
  | ex y e1 => rw [q] at h; exact fun cls d H' G' z1 z2 z3 => h cls d σ H' G' z1 z2 z3
  | ok o e1 => rw [q] at h; exact fun H' G' z1 z2 v ov => h σ H' G' z1 z2 v ov
theorem s_expr (he : PE X a (tD C W da)) (hs : swapsWith a none pos.line X.env = pure false := by rfl) : PS X (.Expr a pos) (tDS C W (dDrop da)) := (ps_expr he hs).imp fun D σ H ⟨e, G, hs, h⟩ => by
  refine ⟨e, G, hs, ?_⟩
  unfold dDrop at h
  cases q : da e with
  | bad => rw [q] at h; exact h
  | ex y e1 => rw [q] at h; exact fun cls d H' G' z1 z2 z3 => h cls d σ H' G' z1 z2 z3
  | ok o e1 => rw [q] at h; exact fun H' G' z1 z2 v ov => h σ H' G' z1 z2
theorem s_if {x : Expr} {l1 l2 : List Stmt} (hc : PT X x (tDT C W c)) (h1 : PSs X l1 (tDS C W d1)) (h2 : PSs X l2 (tDS C W d2)) : PS X (.If x l1 l2 pos) (tDS C W (dIfS c d1 d2)) := (ps_if hc h1 h2).imp fun D σ H ⟨e, G, hs, h⟩ => by
  refine tDT_I (s := ⟨e, σ, H, G⟩) hs ((SatS.bind h).mono fun b s1 hs1 x1 e1 k => ?_)
  have hσ : s1.σ = σ := e1
  subst hσ
  cases b with
  | true => exact iteT (tDS_I hs1 k)
  | false => exact iteF (tDS_I hs1 k)
theorem set_of {D : Ends} {s s' : S} {v : V} {o : Out} {i : Nat} {e1 : List Slot} (z1 : Sees C s') (z2 : Ext s s') (ov : OutOk C s s' v o) (h : SatS C W s (setSlot i o.slot s'.e) D) : D.nx (s'.σ.set i (some v)) s'.H := by
  cases q : setSlot i o.slot s'.e with
  | bad => rw [q] at h; exact h.elim
  | ex y e2 =>
    unfold setSlot at q
    split at q
    · cases q
    · split at q <;> cases q
  | ok f e2 =>
    rw [q] at h
    obtain ⟨rfl, rfl, s0, hi, hp⟩ := setSlot_ok q
    obtain ⟨G', y1, y2⟩ := z1.store' z2 ov hi hp
    exact h _ _ _ y1 y2
theorem s_set (i : Nat) {x : Str} {pos' : Pos} (hN : X.N.Nodup) (he : PE X a (tD C W da)) (hi : X.N[i]? = some x := by rfl) (hx : Loc X.env.scope x := by first | exact .inl rfl | exact .inr rfl)
    (hs : swapsWith a (some (.Name x pos')) pos.line X.env = pure false := by rfl) (hf : X.fn x = true ∨ X.env.scope.names.lookup x = some .local := by first | exact .inl rfl | exact .inr rfl | assumption) :
    PS X (.Assign [.Name x pos'] a pos) (tDS C W (dSet i da)) := (ps_set hN hi hx he hs hf).imp fun D σ H ⟨e, G, hs, h⟩ => by
  refine ⟨e, G, hs, ?_⟩
  unfold dSet at h
  cases q : da e with
  | bad => rw [q] at h; exact h
  | ex y e1 => rw [q] at h; exact fun cls d H' G' z1 z2 z3 => h cls d σ H' G' z1 z2 z3
  | ok o e1 => rw [q] at h; exact fun H' G' z1 z2 v ov => set_of (e1 := e1) z1 z2 ov h
end
end L2.VD

namespace L2.VD
open PySem PySem.Spec PyProof.Rows

abbrev DG := T → List Slot → Res Fl
abbrev DGs := List T → List Slot → Res Fl
def Stay (ns : List Nat) (σ σ' : St) : Prop := σ'.length = σ.length ∧ ∀ j, j ∉ ns → σ'[j]? = σ[j]?
def SatG (C : VX) (W : WX) (ns : List Nat) (s : S) (r : Res Fl) (Q : St → Hp → Prop) : Prop := match r with
  | .ok .nx e' => ∀ σ' H' G', Sees C ⟨e', σ', H', G'⟩ → Ext s ⟨e', σ', H', G'⟩ → Stay ns s.σ σ' → Q σ' H'
  | .ok .bk _ => False
  | .ok .ct _ => False
  | .ok (.rt _) _ => False
  | .ex x e' => ∀ cls d σ' H' G', Sees C ⟨e', σ', H', G'⟩ → Ext s ⟨e', σ', H', G'⟩ → XOk C ⟨e', σ', H', G'⟩ cls d x → W cls d σ' H'
  | .bad => False
def tDG (C : VX) (W : WX) (ns : List Nat) (g : DG) : TG := fun v σ H Q => ∃ e G t, Sees C ⟨e, σ, H, G⟩ ∧ Rp C G t v ∧ SatG C W ns ⟨e, σ, H, G⟩ (g t e) Q
def tDGs (C : VX) (W : WX) (ns : List Nat) (g : DGs) : TGs := fun vs σ H Q => ∃ e G ts, Sees C ⟨e, σ, H, G⟩ ∧ Rps C G ts vs ∧ SatG C W ns ⟨e, σ, H, G⟩ (g ts e) Q
def onNx (r : Res Fl) (k : List Slot → Res Fl) : Res Fl := match r with
  | .ok .nx e => k e
  | .ok .bk _ => .bad
  | .ok .ct _ => .bad
  | .ok (.rt _) _ => .bad
  | .ex x e => .ex x e
  | .bad => .bad
def gN (i : Nat) : DG := fun t e => setSlot i (.sh t) e
def gsNil : DGs := fun ts e => match ts with
  | [] => .ok .nx e
  | _ :: _ => .bad
def gsCons (g : DG) (gr : DGs) : DGs := fun ts e => match ts with
  | [] => .bad
  | t :: ts => onNx (g t e) fun e1 => gr ts e1
def gT (n : Nat) (gs : DGs) : DG := fun t e => match t with
  | .tup ts => if Nat.beq ts.length n then gs ts e else .bad
  | _ => .bad
section
variable {X : Cx} {C : VX} {W : WX} {s : S} {tg a : Expr} {es : List Expr} {g : DG} {gs : DGs} {da : DE} {pos : Pos} {ns ms : List Nat}
theorem Stay.refl (σ : St) : Stay ns σ σ := ⟨rfl, fun _ _ => rfl⟩
theorem Stay.trans {σ σ1 σ2 : St} (a : Stay ns σ σ1) (b : Stay ms σ1 σ2) : Stay (ns ++ ms) σ σ2 := ⟨b.1.trans a.1, fun j hj => (b.2 j fun h => hj (List.mem_append_right _ h)).trans (a.2 j fun h => hj (List.mem_append_left _ h))⟩
theorem SatS.onNx {r : Res Fl} {k : List Slot → Res Fl} {D : Ends} (h : SatS C W s (onNx r k) D) : SatG C W ns s r fun σ' H' => ∃ e' G', Sees C ⟨e', σ', H', G'⟩ ∧ Ext s ⟨e', σ', H', G'⟩ ∧ SatS C W s (k e') D := by
  cases r with
  | bad => exact h
  | ex x e => exact h
  | ok f e =>
    cases f with
    | nx => exact fun σ' H' G' z1 z2 _ => ⟨e, G', z1, z2, h⟩
    | bk => exact h.elim
    | ct => exact h.elim
    | rt o => exact h.elim
theorem SatG.onNx {r : Res Fl} {k : List Slot → Res Fl} {Q : St → Hp → Prop} (h : SatG C W (ns ++ ms) s (onNx r k) Q) : SatG C W ns s r fun σ' H' => ∃ e' G', Sees C ⟨e', σ', H', G'⟩ ∧ Ext s ⟨e', σ', H', G'⟩ ∧ SatG C W ms ⟨e', σ', H', G'⟩ (k e') Q := by
  cases r with
  | bad => exact h
  | ex x e => exact h
  | ok f e =>
    cases f with
    | bk => exact h.elim
    | ct => exact h.elim
    | rt o => exact h.elim
    | nx =>
      have h : SatG C W (ns ++ ms) s (k e) Q := h
      intro σ' H' G' z1 z2 z3
      refine ⟨e, G', z1, z2, ?_⟩
      cases q : k e with
      | bad => rw [q] at h; exact h
      | ex x e2 => rw [q] at h; exact fun cls d σ2 H2 G2 y1 y2 y3 => h cls d σ2 H2 G2 y1 (z2.trans y2) y3
      | ok f e2 =>
        rw [q] at h
        cases f with
        | bk => exact h.elim
        | ct => exact h.elim
        | rt o => exact h.elim
        | nx => exact fun σ2 H2 G2 y1 y2 y3 => h σ2 H2 G2 y1 (z2.trans y2) (z3.trans y3)
theorem SatG.mono {r : Res Fl} {Q Q' : St → Hp → Prop} (h : SatG C W ns s r Q) (i : ∀ σ H, Stay ns s.σ σ → Q σ H → Q' σ H) : SatG C W ns s r Q' := by
  cases r with
  | bad => exact h
  | ex x e => exact h
  | ok f e =>
    cases f with
    | bk => exact h.elim
    | ct => exact h.elim
    | rt o => exact h.elim
    | nx => exact fun σ2 H2 G2 y1 y2 y3 => i _ _ y3 (h σ2 H2 G2 y1 y2 y3)
theorem SatG.rebase {s1 : S} {r : Res Fl} {Q : St → Hp → Prop} (h : SatG C W ns s r Q) (x : Ext s s1) (hσ : s1.σ = s.σ) : SatG C W ns s1 r Q := by
  cases r with
  | bad => exact h
  | ex y e => exact fun cls d σ2 H2 G2 y1 y2 y3 => h cls d σ2 H2 G2 y1 (x.trans y2) y3
  | ok f e =>
    cases f with
    | bk => exact h.elim
    | ct => exact h.elim
    | rt o => exact h.elim
    | nx => exact fun σ2 H2 G2 y1 y2 y3 => h σ2 H2 G2 y1 (x.trans y2) (by rw [← hσ]; exact y3)
theorem _root_.L2.PG.imp {X : Cx} {e : Expr} {t t' : TG} (h : PG X e t) (i : ∀ v σ H Q, t' v σ H Q → t v σ H Q) : PG X e t' := ⟨fun pins s σ H v u Q I r q => h.run pins s σ H v u Q I r (i v σ H Q q)⟩
theorem _root_.L2.PGs.imp {X : Cx} {e : List Expr} {t t' : TGs} (h : PGs X e t) (i : ∀ v σ H Q, t' v σ H Q → t v σ H Q) : PGs X e t' := ⟨fun pins s σ H v u Q I r q => h.run pins s σ H v u Q I r (i v σ H Q q)⟩
theorem stay_set {i : Nat} {σ : St} {x : Option V} : Stay [i] σ (σ.set i x) := ⟨by rw [List.length_set], fun j hj => by
  rw [List.getElem?_set_ne fun e => hj (by rw [e]; exact List.mem_singleton.mpr rfl)]⟩
theorem g_name (i : Nat) {x : Str} (hN : X.N.Nodup) (hi : X.N[i]? = some x := by rfl) (hx : Loc X.env.scope x := by first | exact .inl rfl | exact .inr rfl) (hf : X.fn x = true ∨ X.env.scope.names.lookup x = some .local := by first | exact .inl rfl | exact .inr rfl | assumption) : PG X (.Name x pos) (tDG C W [i] (gN i)) := (pg_name hN hi hx hf).imp fun v σ H Q ⟨e, G, t, hs, r, h⟩ => by
  show Q (σ.set i (some v)) H
  have h : SatG C W [i] ⟨e, σ, H, G⟩ (setSlot i (.sh t) e) Q := h
  cases q : setSlot i (.sh t) e with
  | bad => rw [q] at h; exact h.elim
  | ex y e2 =>
    unfold setSlot at q
    split at q
    · cases q
    · split at q <;> cases q
  | ok f e2 =>
    obtain ⟨rfl, rfl, s0, hi, hp⟩ := setSlot_ok q
    rw [q] at h
    obtain ⟨y1, y2⟩ := hs.store (s := ⟨e, σ, H, G⟩) (Ext.refl _) (o := .sh t) r (fun _ z => nomatch z) hi hp
    exact h _ _ _ y1 y2 stay_set
theorem gs_nil : PGs X [] (tDGs C W [] gsNil) := pgs_nil.imp fun v σ H Q ⟨e, G, ts, hs, r, h⟩ => by
  cases ts with
  | nil => cases r; exact ⟨rfl, h σ H G hs (Ext.refl _) (Stay.refl _)⟩
  | cons t ts => exact h.elim
theorem gs_cons (h1 : PG X tg (tDG C W ns g)) (h2 : PGs X es (tDGs C W ms gs)) (hs : (assignEach (tg :: es) X.env).map (·.2) = assign tg X.env :: (assignEach es X.env).map (·.2) := by rfl) : PGs X (tg :: es) (tDGs C W (ns ++ ms) (gsCons g gs)) := (pgs_cons h1 h2 hs).imp fun v σ H Q ⟨e, G, ts, hs, r, h⟩ => by
  cases ts with
  | nil => exact h.elim
  | cons t ts =>
    obtain ⟨x, xs, rfl, r1, r2⟩ := r
    refine ⟨x, xs, rfl, e, G, t, hs, r1, (SatG.onNx h).mono fun σ' H' _ ⟨e', G', z1, z2, z3⟩ => ?_⟩
    exact ⟨e', G', ts, z1, r2.mono z2.g, z3⟩
theorem g_tup {k n : Nat} (hc : X.calm = true) (h : PGs X es (tDGs C W ns gs)) (hn : (assignEach es X.env).length = n := by rfl) (hst : (assignEach es X.env).findIdx? (·.1) = none := by rfl) (hK : C.K = X.K := by rfl) : PG X (.Tuple es k pos) (tDG C W ns (gT n gs)) := (pg_tup hc h hn hst).imp fun v σ H Q ⟨e, G, t, hs, r, h⟩ => by
  unfold gT at h
  split at h
  · rename_i ts
    split at h
    · rename_i hl
      obtain ⟨a, xs, rfl, r1, r2⟩ := r
      rw [← hK]
      exact ⟨a, xs, rfl, sqT_mono hs.sub r1, by rw [r2.length]; exact Nat.eq_of_beq_eq_true hl, e, G, ts, hs, r2, h⟩
    · exact h.elim
  · exact h.elim
def dAsg (da : DE) (g : DG) : DS := fun e => (da e).bind fun o e1 => onNx (g o.t e1) fun e2 => .ok .nx e2
theorem tAsg_of {D : Ends} {σ : St} {H : Hp} (h : tDS C W (dAsg da g) D σ H) : tAsg (tD C W da) (tDG C W ns g) D σ H := by
  obtain ⟨e, G, hs, h⟩ := h
  refine tD_T (s := ⟨e, σ, H, G⟩) hs ((SatS.bind h).mono fun o s1 hs1 x1 e1 h1 v rv => ?_)
  have hσ : s1.σ = σ := e1
  subst hσ
  exact ⟨s1.e, s1.G, o.t, hs1, rv, (SatS.onNx h1).mono fun σ' H' _ ⟨e', G', z1, z2, z3⟩ => z3 σ' H' G' z1 z2⟩
theorem s_unp (he : PE X a (tD C W da)) (hg : PG X tg (tDG C W ns g)) (hs : swapsWithSole [tg] a pos.line X.env = pure false := by rfl) (hw : swappedStores [tg] a X.env = pure none := by rfl) (h1 : (assignEach [tg] X.env).map (·.2) = [assign tg X.env] := by rfl) : PS X (.Assign [tg] a pos) (tDS C W (dAsg da g)) := (ps_asg he hg hs hw h1).imp fun D σ H h => tAsg_of h
end

theorem SatS.mono {C : VX} {W : WX} {s : S} {r : Res Fl} {D D' : Ends} (h : SatS C W s r D) (hn : ∀ σ H, D.nx σ H → D'.nx σ H) (hr : ∀ v H, D.rt v H → D'.rt v H) (hb : ∀ σ H, D.bk σ H → D'.bk σ H) (hc : ∀ σ H, D.ct σ H → D'.ct σ H) : SatS C W s r D' := by
  cases r with
  | bad => exact h
  | ex x e => exact h
  | ok f e =>
    intro σ' H' G' z1 z2
    have k := h σ' H' G' z1 z2
    cases f with
    | nx => exact hn _ _ k
    | bk => exact hb _ _ k
    | ct => exact hc _ _ k
    | rt o => exact fun v ov => hr _ _ (k v ov)
structure JOk (C : VX) (J : It) (G : Hp) (ts : List T) : Prop where
  go : ∀ (H G' : Hp), (∀ a o, G a = some o → G' a = some o) → (∀ a o, G' a = some o → H a = some o) → ∀ (i : Nat) t, ts[i]? = some t → J.go i H ∧ ∀ x H', J.yld i H x H' →
    ∃ G2, (∀ a o, H a = some o → H' a = some o) ∧ (∀ a o, G' a = some o → G2 a = some o) ∧ (∀ a o, G2 a = some o → H' a = some o) ∧ (∀ a, G2 a ≠ none → G' a ≠ none ∨ H a = none) ∧ Rp C G2 t x
  stop : ∀ (H G' : Hp), (∀ a o, G a = some o → G' a = some o) → (∀ a o, G' a = some o → H a = some o) → ∀ i : Nat, ts.length ≤ i → i ≤ ts.length → J.stop i H
abbrev DI := List Slot → Res (List T)
def tDI (C : VX) (W : WX) (d : DI) : TI := fun σ H R => ∃ e G, Sees C ⟨e, σ, H, G⟩ ∧ SatE C W ⟨e, σ, H, G⟩ (d e) fun ts s' => ∀ J, JOk C J s'.G ts → R J s'.H
theorem _root_.L2.PI.imp {X : Cx} {tg e : Expr} {t t' : TI} (h : PI X tg e t) (i : ∀ σ H R, t' σ H R → t σ H R) : PI X tg e t' := ⟨fun pins s σ H R I q => h.run pins s σ H R I (i σ H R q)⟩
def itemsT : T → Option (List T)
  | .lst ts => some ts
  | .sq ts => some ts
  | .tup ts => some ts
  | .str x => some (x.cps.toList.map fun c => .str ⟨#[c]⟩)
  | _ => none
def dItems (da : DE) : DI := fun e => (da e).bind fun o e1 => Res.of (itemsT o.t) e1
def rngT (lo : Int) (n : Nat) : List T := (List.range n).map fun k => .int (lo + (k : Nat))
abbrev rngIn (i : Int) : Bool := decide (-(2 ^ 62) ≤ i) && decide (i < 2 ^ 62)
def asRng1 : T → Option (List T)
  | .int j => if rngIn j then some (rngT 0 j.toNat) else none
  | _ => none
def asRng2 : T → T → Option (List T)
  | .int i, .int j => if rngIn i && rngIn j then some (rngT i (j - i).toNat) else none
  | _, _ => none
def rngD (lo : Int) (n : Nat) : List T := (List.range n).map fun k => .int (lo + (k : Nat) * (-1))
def asRng3 : T → T → T → Option (List T)
  | .int i, .int j, .int c => if rngIn i && rngIn j && decide (c = -1) then some (rngD i (i - j).toNat) else none
  | _, _, _ => none
def asRng : List T → Option (List T)
  | [t] => asRng1 t
  | [t, u] => asRng2 t u
  | [t, u, v] => asRng3 t u v
  | _ => none
def dRng (d : DA) : DI := fun e => (d e).bind fun ts e1 => Res.of (asRng ts) e1
section
variable {X : Cx} {C : VX} {W : WX} {a b c : Expr} {da db dc : DE} {dA : DA} {tg : Expr} {pos : Pos}
theorem jok_list {G : Hp} {p : Addr} {ts : List T} {xs : List V} (h : SqL C.K G p xs) (r : Rps C G ts xs) {K : PySem.W.Frag} (hK : C.K = K := by rfl) : JOk C (Itl K p) G ts := by
  subst hK
  refine ⟨fun H G' g sub i t e => ?_, fun H G' g sub i hi _ => ⟨xs, sqL_mono sub (sqL_mono g h), by rw [r.length]; exact hi⟩⟩
  obtain ⟨x, e1, r1⟩ := r.get e
  have hH := sqL_mono sub (sqL_mono g h)
  refine ⟨⟨xs, x, hH, e1⟩, fun y H' hy => ?_⟩
  obtain ⟨rfl, f⟩ := hy
  have : y = x := Option.some.inj ((f xs hH).symm.trans e1)
  subst this
  exact ⟨G', fun _ _ z => z, fun _ _ z => z, sub, fun _ z => .inl z, r1.mono g⟩
theorem jok_tup {G : Hp} {p : Addr} {ts : List T} {xs : List V} (h : SqT C.K G p xs) (r : Rps C G ts xs) {K : PySem.W.Frag} (hK : C.K = K := by rfl) : JOk C (Itt K p) G ts := by
  subst hK
  refine ⟨fun H G' g sub i t e => ?_, fun H G' g sub i hi _ => ⟨xs, sqT_mono sub (sqT_mono g h), by rw [r.length]; exact hi⟩⟩
  obtain ⟨x, e1, r1⟩ := r.get e
  have hH := sqT_mono sub (sqT_mono g h)
  refine ⟨⟨xs, x, hH, e1⟩, fun y H' hy => ?_⟩
  obtain ⟨rfl, f⟩ := hy
  have : y = x := Option.some.inj ((f xs hH).symm.trans e1)
  subst this
  exact ⟨G', fun _ _ z => z, fun _ _ z => z, sub, fun _ z => .inl z, r1.mono g⟩
theorem jok_str {G : Hp} {x : Str} : JOk C (Its x) G (x.cps.toList.map fun c => .str ⟨#[c]⟩) := by
  refine ⟨fun H G' g sub i t e => ?_, fun H G' g sub i hi _ => ?_⟩
  · rw [List.getElem?_map] at e
    cases q : x.cps.toList[i]? with
    | none => rw [q] at e; cases e
    | some c =>
      rw [q] at e
      cases e
      have q' : x.cps[i]? = some c := by simpa using q
      refine ⟨(Array.getElem?_eq_some_iff.mp q').1, fun y H' hy => ?_⟩
      obtain ⟨rfl, c', hc, rfl⟩ := hy
      rw [q'] at hc
      cases hc
      exact ⟨G', fun _ _ z => z, fun _ _ z => z, sub, fun _ z => .inl z, rfl⟩
  · rw [List.length_map] at hi
    show x.cps.size ≤ i
    simpa using hi
theorem jok_rng {G : Hp} {lo : Int} {n : Nat} : JOk C (Itr lo n) G (rngT lo n) := by
  refine ⟨fun H G' g sub i t e => ?_, fun H G' g sub i hi _ => ?_⟩
  · unfold rngT at e
    rw [List.getElem?_map] at e
    cases q : (List.range n)[i]? with
    | none => rw [q] at e; cases e
    | some k =>
      rw [q] at e
      cases e
      obtain ⟨hk, hk2⟩ := List.getElem?_eq_some_iff.mp q
      rw [List.length_range] at hk
      rw [List.getElem_range] at hk2
      subst hk2
      refine ⟨hk, fun y H' hy => ?_⟩
      obtain ⟨rfl, rfl⟩ := hy
      exact ⟨G', fun _ _ z => z, fun _ _ z => z, sub, fun _ z => .inl z, rfl⟩
  · unfold rngT at hi
    rw [List.length_map, List.length_range] at hi
    exact hi
def iSeq (K : PySem.W.Frag) (tl : TE) : TI := fun σ H R => tl σ H fun x H1 => (∃ a, x = .ref a ∧ (∃ xs, SqL K H1 a xs) ∧ R (Itl K a) H1) ∨ (∃ a, x = .ref a ∧ (∃ xs, SqT K H1 a xs) ∧ R (Itt K a) H1) ∨ ∃ z, x = .str z ∧ R (Its z) H1
theorem PIE_list {pins : List (Addr × Obj)} {σ : St} {H1 : Hp} {s1 : Shared} {R : It → Hp → Prop} {a : Addr} {xs : List V} (I1 : Inv X pins σ H1 s1) (hq : SqL X.K H1 a xs) (q : R (Itl X.K a) H1) : wpAny (model X.prog X.w) X.A (pyIter (.ref a)) (PIE X pins σ tg R) X.xe s1 := by
  obtain ⟨its, rv, p, hz⟩ := I1.list hq
  refine wpAny_pyIter_list p.isList ?_
  refine ⟨s1.heap.objs.size, [s1.heap.objs.size], _, _, H1, rfl, I1.kept (t' := s1.toks) fun b o e => Heap.get?_push_of_some _ e, turn_list a _, ⟨_, Heap.get?_push_size _ rfl, rfl, rfl⟩, fun b hb => ?_, q⟩
  have e : b = s1.heap.objs.size := by simpa using hb
  subst e
  exact I1.fpOk (Nat.le_refl _) (I1.hok.fresh (Nat.le_refl _))
theorem PIE_tup {pins : List (Addr × Obj)} {σ : St} {H1 : Hp} {s1 : Shared} {R : It → Hp → Prop} {a : Addr} {xs : List V} (I1 : Inv X pins σ H1 s1) (hq : SqT X.K H1 a xs) (q : R (Itt X.K a) H1) : wpAny (model X.prog X.w) X.A (pyIter (.ref a)) (PIE X pins σ tg R) X.xe s1 := by
  obtain ⟨its, rv, p, hz⟩ := I1.tuple hq
  refine wpAny_pyIter_tuple (show s1.heap.IsTuple a its.toArray from p) ?_
  refine ⟨s1.heap.objs.size, [s1.heap.objs.size], _, _, H1, rfl, I1.kept (t' := s1.toks) fun b o e => Heap.get?_push_of_some _ e, turn_tuple a _, ⟨_, Heap.get?_push_size _ rfl, rfl, rfl⟩, fun b hb => ?_, q⟩
  have e : b = s1.heap.objs.size := by simpa using hb
  subst e
  exact I1.fpOk (Nat.le_refl _) (I1.hok.fresh (Nat.le_refl _))
theorem pi_seq {l : Expr} {tl : TE} (hl : PE X l tl) : PI X tg l (iSeq X.K tl) := by
  refine ⟨fun pins s σ H R I h => ?_⟩
  refine thn (hl.run pins s σ H _ I h) fun v s1 ⟨x, H1, I1, r1, q1⟩ => ?_
  rcases q1 with ⟨a, rfl, ⟨xs, hq⟩, q⟩ | ⟨a, rfl, ⟨xs, hq⟩, q⟩ | ⟨z, rfl, q⟩
  · cases r1
    exact PIE_list I1 hq q
  · cases r1
    exact PIE_tup I1 hq q
  · obtain ⟨t, rfl⟩ := r1
    cases ha : z.cps.all (· < 128)
    · exact wpAny_pyIter_wide ha (pi_one (tk := s1.toks) I1 _ (turn_str _ z t "str_iterator" (.inr rfl)) ⟨_, Heap.get?_push_size _ rfl, rfl, rfl⟩ q)
    · exact wpAny_pyIter_ascii ha (pi_one (tk := s1.toks) I1 _ (turn_str _ z t "str_ascii_iterator" (.inl rfl)) ⟨_, Heap.get?_push_size _ rfl, rfl, rfl⟩ q)
theorem i_seq (ha : PE X a (tD C W da)) (hK : C.K = X.K := by rfl) : PI X tg a (tDI C W (dItems da)) := (pi_seq ha).imp fun σ H R ⟨e, G, hs, h⟩ => by
  refine tD_T (s := ⟨e, σ, H, G⟩) hs ((SatE.bind h).mono fun o s1 hs1 x1 e1 h1 v rv => ?_)
  obtain ⟨ts, ho, k⟩ := SatE.of h1
  have k := k s1.H s1.G hs1 (Ext.refl _)
  rw [← hK]
  cases q : o.t with
  | lst us =>
    rw [q] at ho rv
    cases ho
    obtain ⟨p, xs, rfl, h2, h3⟩ := rv
    exact .inl ⟨p, rfl, ⟨xs, .of (hs1.sub _ _ h2)⟩, k _ (jok_list (.of h2) h3)⟩
  | sq us =>
    rw [q] at ho rv
    cases ho
    obtain ⟨p, xs, rfl, h2, h3⟩ := rv
    exact .inl ⟨p, rfl, ⟨xs, sqL_mono hs1.sub h2⟩, k _ (jok_list h2 h3)⟩
  | tup us =>
    rw [q] at ho rv
    cases ho
    obtain ⟨p, xs, rfl, h2, h3⟩ := rv
    exact .inr (.inl ⟨p, rfl, ⟨xs, sqT_mono hs1.sub h2⟩, k _ (jok_tup h2 h3)⟩)
  | str x =>
    rw [q] at ho rv
    cases ho
    cases rv
    exact .inr (.inr ⟨x, rfl, k _ jok_str⟩)
  | non => rw [q] at ho; cases ho
  | bl b => rw [q] at ho; cases ho
  | int i => rw [q] at ho; cases ho
  | obj c ts => rw [q] at ho; cases ho
theorem asRng1_some {t : T} {ts : List T} (h : asRng1 t = some ts) : ∃ j, t = .int j ∧ -(2 ^ 62) ≤ j ∧ j < 2 ^ 62 ∧ ts = rngT 0 j.toNat := by
  unfold asRng1 at h
  split at h
  · split at h
    · rename_i j hj
      rw [Bool.and_eq_true] at hj
      cases h
      exact ⟨j, rfl, of_decide_eq_true hj.1, of_decide_eq_true hj.2, rfl⟩
    · cases h
  · cases h
theorem asRng2_some {t u : T} {ts : List T} (h : asRng2 t u = some ts) : ∃ i j, t = .int i ∧ u = .int j ∧ (-(2 ^ 62) ≤ i ∧ i < 2 ^ 62 ∧ -(2 ^ 62) ≤ j ∧ j < 2 ^ 62) ∧ ts = rngT i (j - i).toNat := by
  unfold asRng2 at h
  split at h
  · split at h
    · rename_i i j hj
      rw [Bool.and_eq_true, Bool.and_eq_true, Bool.and_eq_true] at hj
      cases h
      exact ⟨i, j, rfl, rfl, ⟨of_decide_eq_true hj.1.1, of_decide_eq_true hj.1.2, of_decide_eq_true hj.2.1, of_decide_eq_true hj.2.2⟩, rfl⟩
    · cases h
  · cases h
theorem Rps.one {G : Hp} {t : T} {vs : List V} (h : Rps C G [t] vs) : ∃ v, vs = [v] ∧ Rp C G t v := by
  obtain ⟨x, r, rfl, h1, h2⟩ := h
  cases h2
  exact ⟨x, rfl, h1⟩
theorem Rps.two {G : Hp} {t u : T} {vs : List V} (h : Rps C G [t, u] vs) : ∃ v w, vs = [v, w] ∧ Rp C G t v ∧ Rp C G u w := by
  obtain ⟨x, r, rfl, h1, h2⟩ := h
  obtain ⟨w, rfl, h3⟩ := h2.one
  exact ⟨x, w, rfl, h1, h3⟩
theorem i_rng1 {p : Pos} (hg : Gl X "range") (hm : X.mg "range" = none) (ha : PA X [a] (tDA C W dA)) (h1 : ∀ e ts e1, dA e = .ok ts e1 → ts.length = 1) (hs : starEach [a] X.env = [(false, eval a X.env)] := by rfl) : PI X tg (.Call (.Name "range" p) [a] [] pos) (tDI C W (dRng dA)) := (pi_range1 hg hm ha hs).imp fun σ H R ⟨e, G, hz, h⟩ => by
  refine ⟨e, G, hz, ?_⟩
  unfold dRng at h
  cases q : dA e with
  | bad => rw [q] at h; exact h
  | ex x e1 => rw [q] at h; exact h
  | ok ts e1 =>
    have hl := h1 _ _ _ q
    rw [q] at h
    match ts, hl with
    | [t], _ =>
      have h : SatE C W _ (Res.of (asRng1 t) e1) _ := h
      intro H' G' z1 z2 vs rvs
      obtain ⟨v, rfl, rv⟩ := rvs.one
      cases q2 : asRng1 t with
      | none => rw [q2] at h; exact h.elim
      | some us =>
        rw [q2] at h
        obtain ⟨j, rfl, h2, h3, rfl⟩ := asRng1_some q2
        have rv : v = V.int _ := rv
        subst rv
        exact ⟨j, rfl, h2, h3, h H' G' z1 z2 _ jok_rng⟩
theorem i_rng2 {p : Pos} (hg : Gl X "range") (hm : X.mg "range" = none) (ha : PA X [a, b] (tDA C W dA)) (h1 : ∀ e ts e1, dA e = .ok ts e1 → ts.length = 2) (hs : starEach [a, b] X.env = [(false, eval a X.env), (false, eval b X.env)] := by rfl) (hs2 : starEach [b] X.env = [(false, eval b X.env)] := by rfl) : PI X tg (.Call (.Name "range" p) [a, b] [] pos) (tDI C W (dRng dA)) := (pi_range2 hg hm ha hs hs2).imp fun σ H R ⟨e, G, hz, h⟩ => by
  refine ⟨e, G, hz, ?_⟩
  unfold dRng at h
  cases q : dA e with
  | bad => rw [q] at h; exact h
  | ex x e1 => rw [q] at h; exact h
  | ok ts e1 =>
    have hl := h1 _ _ _ q
    rw [q] at h
    match ts, hl with
    | [t, u], _ =>
      have h : SatE C W _ (Res.of (asRng2 t u) e1) _ := h
      intro H' G' z1 z2 vs rvs
      obtain ⟨v, w, rfl, rv, rw'⟩ := rvs.two
      cases q2 : asRng2 t u with
      | none => rw [q2] at h; exact h.elim
      | some us =>
        rw [q2] at h
        obtain ⟨i, j, rfl, rfl, h3, rfl⟩ := asRng2_some q2
        have rv : v = V.int _ := rv
        subst rv
        have rw' : w = V.int _ := rw'
        subst rw'
        exact ⟨i, j, rfl, h3, h H' G' z1 z2 _ jok_rng⟩
theorem len_nil : ∀ e ts e1, dNil e = .ok ts e1 → ts.length = 0 := fun e ts e1 h => by cases h; rfl
theorem len_cons {n : Nat} (h1 : ∀ e ts e1, dA e = .ok ts e1 → ts.length = n) : ∀ e ts e1, dCons da dA e = .ok ts e1 → ts.length = n + 1 := fun e ts e1 h => by
  unfold dCons at h
  cases q : da e with
  | bad => rw [q] at h; cases h
  | ex x e2 => rw [q] at h; cases h
  | ok o e2 =>
    rw [q] at h
    have h : (dA e2).bind (fun ts e2 => Res.ok (o.t :: ts) e2) = .ok ts e1 := h
    cases q2 : dA e2 with
    | bad => rw [q2] at h; cases h
    | ex x e3 => rw [q2] at h; cases h
    | ok us e3 =>
      rw [q2] at h
      cases h
      rw [List.length_cons, h1 _ _ _ q2]
end

def dLoop (b : DS) (k : DS) : DS := fun e => (b e).bind fun f e1 => match f with
  | .nx => k e1
  | .ct => k e1
  | .bk => .ok .nx e1
  | .rt o => .ok (.rt o) e1
def forL (g : DG) (b : DS) : List T → DS
  | [] => dNx
  | t :: ts => fun e => onNx (g t e) (dLoop b (forL g b ts))
def dFor (di : DI) (g : DG) (b : DS) : DS := fun e => (di e).bind fun ts e1 => forL g b ts e1
section
variable {X : Cx} {C : VX} {W : WX} {a b : Expr} {tg : Expr} {di : DI} {g : DG} {db : DS} {c : DT} {body : List Stmt} {pos : Pos} {s : S} {ns : List Nat}
theorem SatS.loop {k : DS} {e : List Slot} {D : Ends} (h : SatS C W s (dLoop db k e) D) :
    SatS C W s (db e) { D with nx := fun σ' H' => ∃ e' G', Sees C ⟨e', σ', H', G'⟩ ∧ Ext s ⟨e', σ', H', G'⟩ ∧ SatS C W s (k e') D, ct := fun σ' H' => ∃ e' G', Sees C ⟨e', σ', H', G'⟩ ∧ Ext s ⟨e', σ', H', G'⟩ ∧ SatS C W s (k e') D, bk := D.nx } := by
  unfold dLoop at h
  cases q : db e with
  | bad => rw [q] at h; exact h
  | ex x e1 => rw [q] at h; exact h
  | ok f e1 =>
    rw [q] at h
    intro σ' H' G' z1 z2
    cases f with
    | nx => exact ⟨e1, G', z1, z2, h⟩
    | ct => exact ⟨e1, G', z1, z2, h⟩
    | bk => exact h σ' H' G' z1 z2
    | rt o => exact h σ' H' G' z1 z2
theorem s_for (hp : PassesOwn (model X.prog X.w) X.A X.env X.xe) (hc : X.calm = true) (hi : PI X tg a (tDI C W di)) (hg : PG X tg (tDG C W ns g)) (hb : PSs X body (tDS C W db)) (hs : ∀ x, foldedSetIterable a X.env x = pure x := by intro _; rfl) : PS X (.For tg a body [] pos) (tDS C W (dFor di g db)) := (ps_for hp hc hi hg hb hs).imp fun D σ H ⟨e, G, hz, h⟩ => by
  refine ⟨e, G, hz, (SatS.bind h).mono fun ts s1 hs1 x1 e1 h1 J hJ => ?_⟩
  have hσ : s1.σ = σ := e1
  subst hσ
  refine ⟨fun i m σ' H' => i + m = ts.length ∧ ∃ e' G', Sees C ⟨e', σ', H', G'⟩ ∧ (∀ a o, s1.G a = some o → G' a = some o) ∧ SatS C W ⟨e', σ', H', G'⟩ (forL g db (ts.drop i) e') D, ⟨ts.length, by omega, s1.e, s1.G, hs1, fun _ _ z => z, h1⟩, ?_⟩
  rintro i m σ' H' ⟨hm, e', G', z1, z2, z3⟩
  cases q : ts[i]? with
  | none =>
    have hi : ts.length ≤ i := List.getElem?_eq_none_iff.mp q
    refine .inl ⟨hJ.stop H' G' z2 z1.sub i hi (by omega), ?_⟩
    rw [List.drop_eq_nil_of_le hi] at z3
    exact z3 _ _ _ z1 (Ext.refl _)
  | some t =>
    obtain ⟨hi, hi2⟩ := List.getElem?_eq_some_iff.mp q
    obtain ⟨j1, j2⟩ := hJ.go H' G' z2 z1.sub i t q
    rw [List.drop_eq_getElem_cons hi, hi2] at z3
    refine .inr ⟨j1, fun σ2 H2 => ∃ e2 G2, Sees C ⟨e2, σ2, H2, G2⟩ ∧ (∀ a o, s1.G a = some o → G2 a = some o) ∧ SatS C W ⟨e2, σ2, H2, G2⟩ (forL g db (ts.drop (i + 1)) e2) D, fun σ2 H2 hN => ⟨m - 1, by omega, by omega, hN⟩, fun x H2 hy => ?_⟩
    obtain ⟨G2, k1, k2, k3, k4, r⟩ := j2 x H2 hy
    obtain ⟨y1, y2⟩ := z1.grow k1 k2 k3 k4
    refine ⟨e', G2, t, y1, r, (SatS.onNx (z3.rebase y2)).mono fun σ3 H3 _ ⟨e3, G3, w1, w2, w3⟩ => ?_⟩
    refine ⟨e3, G3, w1, ((SatS.loop w3).rebase w2).mono ?_ (fun _ _ z => z) (fun _ _ z => z) ?_⟩
    · exact fun σ4 H4 ⟨e4, G4, u1, u2, u3⟩ => ⟨e4, G4, u1, fun a o z => u2.g a o (k2 a o (z2 a o z)), u3.rebase u2⟩
    · exact fun σ4 H4 ⟨e4, G4, u1, u2, u3⟩ => ⟨e4, G4, u1, fun a o z => u2.g a o (k2 a o (z2 a o z)), u3.rebase u2⟩
end
end L2.VD

namespace L2.VD
open PySem PySem.Spec PyProof.Rows

abbrev W0 : WX := fun _ _ _ _ => False
def wipeE (e : List Slot) : List Nat → List Slot
  | [] => e
  | v :: vs => (wipeE e vs).set v .un
def backE (e0 : List Slot) (e : List Slot) : List Nat → List Slot
  | [] => e
  | v :: vs => match e0[v]? with
    | some s => (backE e0 e vs).set v s
    | none => backE e0 e vs
theorem wipe_get (σ : St) : ∀ (vs : List Nat) (j : Nat), (wipe σ vs)[j]? = if j ∈ vs then σ[j]?.map fun _ => none else σ[j]?
  | [], j => by simp [wipe]
  | v :: vs, j => by
    show ((wipe σ vs).set v none)[j]? = _
    by_cases e : j = v
    · subst e
      rw [List.getElem?_set_self', wipe_get σ vs j]
      by_cases h : j ∈ vs
      · rw [if_pos h, if_pos (List.mem_cons_self ..)]
        cases σ[j]? <;> rfl
      · rw [if_neg h, if_pos (List.mem_cons_self ..)]
        cases σ[j]? <;> rfl
    · rw [List.getElem?_set_ne (Ne.symm e), wipe_get σ vs j]
      by_cases h : j ∈ vs
      · rw [if_pos h, if_pos (List.mem_cons_of_mem _ h)]
      · rw [if_neg h, if_neg (by rw [List.mem_cons]; rintro (q | q); exact e q; exact h q)]
theorem wipeE_get (e : List Slot) : ∀ (vs : List Nat) (j : Nat), (wipeE e vs)[j]? = if j ∈ vs then e[j]?.map fun _ => Slot.un else e[j]?
  | [], j => by simp [wipeE]
  | v :: vs, j => by
    show ((wipeE e vs).set v .un)[j]? = _
    by_cases q : j = v
    · subst q
      rw [List.getElem?_set_self', wipeE_get e vs j]
      by_cases h : j ∈ vs
      · rw [if_pos h, if_pos (List.mem_cons_self ..)]
        cases e[j]? <;> rfl
      · rw [if_neg h, if_pos (List.mem_cons_self ..)]
        cases e[j]? <;> rfl
    · rw [List.getElem?_set_ne (Ne.symm q), wipeE_get e vs j]
      by_cases h : j ∈ vs
      · rw [if_pos h, if_pos (List.mem_cons_of_mem _ h)]
      · rw [if_neg h, if_neg (by rw [List.mem_cons]; rintro (q' | q'); exact q q'; exact h q')]
theorem backE_len (e0 e : List Slot) : ∀ vs : List Nat, (backE e0 e vs).length = e.length
  | [] => rfl
  | v :: vs => by
    unfold backE
    split
    · rw [List.length_set]; exact backE_len e0 e vs
    · exact backE_len e0 e vs
theorem backE_get {e0 e : List Slot} (hl : e.length = e0.length) : ∀ (vs : List Nat) (j : Nat), (backE e0 e vs)[j]? = if j ∈ vs then e0[j]? else e[j]?
  | [], j => by simp [backE]
  | v :: vs, j => by
    unfold backE
    cases q : e0[v]? with
    | none =>
      dsimp only
      rw [backE_get hl vs j]
      by_cases e : j = v
      · subst e
        have hv : e0.length ≤ j := List.getElem?_eq_none_iff.mp q
        have hv' : e[j]? = none := List.getElem?_eq_none_iff.mpr (by omega)
        rw [if_pos (List.mem_cons_self ..), q, hv']
        simp
      · by_cases h : j ∈ vs
        · rw [if_pos h, if_pos (List.mem_cons_of_mem _ h)]
        · rw [if_neg h, if_neg (by rw [List.mem_cons]; rintro (q' | q'); exact e q'; exact h q')]
    | some s =>
      dsimp only
      by_cases e' : j = v
      · subst e'
        have hv : j < e0.length := (List.getElem?_eq_some_iff.mp q).1
        rw [List.getElem?_set_self (by rw [backE_len]; omega), if_pos (List.mem_cons_self ..), q]
      · rw [List.getElem?_set_ne (Ne.symm e'), backE_get hl vs j]
        by_cases h : j ∈ vs
        · rw [if_pos h, if_pos (List.mem_cons_of_mem _ h)]
        · rw [if_neg h, if_neg (by rw [List.mem_cons]; rintro (q' | q'); exact e' q'; exact h q')]
theorem wipe_stay {vs : List Nat} {σ σ' : St} (h : Stay vs (wipe σ vs) σ') : wipe σ' vs = wipe σ vs := by
  apply List.ext_getElem?
  intro j
  rw [wipe_get, wipe_get]
  have hl : σ'.length = σ.length := h.1.trans (wipe_length σ vs)
  by_cases hj : j ∈ vs
  · rw [if_pos hj, if_pos hj]
    by_cases hlt : j < σ.length
    · rw [List.getElem?_eq_getElem hlt, List.getElem?_eq_getElem (by omega)]
      rfl
    · rw [List.getElem?_eq_none_iff.mpr (by omega), List.getElem?_eq_none_iff.mpr (by omega)]
  · rw [if_neg hj, if_neg hj]
    have := h.2 j hj
    rw [wipe_get, if_neg hj] at this
    exact this

section
variable {C : VX} {s s' : S}
structure By (s : S) (D : Addr) (o : HO) : Prop where
  at_ : s.H D = some o
  g : s.G D = none
  no : ∀ j, ¬ Owns s j D
theorem By.ext {D : Addr} {o : HO} (b : By s D o) (x : Ext s s') : By s' D o := by
  refine ⟨x.keep D o b.at_ b.no, ?_, fun j hj => ?_⟩
  · cases e : s'.G D with
    | none => rfl
    | some u =>
      rcases x.gnew D (by rw [e]; exact fun z => nomatch z) with z | z | ⟨j, z⟩
      · exact absurd b.g z
      · rw [b.at_] at z; cases z
      · exact absurd z (b.no j)
  · rcases x.own j D hj with z | ⟨k, z⟩
    · rw [b.at_] at z; cases z
    · exact b.no k z
theorem Sees.other (hs : Sees C s) {D : Addr} {o o' : HO} (b : By s D o) : Sees C ⟨s.e, s.σ, upd s.H D o', s.G⟩ ∧ By ⟨s.e, s.σ, upd s.H D o', s.G⟩ D o' ∧ ∀ {s0 : S}, s0.H D = none → Ext s0 s → Ext s0 ⟨s.e, s.σ, upd s.H D o', s.G⟩ := by
  have k : ∀ j a u, Owns s j a → s.H a = some u → upd s.H D o' a = some u := fun j a u hO hu => by
    rw [upd_ne fun e => b.no j (by rw [← e]; exact hO)]
    exact hu
  have back : ∀ j a, Owns ⟨s.e, s.σ, upd s.H D o', s.G⟩ j a → Owns s j a := by
    rintro j a ⟨sl, v, h1, h2, h3⟩
    have h4 := hs.at_ j sl h1
    rw [show s.σ[j]? = some (some v) from h2] at h4
    refine ⟨sl, v, h1, h2, ownsV_back h4 (fun c u hc hu => k j c u ⟨sl, v, h1, h2, ?_⟩ hu) h3⟩
    cases sl with
    | un => exact h3.elim
    | sh t => exact h3.elim
    | ol p ts => exact hc
    | od kvs => exact hc
    | oi c' ts => exact hc
    | oll tss => exact .inl hc
  refine ⟨⟨fun a u hu => ?_, hs.len, fun j sl h1 => ?_, fun j a h => hs.own j a (back j a h), fun i j a h1 h2 => hs.inj i j a (back i a h1) (back j a h2)⟩, ⟨upd_same, b.g, fun j hj => b.no j (back j D hj)⟩, fun {s0} h0 x => ⟨x.g, fun a u hu hn => ?_, x.gnew, fun j a h => x.own j a (back j a h), x.pin⟩⟩
  · show upd s.H D o' a = some u
    rw [upd_ne fun e => by have hu' : s.G a = some u := hu; rw [e, b.g] at hu'; cases hu']
    exact hs.sub a u hu
  · have h4 := hs.at_ j sl h1
    show SlotOk C s.G (upd s.H D o') s.σ[j]? sl
    cases sl with
    | un => trivial
    | sh t => exact h4
    | ol p ts =>
      obtain ⟨a, xs, e, h5, h6⟩ := h4
      exact ⟨a, xs, e, k j a _ ⟨_, _, h1, e, rfl⟩ h5, h6⟩
    | od kvs =>
      obtain ⟨a, xs, e, h5, h6⟩ := h4
      exact ⟨a, xs, e, k j a _ ⟨_, _, h1, e, rfl⟩ h5, h6⟩
    | oi c ts =>
      obtain ⟨a, dx, xs, e, h5, h6, h7⟩ := h4
      exact ⟨a, dx, xs, e, k j a _ ⟨_, _, h1, e, rfl⟩ h5, h6, h7⟩
    | oll tss =>
      obtain ⟨a, xs, e, h5, h6, h7, h8⟩ := h4
      exact ⟨a, xs, e, k j a _ ⟨_, _, h1, e, .inl rfl⟩ h5, h6, h7, h8.mono (fun c u hc hu => k j c u ⟨_, _, h1, e, .inr ⟨a, xs, rfl, h5, hc⟩⟩ hu) fun _ _ z => z⟩
  · show upd s.H D o' a = some u
    rw [upd_ne fun e => by rw [e, h0] at hu; cases hu]
    exact x.keep a u hu hn
theorem Sees.wipe (hs : Sees C s) (vs : List Nat) : Sees C ⟨wipeE s.e vs, L2.wipe s.σ vs, s.H, s.G⟩ ∧ ∀ j a, Owns ⟨wipeE s.e vs, L2.wipe s.σ vs, s.H, s.G⟩ j a → j ∉ vs ∧ Owns s j a := by
  have back : ∀ j a, Owns ⟨wipeE s.e vs, L2.wipe s.σ vs, s.H, s.G⟩ j a → j ∉ vs ∧ Owns s j a := by
    rintro j a ⟨sl, v, h1, h2, h3⟩
    have h1 : (wipeE s.e vs)[j]? = some sl := h1
    have h2 : (L2.wipe s.σ vs)[j]? = some (some v) := h2
    rw [wipeE_get] at h1
    rw [wipe_get] at h2
    by_cases hj : j ∈ vs
    · rw [if_pos hj] at h2
      cases q : s.σ[j]? <;> rw [q] at h2 <;> cases h2
    · rw [if_neg hj] at h1 h2
      exact ⟨hj, sl, v, h1, h2, h3⟩
  refine ⟨⟨hs.sub, ?_, fun j sl h1 => ?_, fun j a h => hs.own j a (back j a h).2, fun i j a h1 h2 => hs.inj i j a (back i a h1).2 (back j a h2).2⟩, back⟩
  · show (wipeE s.e vs).length = (L2.wipe s.σ vs).length
    rw [wipe_length]
    have : ∀ vs, (wipeE s.e vs).length = s.e.length := fun vs => by
      induction vs with
      | nil => rfl
      | cons v vs ih => show ((wipeE s.e vs).set v .un).length = _; rw [List.length_set]; exact ih
    rw [this]
    exact hs.len
  · have h1 : (wipeE s.e vs)[j]? = some sl := h1
    show SlotOk C s.G s.H (L2.wipe s.σ vs)[j]? sl
    rw [wipeE_get] at h1
    rw [wipe_get]
    by_cases hj : j ∈ vs
    · rw [if_pos hj] at h1
      cases q : s.e[j]? with
      | none => rw [q] at h1; cases h1
      | some s0 => rw [q] at h1; cases h1; trivial
    · rw [if_neg hj] at h1 ⊢
      exact hs.at_ j sl h1
theorem Sees.back (h1 : Sees C s) {vs : List Nat} {e2 : List Slot} {H2 G2 : Hp} (h2 : Sees C ⟨e2, L2.wipe s.σ vs, H2, G2⟩) (x : Ext ⟨wipeE s.e vs, L2.wipe s.σ vs, s.H, s.G⟩ ⟨e2, L2.wipe s.σ vs, H2, G2⟩) :
    Sees C ⟨backE s.e e2 vs, s.σ, H2, G2⟩ ∧ Ext s ⟨backE s.e e2 vs, s.σ, H2, G2⟩ ∧ ∀ j a, Owns ⟨backE s.e e2 vs, s.σ, H2, G2⟩ j a → (j ∈ vs ∧ Owns s j a) ∨ (j ∉ vs ∧ Owns ⟨e2, L2.wipe s.σ vs, H2, G2⟩ j a) := by
  obtain ⟨w1, w2⟩ := h1.wipe vs
  have hl : e2.length = s.e.length := by
    have a : e2.length = (L2.wipe s.σ vs).length := h2.len
    rw [a, wipe_length, h1.len]
  have kp : ∀ j a u, j ∈ vs → Owns s j a → s.H a = some u → H2 a = some u ∧ G2 a = none := by
    intro j a u hj hO hu
    have hn : ∀ i, ¬ Owns ⟨wipeE s.e vs, L2.wipe s.σ vs, s.H, s.G⟩ i a := fun i hi => by
      obtain ⟨q1, q2⟩ := w2 i a hi
      exact q1 (by rw [h1.inj i j a q2 hO]; exact hj)
    have b : By ⟨wipeE s.e vs, L2.wipe s.σ vs, s.H, s.G⟩ a u := ⟨hu, h1.own j a hO, hn⟩
    have b2 := b.ext x
    exact ⟨b2.at_, b2.g⟩
  have get : ∀ j sl, (backE s.e e2 vs)[j]? = some sl → (j ∈ vs ∧ s.e[j]? = some sl) ∨ (j ∉ vs ∧ e2[j]? = some sl) := by
    intro j sl h
    rw [backE_get hl] at h
    by_cases hj : j ∈ vs
    · rw [if_pos hj] at h; exact .inl ⟨hj, h⟩
    · rw [if_neg hj] at h; exact .inr ⟨hj, h⟩
  have back : ∀ j a, Owns ⟨backE s.e e2 vs, s.σ, H2, G2⟩ j a → (j ∈ vs ∧ Owns s j a) ∨ (j ∉ vs ∧ Owns ⟨e2, L2.wipe s.σ vs, H2, G2⟩ j a) := by
    rintro j a ⟨sl, v, q1, q2, q3⟩
    rcases get j sl q1 with ⟨hj, q1⟩ | ⟨hj, q1⟩
    · refine .inl ⟨hj, sl, v, q1, q2, ?_⟩
      have q4 := h1.at_ j sl q1
      rw [show s.σ[j]? = some (some v) from q2] at q4
      refine ownsV_back q4 (fun c u hc hu => (kp j c u hj ⟨sl, v, q1, q2, ?_⟩ hu).1) q3
      cases sl with
      | un => exact q3.elim
      | sh t => exact q3.elim
      | ol p ts => exact hc
      | od kvs => exact hc
      | oi c' ts => exact hc
      | oll tss => exact .inl hc
    · refine .inr ⟨hj, sl, v, q1, ?_, q3⟩
      show (L2.wipe s.σ vs)[j]? = _
      rw [wipe_get, if_neg hj]
      exact q2
  refine ⟨⟨h2.sub, ?_, fun j sl q1 => ?_, fun j a h => ?_, fun i j a q1 q2 => ?_⟩, ⟨x.g, fun a u hu hn => x.keep a u hu fun i hi => hn i (w2 i a hi).2, fun a ha => ?_, fun j a h => ?_, fun j ts h => ⟨rfl, ?_⟩⟩, back⟩
  · show (backE s.e e2 vs).length = s.σ.length
    rw [backE_len, hl, h1.len]
  · show SlotOk C G2 H2 s.σ[j]? sl
    rcases get j sl q1 with ⟨hj, q1⟩ | ⟨hj, q1⟩
    · have q4 := h1.at_ j sl q1
      cases sl with
      | un => trivial
      | sh t =>
        obtain ⟨v, e, r⟩ := q4
        exact ⟨v, e, r.mono x.g⟩
      | ol p ts =>
        obtain ⟨a, xs, e, h5, h6⟩ := q4
        exact ⟨a, xs, e, (kp j a _ hj ⟨_, _, q1, e, rfl⟩ h5).1, h6.mono x.g⟩
      | od kvs =>
        obtain ⟨a, xs, e, h5, h6⟩ := q4
        exact ⟨a, xs, e, (kp j a _ hj ⟨_, _, q1, e, rfl⟩ h5).1, h6.mono x.g⟩
      | oi c ts =>
        obtain ⟨a, dx, xs, e, h5, h6, h7⟩ := q4
        exact ⟨a, dx, xs, e, (kp j a _ hj ⟨_, _, q1, e, rfl⟩ h5).1, h6, h7.mono x.g⟩
      | oll tss =>
        obtain ⟨a, xs, e, h5, h6, h7, h8⟩ := q4
        exact ⟨a, xs, e, (kp j a _ hj ⟨_, _, q1, e, .inl rfl⟩ h5).1, h6, h7, h8.mono (fun c u hc hu => (kp j c u hj ⟨_, _, q1, e, .inr ⟨a, xs, rfl, h5, hc⟩⟩ hu).1) x.g⟩
    · have q4 := h2.at_ j sl q1
      have q4 : SlotOk C G2 H2 (L2.wipe s.σ vs)[j]? sl := q4
      rw [wipe_get, if_neg hj] at q4
      exact q4
  · rcases back j a h with ⟨hj, q⟩ | ⟨hj, q⟩
    · obtain ⟨u, hu⟩ := q.here h1
      exact (kp j a u hj q hu).2
    · exact h2.own j a q
  · have cross : ∀ i j, i ∈ vs → Owns s i a → j ∉ vs → Owns ⟨e2, L2.wipe s.σ vs, H2, G2⟩ j a → False := by
      intro i j hi q hj q'
      obtain ⟨u, hu⟩ := q.here h1
      rcases x.own j a q' with z | ⟨k, z⟩
      · rw [show s.H a = some u from hu] at z; cases z
      · obtain ⟨z1, z2⟩ := w2 k a z
        exact z1 (by rw [h1.inj k i a z2 q]; exact hi)
    rcases back i a q1 with ⟨hi, p1⟩ | ⟨hi, p1⟩
    · rcases back j a q2 with ⟨hj, p2⟩ | ⟨hj, p2⟩
      · exact h1.inj i j a p1 p2
      · exact (cross i j hi p1 hj p2).elim
    · rcases back j a q2 with ⟨hj, p2⟩ | ⟨hj, p2⟩
      · exact (cross j i hj p2 hi p1).elim
      · exact h2.inj i j a p1 p2
  · rcases x.gnew a ha with z | z | ⟨j, z⟩
    · exact .inl z
    · exact .inr (.inl z)
    · exact .inr (.inr ⟨j, (w2 j a z).2⟩)
  · rcases back j a h with ⟨hj, q⟩ | ⟨hj, q⟩
    · exact .inr ⟨j, q⟩
    · rcases x.own j a q with z | ⟨k, z⟩
      · exact .inl z
      · exact .inr ⟨k, (w2 k a z).2⟩
  · show ((backE s.e e2 vs)[j]?).bind Slot.pk = _
    rw [backE_get hl]
    by_cases hj : j ∈ vs
    · rw [if_pos hj]; exact h
    · rw [if_neg hj]
      exact (x.pin j _ (show ((wipeE s.e vs)[j]?).bind Slot.pk = _ by rw [wipeE_get, if_neg hj]; exact h)).2
end

def lcL (g : DG) (tt : DT) (de : DE) (vs : List Nat) : List T → List T → List Slot → Option (List T × List Slot)
  | [], acc, e => some (acc, e)
  | t :: ts, acc, e => match g t e with
    | .ok .nx e1 => match tt e1 with
      | .ok true e2 => match de e2 with
        | .ok o e3 => if fits (acc.length + 1) then lcL g tt de vs ts (acc ++ [o.t]) (wipeE e3 vs) else none
        | _ => none
      | .ok false e2 => lcL g tt de vs ts acc (wipeE e2 vs)
      | _ => none
    | _ => none
def endLc (e1 : List Slot) (vs : List Nat) (r : Option (List T × List Slot)) : Res Out := match r with
  | some (us, e2) => .ok (.fr us) (backE e1 e2 vs)
  | none => .bad
def dLc (di : DI) (g : DG) (tt : DT) (de : DE) (vs : List Nat) : DE := fun e => (di e).bind fun ts e1 => endLc e1 vs (lcL g tt de vs ts [] (wipeE e1 vs))
def dYes : DT := fun e => .ok true e
section
variable {X : Cx} {C : VX} {W : WX}
theorem ts_nil : PTs X [] (tDT C W dYes) := ⟨fun pins s σ H Q I ⟨e, G, hs, h⟩ => pts_nil.run pins s σ H Q I (h H G hs (Ext.refl _))⟩
theorem ts_one {c : Expr} {d : DT} (h : PT X c (tDT C W d)) : PTs X [c] (tDT C W d) := pts_one h
theorem fits_lt {n : Nat} (h : fits (n + 1) = true) : n < sizeLine := fits_le h
theorem tLc_of {di : DI} {g : DG} {tt : DT} {de : DE} {vs : List Nat} {σ : St} {H : Hp} {Q : VK} (h : tD C W (dLc di g tt de vs) σ H Q) : tLc (tDI C W di) (tDG C W0 vs g) (tDT C W0 tt) (tD C W0 de) vs σ H Q := by
  obtain ⟨e, G, hs, h⟩ := h
  refine ⟨e, G, hs, (SatE.bind h).mono fun ts s1 hs1 x1 e1 h1 J hJ => ?_⟩
  have hσ : s1.σ = σ := e1
  subst hσ
  intro D hD
  obtain ⟨w1, w2⟩ := hs1.wipe vs
  obtain ⟨n1, n2⟩ := w1.newH hD (.lst [])
  have b0 : By ⟨wipeE s1.e vs, wipe s1.σ vs, upd s1.H D (.lst []), s1.G⟩ D (.lst []) := ⟨upd_same, hs1.gnone hD, (w1.fresh hD _).no⟩
  refine ⟨fun i m H' => i + m = ts.length ∧ ∃ e' G' acc us, Sees C ⟨e', wipe s1.σ vs, H', G'⟩ ∧ Ext ⟨wipeE s1.e vs, wipe s1.σ vs, s1.H, s1.G⟩ ⟨e', wipe s1.σ vs, H', G'⟩ ∧ By ⟨e', wipe s1.σ vs, H', G'⟩ D (.lst acc) ∧ Rps C G' us acc ∧
      SatE C W s1 (endLc s1.e vs (lcL g tt de vs (ts.drop i) us e')) (fun o s' => ∀ v, OutOk C ⟨e, s1.σ, H, G⟩ s' v o → Q v s'.H),
    ⟨ts.length, by omega, wipeE s1.e vs, s1.G, [], [], n1, n2, b0, rfl, h1⟩, ?_⟩
  rintro i m H' ⟨hm, e', G', acc, us, z1, z2, z3, z4, z5⟩
  cases q : ts[i]? with
  | none =>
    have hi : ts.length ≤ i := List.getElem?_eq_none_iff.mp q
    refine .inl ⟨hJ.stop H' G' z2.g z1.sub i hi (by omega), ?_⟩
    rw [List.drop_eq_nil_of_le hi] at z5
    have z5 : SatE C W s1 (Res.ok (Out.fr us) (backE s1.e e' vs)) _ := z5
    obtain ⟨f1, f2, f3⟩ := hs1.back z1 z2
    refine z5 H' G' f1 f2 (.ref D) ⟨D, acc, rfl, z3.at_, Fresh.base x1 ⟨z3.g, fun j hj => ?_, .inl hD⟩, z4⟩
    rcases f3 j D hj with ⟨_, q1⟩ | ⟨_, q1⟩
    · obtain ⟨u, hu⟩ := q1.here hs1
      rw [hD] at hu; cases hu
    · exact z3.no j q1
  | some t =>
    obtain ⟨hi, hi2⟩ := List.getElem?_eq_some_iff.mp q
    obtain ⟨j1, j2⟩ := hJ.go H' G' z2.g z1.sub i t q
    rw [List.drop_eq_getElem_cons hi, hi2] at z5
    refine .inr ⟨j1, fun H2 => ∃ e' G' acc us, Sees C ⟨e', wipe s1.σ vs, H2, G'⟩ ∧ Ext ⟨wipeE s1.e vs, wipe s1.σ vs, s1.H, s1.G⟩ ⟨e', wipe s1.σ vs, H2, G'⟩ ∧ By ⟨e', wipe s1.σ vs, H2, G'⟩ D (.lst acc) ∧ Rps C G' us acc ∧
      SatE C W s1 (endLc s1.e vs (lcL g tt de vs (ts.drop (i + 1)) us e')) (fun o s' => ∀ v, OutOk C ⟨e, s1.σ, H, G⟩ s' v o → Q v s'.H), fun H2 hN => ⟨m - 1, by omega, by omega, hN⟩, fun x H2 hy => ?_⟩
    obtain ⟨G2, k1, k2, k3, k4, r⟩ := j2 x H2 hy
    obtain ⟨y1, y2⟩ := z1.grow k1 k2 k3 k4
    have b2 := z3.ext y2
    unfold lcL at z5
    refine ⟨e', G2, t, y1, r, ?_⟩
    -- the wiped state behind a turn
    have fin : ∀ (e3 : List Slot) (σ3 : St) (H3 G3 : Hp), Sees C ⟨e3, σ3, H3, G3⟩ → Ext ⟨e', wipe s1.σ vs, H2, G2⟩ ⟨e3, σ3, H3, G3⟩ → wipe σ3 vs = wipe s1.σ vs → Sees C ⟨wipeE e3 vs, wipe s1.σ vs, H3, G3⟩ ∧ Ext ⟨wipeE s1.e vs, wipe s1.σ vs, s1.H, s1.G⟩ ⟨wipeE e3 vs, wipe s1.σ vs, H3, G3⟩ ∧ By ⟨wipeE e3 vs, wipe s1.σ vs, H3, G3⟩ D (.lst acc) := by
      intro e3 σ3 H3 G3 a1 a2 a3
      obtain ⟨v1, v2⟩ := a1.wipe vs
      have v1 : Sees C ⟨wipeE e3 vs, wipe σ3 vs, H3, G3⟩ := v1
      rw [a3] at v1
      have a4 := (z2.trans y2).trans a2
      have v2 : ∀ j a, Owns ⟨wipeE e3 vs, wipe s1.σ vs, H3, G3⟩ j a → j ∉ vs ∧ Owns ⟨e3, σ3, H3, G3⟩ j a := by
        rw [← a3]; exact v2
      have b3 := b2.ext a2
      refine ⟨v1, ⟨a4.g, a4.keep, a4.gnew, fun j a hj => a4.own j a (v2 j a hj).2, fun j ts' hj => ⟨rfl, ?_⟩⟩, ⟨b3.at_, b3.g, fun j hj => b3.no j (v2 j D hj).2⟩⟩
      obtain ⟨_, p2⟩ := a4.pin j ts' hj
      have hjv : j ∉ vs := fun hjv => by
        have hj : ((wipeE s1.e vs)[j]?).bind Slot.pk = some ts' := hj
        rw [wipeE_get, if_pos hjv] at hj
        cases q' : s1.e[j]? <;> rw [q'] at hj <;> exact nomatch hj
      show ((wipeE e3 vs)[j]?).bind Slot.pk = _
      rw [wipeE_get, if_neg hjv]; exact p2
    cases qg : g t e' with
    | bad => rw [qg] at z5; exact z5
    | ex x' e3 => rw [qg] at z5; exact z5.elim
    | ok f e3 =>
      rw [qg] at z5
      cases f with
      | bk => exact z5.elim
      | ct => exact z5.elim
      | rt o => exact z5.elim
      | nx =>
        intro σ3 H3 G3 u1 u2 u3
        refine ⟨wipe_stay u3, e3, G3, u1, ?_⟩
        cases qt : tt e3 with
        | bad => simp only [qt] at z5; exact z5
        | ex x' e4 => simp only [qt] at z5; exact z5.elim
        | ok b e4 =>
          simp only [qt] at z5
          intro H4 G4 u4 u5
          cases b with
          | false =>
            refine iteF ?_
            obtain ⟨f1, f2, f3⟩ := fin e4 σ3 H4 G4 u4 (u2.trans u5) (wipe_stay u3)
            exact ⟨wipeE e4 vs, G4, acc, us, f1, f2, f3, z4.mono fun a o z => u5.g a o (u2.g a o (k2 a o z)), z5⟩
          | true =>
            refine iteT (tD_T u4 ?_)
            cases qd : de e4 with
            | bad => simp only [qd] at z5; exact z5
            | ex x' e5 => simp only [qd] at z5; exact z5.elim
            | ok o e5 =>
              simp only [qd] at z5
              intro H5 G5 u6 u7 y ry
              by_cases hz : fits (us.length + 1) = true
              · rw [if_pos hz] at z5
                obtain ⟨f1, f2, f3⟩ := fin e5 σ3 H5 G5 u6 (u2.trans (u5.trans u7)) (wipe_stay u3)
                have z4' : Rps C G5 us acc := z4.mono fun a o z => u7.g a o (u5.g a o (u2.g a o (k2 a o z)))
                refine ⟨acc, f3.at_, by rw [z4'.length]; exact fits_lt hz, ?_⟩
                obtain ⟨o1, o2, o3⟩ := f1.other (o' := .lst (acc ++ [y])) f3
                exact ⟨wipeE e5 vs, G5, acc ++ [y], us ++ [o.t], o1, o3 hD f2, o2, z4'.append (.cons ry rfl), z5⟩
              · rw [if_neg hz] at z5
                exact z5.elim
theorem e_lc {elt tg iter : Expr} {ifs : List Expr} {scope : Scope} {own : List (Str × Nat)} {pos : Pos} {di : DI} {g : DG} {tt : DT} {de : DE} (hc : X.calm = true) (hN : X.N.Nodup) (ok : BlkOk X.N X.env.scope scope own) (hi : PI X tg iter (tDI C W di))
    (hg : ∀ (s : Shared) (H : Hp) (A : Addr) (cl : List (Str × Addr)) (fp : List Addr), PG (X.blk s H scope (compEnvC scope cl A X.env) fp) tg (tDG C W0 (own.map (·.2)) g))
    (ht : ∀ (s : Shared) (H : Hp) (A : Addr) (cl : List (Str × Addr)) (fp : List Addr), PTs (X.blk s H scope (compEnvC scope cl A X.env) fp) ifs (tDT C W0 tt))
    (he : ∀ (s : Shared) (H : Hp) (A : Addr) (cl : List (Str × Addr)) (fp : List Addr), PE (X.blk s H scope (compEnvC scope cl A X.env) fp) elt (tD C W0 de))
    (hs : ∀ x, foldedSetIterable iter X.env x = pure x := by intro _; rfl) : PE X (.ListComp elt [⟨tg, iter, ifs, 0⟩] scope pos) (tD C W (dLc di g tt de (own.map (·.2)))) := (pe_lc hc hN hi ok hg ht he hs).imp fun _ _ _ h => tLc_of h
theorem s_setLc (i : Nat) {y : Str} {py : Pos} {elt tg iter : Expr} {ifs : List Expr} {scope : Scope} {own : List (Str × Nat)} {pos spos : Pos} {di : DI} {g : DG} {tt : DT} {de : DE} (hc : X.calm = true) (hN : X.N.Nodup) (hsw : swapsWith (.ListComp elt [⟨tg, iter, ifs, 0⟩] scope pos) (some (.Name y py)) spos.line X.env = pure true)
    (ok : BlkOk X.N X.env.scope scope own) (hi : PI X tg iter (tDI C W di))
    (hg : ∀ (s : Shared) (H : Hp) (A : Addr) (cl : List (Str × Addr)) (fp : List Addr), PG (X.blk s H scope (compEnvC scope cl A X.env) fp) tg (tDG C W0 (own.map (·.2)) g))
    (ht : ∀ (s : Shared) (H : Hp) (A : Addr) (cl : List (Str × Addr)) (fp : List Addr), PTs (X.blk s H scope (compEnvC scope cl A X.env) fp) ifs (tDT C W0 tt))
    (he : ∀ (s : Shared) (H : Hp) (A : Addr) (cl : List (Str × Addr)) (fp : List Addr), PE (X.blk s H scope (compEnvC scope cl A X.env) fp) elt (tD C W0 de))
    (hs : ∀ x, foldedSetIterable iter X.env x = pure x := by intro _; rfl) (hy : X.N[i]? = some y := by rfl) (hyl : X.env.scope.names.lookup y = some .local := by rfl) : PS X (.Assign [.Name y py] (.ListComp elt [⟨tg, iter, ifs, 0⟩] scope pos) spos) (tDS C W (dSet i (dLc di g tt de (own.map (·.2))))) := (ps_setLc hc hN hy hyl hsw hi ok hg ht he hs).imp fun D σ H ⟨e, G, hz, h⟩ => by
  refine tLc_of (W := W) ⟨e, G, hz, ?_⟩
  unfold dSet at h
  cases q : dLc di g tt de (own.map (·.2)) e with
  | bad => rw [q] at h; exact h
  | ex y e1 => rw [q] at h; exact fun cls d H' G' z1 z2 z3 => h cls d σ H' G' z1 z2 z3
  | ok o e1 => rw [q] at h; exact fun H' G' z1 z2 v ov => set_of (e1 := e1) z1 z2 ov h
end
end L2.VD

namespace L2.VD
open PySem PySem.Spec PyProof.Rows

def onOl (i : Nat) (e : List Slot) (k : Bool → List T → Res Fl) : Res Fl := match e[i]? with
  | some (.ol p ts) => k p ts
  | _ => .bad
def dApp (i : Nat) (da : DE) : DS := fun e => onOl i e fun _ _ => (da e).bind fun o e1 => onOl i e1 fun p ts => if fits (ts.length + 1) then .ok .nx (e1.set i (.ol p (ts ++ [o.t]))) else .bad
def setAt (ts : List T) (u : T) (t : T) : Option (List T) := match u with
  | .int k => (ixN ts.length k).map fun j => ts.set j t
  | _ => none
theorem setAt_some {ts us : List T} {u t : T} (h : setAt ts u t = some us) : ∃ k j, u = .int k ∧ ixN ts.length k = some j ∧ us = ts.set j t := by
  unfold setAt at h
  split at h
  · rename_i k
    cases q : ixN ts.length k with
    | none => rw [q] at h; cases h
    | some j => rw [q] at h; cases h; exact ⟨k, j, rfl, q, rfl⟩
  · cases h
def putOl (i : Nat) (p : Bool) (e : List Slot) (o : Option (List T)) : Res Fl := match o with
  | some us => .ok .nx (e.set i (.ol p us))
  | none => .bad
def dSetI (i : Nat) (db da : DE) : DS := fun e => (da e).bind fun o e1 => onOl i e1 fun _ _ => (db e1).bind fun b e2 => onOl i e2 fun p ts => putOl i p e2 (setAt ts b.t o.t)
def dLenN (i : Nat) : DE := fun e => match e[i]? with
  | some (.sh (.lst ts)) => .ok (.sh (.int ts.length)) e
  | some (.sh (.sq ts)) => .ok (.sh (.int ts.length)) e
  | some (.sh (.tup ts)) => .ok (.sh (.int ts.length)) e
  | some (.sh (.str x)) => if fits x.length then .ok (.sh (.int x.length)) e else .bad
  | some (.ol _ ts) => .ok (.sh (.int ts.length)) e
  | some (.oll tss) => .ok (.sh (.int tss.length)) e
  | _ => .bad
section
variable {X : Cx} {C : VX} {W : WX} {a b : Expr} {da db : DE} {pos npos apos cpos : Pos} {s : S}
theorem onOl_ok {i : Nat} {e : List Slot} {k : Bool → List T → Res Fl} {D : Ends} (h : SatS C W s (onOl i e k) D) : ∃ p ts, e[i]? = some (.ol p ts) ∧ SatS C W s (k p ts) D := by
  unfold onOl at h
  split at h
  · exact ⟨_, _, by assumption, h⟩
  · exact h.elim
theorem s_app (i : Nat) {x : Str} (ha : PE X a (tD C W da)) (hN : X.N[i]? = some x := by rfl) (hv : Vis X.env.scope x := by first | exact Or.inl rfl | exact Or.inr (Or.inl rfl) | exact Or.inr (Or.inr rfl)) (hd : (x == ("__debug__" : Str)) = false := by decide) (hcd : (x == ("__classdict__" : Str)) = false := by decide)
    (hbase : attributeBase (.Name x npos) "append" X.env (eval (.Name x npos) X.env) = eval (.Name x npos) X.env := by rfl) (hfew : ((backTo cpos (starEach [a] X.env)).all (fun x => !x.1) && (backToKw cpos (keywordEach [] X.env)).all (fun x => x.1.isSome) && decide ([a].length + ([] : List Keyword).length + (if ([] : List Keyword).isEmpty then 0 else 1) < 30)) = true := by rfl)
    (hline : (apos.endLine == cpos.line) = true := by rfl) (hst : starEach [a] X.env = (false, eval a X.env) :: starEach [] X.env := by rfl) (hpl : (backTo cpos (starEach [] X.env)).any (·.1) = false := by rfl) (hs : swapsWith (.Call (.Attribute (.Name x npos) "append" apos) [a] [] cpos) none pos.line X.env = pure false := by rfl) :
    PS X (.Expr (.Call (.Attribute (.Name x npos) "append" apos) [a] [] cpos) pos) (tDS C W (dApp i da)) :=
  (ps_expr (pe_bm PySem.F.plainAttrs_list PySem.F.slot_list_append PySem.F.type_list_append mt_append (pv i hN hv hd hcd) (a_cons ha a_nil hst) hbase hfew hline hst hpl) hs).imp fun D σ H ⟨e, G, hz, h⟩ => by
    obtain ⟨p, ts, h1, h2⟩ := onOl_ok h
    obtain ⟨l, xs, e1, q1, q2⟩ := hz.at_ i _ h1
    refine ⟨.ref l, e1, .inl ⟨rfl, xs, .of q1⟩, ?_⟩
    refine tDA_I (s := ⟨e, σ, H, G⟩) hz ?_
    cases q : da e with
    | bad => rw [q] at h2; exact h2.elim
    | ex y e2 =>
      rw [q] at h2
      show SatE C W _ (dCons da dNil e) _
      unfold dCons
      rw [q]
      exact fun cls d H' G' z1 z2 z3 => h2 cls d σ H' G' z1 z2 z3
    | ok o e2 =>
      rw [q] at h2
      show SatE C W _ (dCons da dNil e) _
      unfold dCons
      rw [q]
      intro H' G' z1 z2 vs rvs
      obtain ⟨p2, ts2, h3, h4⟩ := onOl_ok h2
      obtain ⟨l2, xs2, e3, q3, q4⟩ := z1.at_ i _ h3
      rw [show σ[i]? = some (some (V.ref l)) from e1] at e3
      cases e3
      obtain ⟨v, rfl, rv⟩ := rvs.one
      split at h4
      · rename_i hf
        refine ⟨l, xs2, v, rfl, rfl, q3, by rw [q4.length]; exact fits_lt hf, ?_⟩
        obtain ⟨y1, y2⟩ := z1.olset h3 e1 (q4.append (Rps.cons rv Rps.nil))
        exact h4 σ _ G' y1 (z2.trans y2)
      · exact h4.elim
theorem s_setI (i : Nat) {x : Str} {tpos : Pos} (ha : PE X a (tD C W da)) (hb : PE X b (tD C W db)) (hN : X.N[i]? = some x := by rfl) (hv : Vis X.env.scope x := by first | exact Or.inl rfl | exact Or.inr (Or.inl rfl) | exact Or.inr (Or.inr rfl)) (hd : (x == ("__debug__" : Str)) = false := by decide) (hcd : (x == ("__classdict__" : Str)) = false := by decide)
    (ht : ∀ v, assign (.Subscript (.Name x npos) b tpos) X.env v = (do let ov ← holding [v] (eval (.Name x npos) X.env); let iv ← holding [v, ov] (eval b X.env); standAt tpos; holding [v, ov, iv] (setItem ov iv v); release [v, ov, iv] []) := by intro _; rfl)
    (hs : swapsWithSole [.Subscript (.Name x npos) b tpos] a pos.line X.env = pure false := by rfl) (hw : swappedStores [.Subscript (.Name x npos) b tpos] a X.env = pure none := by rfl) (h1 : (assignEach [.Subscript (.Name x npos) b tpos] X.env).map (·.2) = [assign (.Subscript (.Name x npos) b tpos) X.env] := by rfl) :
    PS X (.Assign [.Subscript (.Name x npos) b tpos] a pos) (tDS C W (dSetI i db da)) := (ps_asg ha (pg_sub (pv i hN hv hd hcd) hb set_list ht) hs hw h1).imp fun D σ H ⟨e, G, hz, h⟩ => by
  refine tD_T (s := ⟨e, σ, H, G⟩) hz ((SatS.bind h).mono fun o s1 hs1 x1 e1 h1 v rv => ?_)
  have hσ : s1.σ = σ := e1
  subst hσ
  obtain ⟨p, ts, h2, h3⟩ := onOl_ok h1
  obtain ⟨l, xs, e2, q1, q2⟩ := hs1.at_ i _ h2
  refine ⟨.ref l, e2, ?_⟩
  refine tD_T hs1 ((SatS.bind h3).mono fun y s2 hs2 x2 e3 h4 w rw' => ?_)
  obtain ⟨p2, ts2, h5, h6⟩ := onOl_ok h4
  obtain ⟨l2, xs2, e4, q3, q4⟩ := hs2.at_ i _ h5
  have e5 : s2.σ[i]? = some (some (V.ref l)) := by rw [e3]; exact e2
  rw [e5] at e4
  cases e4
  cases hj : setAt ts2 y.t o.t with
  | none => rw [hj] at h6; exact h6.elim
  | some us =>
    rw [hj] at h6
    obtain ⟨k, j, hk, hj2, rfl⟩ := setAt_some hj
    rw [hk] at rw'
    cases rw'
    refine ⟨l, xs2, k, j, rfl, rfl, q3, by rw [q4.length]; exact hj2, ?_⟩
    obtain ⟨y1, y2⟩ := hs2.olset h5 e5 (q4.set j (rv.mono x2.g))
    have := h6 s2.σ _ s2.G y1 y2
    rw [show s1.σ = s2.σ from e3.symm]
    exact this
theorem boot_len' : bootBuiltins "len" = some (.builtin "len") := by decide +kernel
theorem e_lenN (i : Nat) {x : Str} {p : Pos} (hg : Gl X "len") (hm : X.mg "len" = none) (hN : X.N[i]? = some x := by rfl) (hv : Vis X.env.scope x := by first | exact Or.inl rfl | exact Or.inr (Or.inl rfl) | exact Or.inr (Or.inr rfl)) (hd : (x == ("__debug__" : Str)) = false := by decide) (hcd : (x == ("__classdict__" : Str)) = false := by decide)
    (he : starEach [.Name x npos] X.env = (false, eval (.Name x npos) X.env) :: starEach [] X.env := by rfl) (hpl : (backTo pos (starEach [] X.env)).any (·.1) = false := by rfl) (hK : C.K = X.K := by rfl) : PE X (.Call (.Name "len" p) [.Name x npos] [] pos) (tD C W (dLenN i)) :=
  (pe_callB call_len hg hm boot_len' (pa_cons (pv i hN hv hd hcd) pa_nil he) (by decide) (by decide) he hpl).imp fun σ H Q ⟨e, G, hz, h⟩ => by
    unfold dLenN at h
    split at h
    · rename_i ts h1
      obtain ⟨v, e1, l, xs, rfl, q1, q2⟩ := hz.at_ i _ h1
      exact ⟨_, e1, _, ts.length, rfl, .inl ⟨xs, .of (hz.sub _ _ q1), q2.length.symm⟩, h H G hz (Ext.refl _) _ rfl⟩
    · rename_i ts h1
      obtain ⟨v, e1, l, xs, rfl, q1, q2⟩ := hz.at_ i _ h1
      exact ⟨_, e1, _, ts.length, rfl, .inl ⟨xs, by rw [← hK]; exact sqL_mono hz.sub q1, q2.length.symm⟩, h H G hz (Ext.refl _) _ rfl⟩
    · rename_i ts h1
      obtain ⟨v, e1, l, xs, rfl, q1, q2⟩ := hz.at_ i _ h1
      exact ⟨_, e1, _, ts.length, rfl, .inr ⟨xs, by rw [← hK]; exact sqT_mono hz.sub q1, q2.length.symm⟩, h H G hz (Ext.refl _) _ rfl⟩
    · rename_i z h1
      split at h
      · rename_i hf
        obtain ⟨v, e1, r⟩ := hz.at_ i _ h1
        cases r
        exact ⟨_, e1, _, z.length, rfl, ⟨fits_le hf, rfl⟩, h H G hz (Ext.refl _) _ rfl⟩
      · exact h.elim
    · rename_i p' ts h1
      obtain ⟨l, xs, e1, q1, q2⟩ := hz.at_ i _ h1
      exact ⟨_, e1, _, ts.length, rfl, .inl ⟨xs, .of q1, q2.length.symm⟩, h H G hz (Ext.refl _) _ rfl⟩
    · rename_i tss h1
      obtain ⟨l, xs, e1, q1, q2, q3, q4⟩ := hz.at_ i _ h1
      exact ⟨_, e1, _, tss.length, rfl, .inl ⟨xs, .of q1, q4.length.symm⟩, h H G hz (Ext.refl _) _ rfl⟩
    · exact h.elim
end

structure CallS (C : VX) (r : List V → Hp → VK → Prop) (f : List T → Option Out) : Prop where
  run : ∀ (s : S) (vs : List V) (ts : List T) (o : Out) (Q : VK), Sees C s → Rps C s.G ts vs → f ts = some o →
    (∀ v H' G', Sees C ⟨s.e, s.σ, H', G'⟩ → Ext s ⟨s.e, s.σ, H', G'⟩ → OutOk C s ⟨s.e, s.σ, H', G'⟩ v o → Q v H') → r vs s.H Q
def dCB (f : List T → Option Out) (d : DA) : DE := fun e => (d e).bind fun ts e1 => Res.of (f ts) e1
def fLen : List T → Option Out
  | [.lst ts] => some (.sh (.int ts.length))
  | [.sq ts] => some (.sh (.int ts.length))
  | [.tup ts] => some (.sh (.int ts.length))
  | [.str x] => if fits x.length then some (.sh (.int x.length)) else none
  | _ => none
def fAbs : List T → Option Out
  | [.int i] => some (.sh (.int (if i < 0 then -i else i)))
  | _ => none
def fInt : List T → Option Out
  | [.int i] => some (.sh (.int i))
  | [.bl b] => some (.sh (.int (if b then 1 else 0)))
  | _ => none
def fList : List T → Option Out
  | [.lst ts] => some (.fr ts)
  | [.sq ts] => some (.fr ts)
  | [.tup ts] => some (.fr ts)
  | _ => none
def fTuple : List T → Option Out
  | [.lst ts] => some (.sh (.tup ts))
  | [.sq ts] => some (.sh (.tup ts))
  | [.tup ts] => some (.sh (.tup ts))
  | _ => none
def intsT : List T → Option (List Int)
  | [] => some []
  | .int i :: ts => (intsT ts).map (i :: ·)
  | _ => none
def listOf : List T → Option (List T)
  | [.lst ts] => some ts
  | _ => none
def fSum (ts : List T) : Option Out := ((listOf ts).bind intsT).map fun ns => .sh (.int ns.sum)
section
variable {C : VX}
theorem intsT_eq : ∀ {ts : List T} {ns : List Int}, intsT ts = some ns → ts = ns.map T.int
  | [], ns, h => by cases h; rfl
  | .int i :: ts, ns, h => by
    have h : (intsT ts).map (i :: ·) = some ns := h
    cases q : intsT ts with
    | none => rw [q] at h; cases h
    | some ms =>
      rw [q] at h
      cases h
      rw [intsT_eq q]; rfl
  | .non :: ts, ns, h => by cases h
  | .bl _ :: ts, ns, h => by cases h
  | .str _ :: ts, ns, h => by cases h
  | .tup _ :: ts, ns, h => by cases h
  | .lst _ :: ts, ns, h => by cases h
  | .sq _ :: ts, ns, h => by cases h
  | .obj _ _ :: ts, ns, h => by cases h
theorem intsT_map : ∀ ns : List Int, intsT (ns.map T.int) = some ns
  | [] => rfl
  | n :: ns => by show (intsT (ns.map T.int)).map (n :: ·) = _; rw [intsT_map ns]; rfl
theorem listOf_eq {ts us : List T} (h : listOf ts = some us) : ts = [.lst us] := by
  unfold listOf at h
  split at h
  · cases h; rfl
  · cases h
theorem listI {s : S} (hs : Sees C s) {ts : List T} {ns : List Int} {vs : List V} (r : Rps C s.G ts vs) (h : (listOf ts).bind intsT = some ns) : ∃ a, vs = [.ref a] ∧ s.H a = some (.lst (ns.map V.int)) := by
  cases q : listOf ts with
  | none => rw [q] at h; cases h
  | some us =>
    rw [q] at h
    have h : intsT us = some ns := h
    rw [listOf_eq q] at r
    obtain ⟨v, rfl, a, xs, rfl, h1, h2⟩ := r.one
    rw [intsT_eq h] at h2
    rw [Rps.ints.mp h2] at h1
    exact ⟨a, rfl, hs.sub _ _ h1⟩
theorem cs_len {K : PySem.W.Frag} (hK : C.K = K := by rfl) : CallS C (fun xs H Q => ∃ x n, xs = [x] ∧ LenV K x H n ∧ Q (.int n) H) fLen := by
  subst hK
  refine ⟨fun s vs ts o Q hs r ho q => ?_⟩
  unfold fLen at ho
  split at ho
  · cases ho
    obtain ⟨v, rfl, a, xs, rfl, h1, h2⟩ := r.one
    exact ⟨_, _, rfl, .inl ⟨xs, .of (hs.sub _ _ h1), h2.length.symm⟩, out_sh hs q rfl⟩
  · cases ho
    obtain ⟨v, rfl, a, xs, rfl, h1, h2⟩ := r.one
    exact ⟨_, _, rfl, .inl ⟨xs, sqL_mono hs.sub h1, h2.length.symm⟩, out_sh hs q rfl⟩
  · cases ho
    obtain ⟨v, rfl, a, xs, rfl, h1, h2⟩ := r.one
    exact ⟨_, _, rfl, .inr ⟨xs, sqT_mono hs.sub h1, h2.length.symm⟩, out_sh hs q rfl⟩
  · split at ho
    · rename_i hf
      cases ho
      obtain ⟨v, rfl, h1⟩ := r.one
      cases h1
      exact ⟨_, _, rfl, ⟨fits_le hf, rfl⟩, out_sh hs q rfl⟩
    · cases ho
  · cases ho
theorem cs_abs : CallS C (fun xs H Q => ∃ i, xs = [.int i] ∧ Q (.int (if i < 0 then -i else i)) H) fAbs := by
  refine ⟨fun s vs ts o Q hs r ho q => ?_⟩
  unfold fAbs at ho
  split at ho
  · cases ho
    obtain ⟨v, rfl, h1⟩ := r.one
    cases h1
    exact ⟨_, rfl, out_sh hs q rfl⟩
  · cases ho
theorem cs_int : CallS C (fun xs H Q => (∃ i, xs = [.int i] ∧ Q (.int i) H) ∨ ∃ k, xs = [.bl k] ∧ Q (.int (if k then 1 else 0)) H) fInt := by
  refine ⟨fun s vs ts o Q hs r ho q => ?_⟩
  unfold fInt at ho
  split at ho
  · cases ho
    obtain ⟨v, rfl, h1⟩ := r.one
    cases h1
    exact .inl ⟨_, rfl, out_sh hs q rfl⟩
  · cases ho
    obtain ⟨v, rfl, h1⟩ := r.one
    cases h1
    exact .inr ⟨_, rfl, out_sh hs q rfl⟩
  · cases ho
theorem cs_list {K : PySem.W.Frag} (hK : C.K = K := by rfl) : CallS C (fun xs H Q => ∃ p ys, xs = [.ref p] ∧ (SqL K H p ys ∨ SqT K H p ys) ∧ ∀ l, H l = none → Q (.ref l) (upd H l (.lst ys))) fList := by
  subst hK
  refine ⟨fun s vs ts o Q hs r ho q => ?_⟩
  unfold fList at ho
  split at ho
  · cases ho
    obtain ⟨v, rfl, a, xs, rfl, h1, h2⟩ := r.one
    exact ⟨_, _, rfl, .inl (.of (hs.sub _ _ h1)), fun p hp => out_lst hs hp q h2⟩
  · cases ho
    obtain ⟨v, rfl, a, xs, rfl, h1, h2⟩ := r.one
    exact ⟨_, _, rfl, .inl (sqL_mono hs.sub h1), fun p hp => out_lst hs hp q h2⟩
  · cases ho
    obtain ⟨v, rfl, a, xs, rfl, h1, h2⟩ := r.one
    exact ⟨_, _, rfl, .inr (sqT_mono hs.sub h1), fun p hp => out_lst hs hp q h2⟩
  · cases ho
theorem cs_tuple {K : PySem.W.Frag} (hK : C.K = K := by rfl) : CallS C (fun xs H Q => ∃ p ys, xs = [.ref p] ∧ ((SqL K H p ys ∧ ∀ l, H l = none → Q (.ref l) (upd H l (.tup ys))) ∨ (SqT K H p ys ∧ Q (.ref p) H))) fTuple := by
  subst hK
  refine ⟨fun s vs ts o Q hs r ho q => ?_⟩
  unfold fTuple at ho
  split at ho
  · cases ho
    obtain ⟨v, rfl, a, xs, rfl, h1, h2⟩ := r.one
    exact ⟨_, _, rfl, .inl ⟨.of (hs.sub _ _ h1), fun p hp => out_tup hs hp q h2⟩⟩
  · cases ho
    obtain ⟨v, rfl, a, xs, rfl, h1, h2⟩ := r.one
    exact ⟨_, _, rfl, .inl ⟨sqL_mono hs.sub h1, fun p hp => out_tup hs hp q h2⟩⟩
  · cases ho
    obtain ⟨v, rfl, a, xs, rfl, h1, h2⟩ := r.one
    exact ⟨_, _, rfl, .inr ⟨sqT_mono hs.sub h1, out_sh hs q ⟨a, xs, rfl, h1, h2⟩⟩⟩
  · cases ho
theorem cs_sum {K : PySem.W.Frag} : CallS C (rSum K) fSum := by
  refine ⟨fun s vs ts o Q hs r ho q => ?_⟩
  unfold fSum at ho
  cases z : (listOf ts).bind intsT with
  | none => rw [z] at ho; cases ho
  | some ns =>
    rw [z] at ho
    cases ho
    obtain ⟨a, rfl, h⟩ := listI hs r z
    exact ⟨a, ns, rfl, .of h, out_sh hs q rfl⟩
end
section
variable {X : Cx} {C : VX} {W : WX} {a : Expr} {es : List Expr} {d : DA} {f : List T → Option Out} {r : List V → Hp → VK → Prop} {x : Str} {p pos : Pos} {id T : String}
theorem tCB_of (hf : CallS C r f) {σ : St} {H : Hp} {Q : VK} (h : tD C W (dCB f d) σ H Q) : tCB r (tDA C W d) σ H Q := by
  obtain ⟨e, G, hs, h⟩ := h
  refine tDA_I (s := ⟨e, σ, H, G⟩) hs ((SatE.bind h).mono fun ts s1 hs1 x1 e1 h1 vs rvs => ?_)
  have hσ : s1.σ = σ := e1
  subst hσ
  obtain ⟨o, ho, k⟩ := SatE.of h1
  exact hf.run s1 vs ts o Q hs1 rvs ho fun u H' G' z1 z2 z3 => k H' G' z1 z2 u (z3.base x1)
theorem e_callB (hc : CallR X (.builtin id) r) (hf : CallS C r f) (hg : Gl X x) (hm : X.mg x = none) (hv : bootBuiltins x = some (.builtin id)) (ha : PA X (a :: es) (tDA C W d)) (hn : x ≠ "__name__" := by decide) (hdb : (x == ("__debug__" : Str)) = false := by decide)
    (he : starEach (a :: es) X.env = (false, eval a X.env) :: starEach es X.env := by rfl) (hpl : (backTo pos (starEach es X.env)).any (·.1) = false := by rfl) : PE X (.Call (.Name x p) (a :: es) [] pos) (tD C W (dCB f d)) := (pe_callB hc hg hm hv ha hn hdb he hpl).imp fun _ _ _ h => tCB_of hf h
theorem e_callTy (hc : CallR X (.type T) r) (hf : CallS C r f) (hg : Gl X x) (hm : X.mg x = none) (hv : bootBuiltins x = some (.type T)) (ha : PA X (a :: es) (tDA C W d)) (hn : x ≠ "__name__" := by decide) (hdb : (x == ("__debug__" : Str)) = false := by decide)
    (he : starEach (a :: es) X.env = (false, eval a X.env) :: starEach es X.env := by rfl) (hpl : (backTo pos (starEach es X.env)).any (·.1) = false := by rfl) : PE X (.Call (.Name x p) (a :: es) [] pos) (tD C W (dCB f d)) := (pe_callTy hc hg hm hv ha hn hdb he hpl).imp fun _ _ _ h => tCB_of hf h
theorem boot_abs' : bootBuiltins "abs" = some (.builtin "abs") := by decide +kernel
theorem boot_sum' : bootBuiltins "sum" = some (.builtin "sum") := by decide +kernel
theorem boot_int' : bootBuiltins "int" = some (.type "int") := by decide +kernel
theorem boot_list' : bootBuiltins "list" = some (.type "list") := by decide +kernel
theorem boot_tuple' : bootBuiltins "tuple" = some (.type "tuple") := by decide +kernel
theorem boot_isi' : bootBuiltins "isinstance" = some (.builtin "isinstance") := by decide +kernel
end

def T.kind : T → Nat
  | .non => 0
  | .bl _ => 1
  | .int _ => 2
  | .str _ => 3
  | .tup _ => 4
  | .lst _ => 5
  | .sq _ => 5
  | .obj c _ => c + 6
def tyOfKind (C : VX) : Nat → Value
  | 0 => .type "NoneType"
  | 1 => .type "bool"
  | 2 => .type "int"
  | 3 => .type "str"
  | 4 => .type "tuple"
  | 5 => .type "list"
  | c + 6 => .ref (C.ca c)
structure InsTy (K : PySem.W.Frag) (A : Addr) : Prop where
  cl : Cls K A
  ha : PySem.W.findIn K (.ref A) "__class__" = some (some (.builtin "object.__class__"))
  hn : PySem.W.specialIn K (.builtin "object.__class__") "__get__" = some (some (.builtin "getset_descriptor.__get__"))
  ht : PySem.W.takesIn K (.builtin "object.__class__") = some true
  hm : PySem.W.mroIn K A (.type "object") = some true
theorem tyX_of {C : VX} {G H : Hp} (g : ∀ a o, G a = some o → H a = some o) {t : T} {v : V} (h : Rp C G t v) (hi : ∀ c, t.kind = c + 6 → InsTy C.K (C.ca c)) : TyX C.K H v (tyOfKind C t.kind) := by
  cases t with
  | non => cases h; exact .base .non
  | bl b => cases h; exact .base (.bl b)
  | int i => cases h; exact .base (.int i)
  | str x => cases h; exact .base (.str x)
  | tup ts =>
    obtain ⟨a, xs, rfl, h1, _⟩ := h
    rcases h1 with (h1 | ⟨o, h1⟩) | ⟨o, its, n, h1, h2, _⟩
    · exact .base (.tup (g _ _ h1))
    · exact .fTuple (g _ _ h1)
    · exact .kTuple h1 h2
  | lst ts =>
    obtain ⟨a, xs, rfl, h1, _⟩ := h
    exact .base (.lst (g _ _ h1))
  | sq ts =>
    obtain ⟨a, xs, rfl, h1, _⟩ := h
    rcases h1 with (h1 | ⟨o, h1⟩) | ⟨o, its, n, h1, h2, _⟩
    · exact .base (.lst (g _ _ h1))
    · exact .base (.frz (g _ _ h1))
    · exact .kList h1 h2
  | obj c ts =>
    obtain ⟨a, dx, xs, rfl, h1, _⟩ := h
    have z := hi c rfl
    exact .base (.ins (g _ _ h1) z.cl z.ha z.hn z.ht z.hm)
def dIsi (tbl : Nat → Option Bool) (da : DE) : DE := fun e => (da e).bind fun a e1 => match tbl a.t.kind with
  | some b => .ok (.sh (.bl b)) e1
  | none => .bad
structure IsiTbl (C : VX) (u : Value) (tbl : Nat → Option Bool) : Prop where
  ok : ∀ k b, tbl k = some b → PySem.W.kitOne C.K (tyOfKind C k) u = some b
  ins : ∀ c b, tbl (c + 6) = some b → InsTy C.K (C.ca c)
structure IsiTbls (C : VX) (us : List Value) (tbl : Nat → Option Bool) : Prop where
  ok : ∀ k b, tbl k = some b → PySem.W.kitAny C.K (tyOfKind C k) us = some b
  ins : ∀ c b, tbl (c + 6) = some b → InsTy C.K (C.ca c)
section
variable {X : Cx} {C : VX} {W : WX} {a c : Expr} {da : DE} {p pos : Pos} {tbl : Nat → Option Bool}
theorem e_isi {w : V} {u : Value} (hg : Gl X "isinstance") (hm : X.mg "isinstance" = none) (ha : PE X a (tD C W da)) (hc : PE X c (tC w)) (k : ClsV w u) (ht : IsiTbl C u tbl)
    (he : starEach [a, c] X.env = (false, eval a X.env) :: starEach [c] X.env := by rfl) (he2 : starEach [c] X.env = (false, eval c X.env) :: starEach [] X.env := by rfl) (hpl : (backTo pos (starEach [c] X.env)).any (·.1) = false := by rfl) (hK : C.K = X.K := by rfl) :
    PE X (.Call (.Name "isinstance" p) [a, c] [] pos) (tD C W (dIsi tbl da)) := (pe_callB call_isi hg hm boot_isi' (pa_cons ha (pa_cons hc pa_nil he2) he) (by decide) (by decide) he hpl).imp fun σ H Q ⟨e, G, hs, h⟩ => by
  refine tD_T (s := ⟨e, σ, H, G⟩) hs ((SatE.bind h).mono fun x s1 hs1 x1 e1 h1 v rv => ?_)
  have h1 : SatE C W s1 (match tbl x.t.kind with | some b => Res.ok (Out.sh (.bl b)) s1.e | none => .bad) (fun o s' => ∀ v, OutOk C ⟨e, _, H, G⟩ s' v o → Q v s'.H) := h1
  split at h1
  · rename_i b hb
    refine ⟨v, w, tyOfKind C x.t.kind, u, b, rfl, k, ?_, ?_, h1 s1.H s1.G hs1 (Ext.refl _) _ rfl⟩
    · rw [← hK]
      exact tyX_of hs1.sub rv fun c hc => ht.ins c b (by rw [← hc]; exact hb)
    · rw [← hK]
      exact ht.ok _ _ hb
  · exact h1.elim
theorem e_isiT {cs : List Expr} {ws : List V} {us : List Value} {k1 : Nat} {tp : Pos} (hg : Gl X "isinstance") (hm : X.mg "isinstance" = none) (ha : PE X a (tD C W da)) (hc : PA X cs (fun _ H Q => Q ws H)) (k : Paired ClsV ws us) (hl : ws.length ≤ sizeLine) (ht : IsiTbls C us tbl)
    (he : starEach [a, .Tuple cs k1 tp] X.env = (false, eval a X.env) :: starEach [.Tuple cs k1 tp] X.env := by rfl) (he2 : starEach [.Tuple cs k1 tp] X.env = (false, eval (.Tuple cs k1 tp) X.env) :: starEach [] X.env := by rfl) (hpl : (backTo pos (starEach [.Tuple cs k1 tp] X.env)).any (·.1) = false := by rfl) (hK : C.K = X.K := by rfl) :
    PE X (.Call (.Name "isinstance" p) [a, .Tuple cs k1 tp] [] pos) (tD C W (dIsi tbl da)) := (pe_callB call_isiT hg hm boot_isi' (pa_cons ha (pa_cons (pe_tup hc) pa_nil he2) he) (by decide) (by decide) he hpl).imp fun σ H Q ⟨e, G, hs, h⟩ => by
  refine tD_T (s := ⟨e, σ, H, G⟩) hs ((SatE.bind h).mono fun x s1 hs1 x1 e1 h1 v rv => ?_)
  have hσ : s1.σ = σ := e1
  subst hσ
  have h1 : SatE C W s1 (match tbl x.t.kind with | some b => Res.ok (Out.sh (.bl b)) s1.e | none => .bad) (fun o s' => ∀ v, OutOk C ⟨e, _, H, G⟩ s' v o → Q v s'.H) := h1
  split at h1
  · rename_i b hb
    refine ⟨hl, fun q hq => ?_⟩
    obtain ⟨z1, z2⟩ := hs1.newG hq (.tup ws)
    refine ⟨v, q, ws, tyOfKind C x.t.kind, us, b, rfl, upd_same, k, ?_, ?_, h1 _ _ z1 z2 _ rfl⟩
    · rw [← hK]
      exact tyX_of z1.sub (rv.mono z2.g) fun c hc => ht.ins c b (by rw [← hc]; exact hb)
    · rw [← hK]
      exact ht.ok _ _ hb
  · exact h1.elim
end
end L2.VD

namespace L2.VD
open PySem PySem.Spec PyProof.Rows

inductive AV where
  | v (t : T) | l (i : Nat)
abbrev DC := List Slot → Res (List AV)
def AVs (C : VX) (s : S) : List AV → List V → Prop
  | [], vs => vs = []
  | .v t :: r, vs => ∃ x q, vs = x :: q ∧ Rp C s.G t x ∧ AVs C s r q
  | .l i :: r, vs => ∃ x q, vs = x :: q ∧ s.σ[i]? = some (some x) ∧ AVs C s r q
def tDC (C : VX) (W : WX) (d : DC) : TA := fun σ H Q => ∃ e G, Sees C ⟨e, σ, H, G⟩ ∧ SatE C W ⟨e, σ, H, G⟩ (d e) fun avs s' => ∀ vs, AVs C s' avs vs → Q vs s'.H
def cNil : DC := fun e => .ok [] e
def cVal (da : DE) (dr : DC) : DC := fun e => (da e).bind fun o e1 => (dr e1).bind fun avs e2 => .ok (.v o.t :: avs) e2
def cLend (i : Nat) (dr : DC) : DC := fun e => match e[i]? with
  | some (.ol _ _) => (dr e).bind fun avs e2 => .ok (.l i :: avs) e2
  | _ => .bad
section
variable {X : Cx} {C : VX} {W : WX} {x : Expr} {es : List Expr} {da : DE} {dr : DC} {pos npos : Pos} {s : S}
theorem tDC_I {d : DC} {Q : List V → Hp → Prop} (hs : Sees C s) (h : SatE C W s (d s.e) fun avs s1 => ∀ vs, AVs C s1 avs vs → Q vs s1.H) : tDC C W d s.σ s.H Q := ⟨s.e, s.G, hs, h⟩
theorem c_nil : PA X [] (tDC C W cNil) := pa_nil.imp fun σ H Q ⟨e, G, hs, h⟩ => h H G hs (Ext.refl _) [] rfl
theorem c_cons (ha : PE X x (tD C W da)) (hr : PA X es (tDC C W dr)) (hst : starEach (x :: es) X.env = (false, eval x X.env) :: starEach es X.env := by rfl) : PA X (x :: es) (tDC C W (cVal da dr)) := (pa_cons ha hr hst).imp fun σ H Q ⟨e, G, hs, h⟩ => by
  refine tD_T (s := ⟨e, σ, H, G⟩) hs ((SatE.bind h).mono fun x s1 hs1 x1 e1 h1 v rv => ?_)
  have hσ : s1.σ = σ := e1
  subst hσ
  refine tDC_I hs1 ((SatE.bind h1).mono fun ts s2 hs2 x2 e2 h2 vs rvs => ?_)
  exact h2 s2.H s2.G hs2 (Ext.refl _) _ ⟨v, vs, rfl, rv.mono x2.g, rvs⟩
theorem c_lend (i : Nat) {y : Str} (hr : PA X es (tDC C W dr)) (hN : X.N[i]? = some y := by rfl) (hv : Vis X.env.scope y := by first | exact Or.inl rfl | exact Or.inr (Or.inl rfl) | exact Or.inr (Or.inr rfl)) (hd : (y == ("__debug__" : Str)) = false := by decide) (hcd : (y == ("__classdict__" : Str)) = false := by decide)
    (hst : starEach (.Name y npos :: es) X.env = (false, eval (.Name y npos) X.env) :: starEach es X.env := by rfl) : PA X (.Name y npos :: es) (tDC C W (cLend i dr)) := (pa_cons (pv i hN hv hd hcd) hr hst).imp fun σ H Q ⟨e, G, hs, h⟩ => by
  unfold cLend at h
  split at h
  · rename_i p ts h1
    obtain ⟨a, xs, e1, q1, q2⟩ := hs.at_ i _ h1
    refine ⟨.ref a, e1, ?_⟩
    refine tDC_I (s := ⟨e, σ, H, G⟩) hs ((SatE.bind h).mono fun ts s2 hs2 x2 e2 h2 vs rvs => ?_)
    have hσ : s2.σ = σ := e2
    subst hσ
    exact h2 s2.H s2.G hs2 (Ext.refl _) _ ⟨.ref a, vs, rfl, e1, rvs⟩
  · exact h.elim
end

abbrev DF := List Slot → Res Out
def Fl.out : Fl → Option Out
  | .nx => some (.sh .non)
  | .rt o => some o
  | _ => none
def fnD (nl : Nat) (d : DS) : DF := fun ss => (d (ss ++ List.replicate nl .un)).bind fun f e => Res.of f.out e
def SatF (C : VX) (s : S) (r : Res Out) (Q : VK) (E : XK) : Prop := match r with
  | .ok o e' => ∀ σ' H' G', Sees C ⟨e', σ', H', G'⟩ → Ext s ⟨e', σ', H', G'⟩ → ∀ v, OutOk C s ⟨e', σ', H', G'⟩ v o → Q v H'
  | .ex x e' => ∀ cls d σ' H' G', Sees C ⟨e', σ', H', G'⟩ → Ext s ⟨e', σ', H', G'⟩ → XOk C ⟨e', σ', H', G'⟩ cls d x → E cls d H'
  | .bad => False
def spD (C : VX) (np : Nat) (F : DF) : Sp := fun vs H Q E => vs.length = np ∧ ∃ ss G, Sees C ⟨ss, vs.map some, H, G⟩ ∧ SatF C ⟨ss, vs.map some, H, G⟩ (F ss) Q E
section
variable {C : VX}
theorem getRep {α : Type} {l : List α} {n : Nat} {x y : α} {i : Nat} (h : (l ++ List.replicate n x)[i]? = some y) : l[i]? = some y ∨ (l.length ≤ i ∧ y = x) := by
  by_cases hi : i < l.length
  · rw [List.getElem?_append_left hi] at h
    exact .inl h
  · rw [List.getElem?_append_right (by omega), List.getElem?_replicate] at h
    split at h
    · exact .inr ⟨by omega, (Option.some.inj h).symm⟩
    · cases h
theorem Owns.pad {ss : List Slot} {vs : List V} {H G : Hp} {n : Nat} (hl : ss.length = vs.length) {i : Nat} {a : Addr} : Owns ⟨ss ++ List.replicate n .un, vs.map some ++ List.replicate n none, H, G⟩ i a ↔ Owns ⟨ss, vs.map some, H, G⟩ i a := by
  constructor
  · rintro ⟨sl, v, h1, h2, h3⟩
    have h1 : (ss ++ List.replicate n Slot.un)[i]? = some sl := h1
    have h2 : (vs.map some ++ List.replicate n none)[i]? = some (some v) := h2
    rcases getRep h1 with h1' | ⟨_, rfl⟩
    · have hi : i < (vs.map some).length := by rw [List.length_map, ← hl]; exact (List.getElem?_eq_some_iff.mp h1').1
      rw [List.getElem?_append_left hi] at h2
      exact ⟨sl, v, h1', h2, h3⟩
    · exact h3.elim
  · rintro ⟨sl, v, h1, h2, h3⟩
    have h1 : ss[i]? = some sl := h1
    have h2 : (vs.map some)[i]? = some (some v) := h2
    refine ⟨sl, v, ?_, ?_, h3⟩
    · show (ss ++ List.replicate n Slot.un)[i]? = some sl
      rw [List.getElem?_append_left (List.getElem?_eq_some_iff.mp h1).1]
      exact h1
    · show (vs.map some ++ List.replicate n none)[i]? = some (some v)
      rw [List.getElem?_append_left (List.getElem?_eq_some_iff.mp h2).1]
      exact h2
theorem Sees.pad {ss : List Slot} {vs : List V} {H G : Hp} (hs : Sees C ⟨ss, vs.map some, H, G⟩) (n : Nat) : Sees C ⟨ss ++ List.replicate n .un, vs.map some ++ List.replicate n none, H, G⟩ := by
  have hl : ss.length = vs.length := by have := hs.len; rw [List.length_map] at this; exact this
  refine ⟨hs.sub, ?_, fun i sl h => ?_, fun i a h => hs.own i a ((Owns.pad hl).mp h), fun i j a h1 h2 => hs.inj i j a ((Owns.pad hl).mp h1) ((Owns.pad hl).mp h2)⟩
  · show (ss ++ List.replicate n Slot.un).length = (vs.map some ++ List.replicate n none).length
    rw [List.length_append, List.length_append, List.length_replicate, List.length_replicate, List.length_map, hl]
  · show SlotOk C G H (vs.map some ++ List.replicate n none)[i]? sl
    rcases getRep h with h' | ⟨_, rfl⟩
    · rw [List.getElem?_append_left (by rw [List.length_map, ← hl]; exact (List.getElem?_eq_some_iff.mp h').1)]
      exact hs.at_ i sl h'
    · trivial
theorem Ext.unpad {ss : List Slot} {vs : List V} {H G : Hp} {n : Nat} {s' : S} (hl : ss.length = vs.length) (x : Ext ⟨ss ++ List.replicate n .un, vs.map some ++ List.replicate n none, H, G⟩ s') : Ext ⟨ss, vs.map some, H, G⟩ s' := by
  refine ⟨x.g, fun a o h hn => x.keep a o h fun i hi => hn i ((Owns.pad hl).mp hi), fun a h => ?_, fun i a h => ?_, fun i k h => ?_⟩
  · rcases x.gnew a h with h | h | ⟨i, h⟩
    · exact .inl h
    · exact .inr (.inl h)
    · exact .inr (.inr ⟨i, (Owns.pad hl).mp h⟩)
  · rcases x.own i a h with h | ⟨j, h⟩
    · exact .inl h
    · exact .inr ⟨j, (Owns.pad hl).mp h⟩
  · have h : (ss[i]?).bind Slot.pk = some k := h
    have hi : i < ss.length := by
      cases q : ss[i]? with
      | none => rw [q] at h; exact nomatch h
      | some s0 => exact (List.getElem?_eq_some_iff.mp q).1
    obtain ⟨h1, h2⟩ := x.pin i k (by show ((ss ++ List.replicate n Slot.un)[i]?).bind _ = _; rw [List.getElem?_append_left hi]; exact h)
    refine ⟨h1.trans ?_, h2⟩
    show (vs.map some ++ List.replicate n none)[i]? = (vs.map some)[i]?
    rw [List.getElem?_append_left (by rw [List.length_map, ← hl]; exact hi)]
theorem Fresh.unpad {ss : List Slot} {vs : List V} {H G : Hp} {n : Nat} {s' : S} {a : Addr} (hl : ss.length = vs.length) (f : Fresh ⟨ss ++ List.replicate n .un, vs.map some ++ List.replicate n none, H, G⟩ s' a) : Fresh ⟨ss, vs.map some, H, G⟩ s' a :=
  ⟨f.g, f.no, f.new.imp id fun ⟨j, h⟩ => ⟨j, (Owns.pad hl).mp h⟩⟩
theorem OutOk.from {s0 s1 : S} {e1 e2 : List Slot} {σ1 σ2 : St} {H G : Hp} {v : V} (f : ∀ a, Fresh s0 ⟨e1, σ1, H, G⟩ a → Fresh s1 ⟨e2, σ2, H, G⟩ a) : ∀ {o : Out}, OutOk C s0 ⟨e1, σ1, H, G⟩ v o → OutOk C s1 ⟨e2, σ2, H, G⟩ v o
  | .sh _, h => h
  | .fr _, ⟨a, xs, e, h1, z, h2⟩ => ⟨a, xs, e, h1, f a z, h2⟩
  | .frr _, ⟨a, xs, e, h1, z, h2, h3, h4, h5⟩ => ⟨a, xs, e, h1, f a z, h2, h3, h4, fun b hb => f b (h5 b hb)⟩
  | .ft _, ⟨a, xs, e, h1, h2, h3, h4⟩ => ⟨a, xs, e, h1, h2, h3, fun b hb => f b (h4 b hb)⟩
theorem fn_D {P : Program} {w : World} {K : PySem.W.Frag} {mg : Str → Option Value} {base : Heap} {x qual : Str} {st : Stmt} {f : Addr} {fd : FuncData} {N ps : List Str} {k : Nat} {d : DS} (F : Fun K x qual st f fd) (S : FnScope N ps (defScope st)) {nl : Nat} (hN : N.length = ps.length + nl)
    (body : ∀ (cdv : Value) (A : Around) (outer : List Env) (s : Shared) (H : Hp) (E : XK), Room k (A.deeper (envOfC qual (defScope st) s.heap.objs.size f cdv)) →
      PSs (cxOf (L2.CX P w) P w K mg base N qual (defScope st) f cdv A outer s H E) (defBody st) (tDS C (fun cls d _ H => E cls d H) d)) :
    FnOk P w K mg base (L2.CX P w) (k + 1) f fd ps (spD C ps.length (fnD nl d)) := by
  refine F.okX S (fun vs H Q E h => h.1) (fun cdv A outer s H vs Q E hr h => ⟨_, body cdv A outer s H E hr, ?_⟩)
  obtain ⟨hv, ss, G, hs, h⟩ := h
  have hl : ss.length = vs.length := by have := hs.len; rw [List.length_map] at this; exact this
  have es : L2.start N vs = vs.map some ++ List.replicate nl none := by
    unfold L2.start
    rw [hN, hv, Nat.add_sub_cancel_left]
  rw [es]
  refine ⟨ss ++ List.replicate nl .un, G, hs.pad nl, ?_⟩
  unfold fnD at h
  cases q : d (ss ++ List.replicate nl .un) with
  | bad => rw [q] at h; exact h
  | ex y e => rw [q] at h; exact fun cls d σ' H' G' z1 z2 z3 => h cls d σ' H' G' z1 (z2.unpad hl) z3
  | ok f e =>
    rw [q] at h
    intro σ' H' G' z1 z2
    cases f with
    | bk => exact h.elim
    | ct => exact h.elim
    | nx => exact h σ' H' G' z1 (z2.unpad hl) _ rfl
    | rt o => exact fun v ov => h σ' H' G' z1 (z2.unpad hl) v (ov.from fun a z => z.unpad hl)
end

def lentOf : List AV → List Nat
  | [] => []
  | .v _ :: r => lentOf r
  | .l i :: r => i :: lentOf r
def slotOf (e : List Slot) : AV → Option Slot
  | .v t => some (.sh t)
  | .l i => match e[i]? with
    | some (.ol _ ts) => some (.ol true ts)
    | _ => none
def slotsOf (e : List Slot) : List AV → Option (List Slot)
  | [] => some []
  | a :: r => (slotOf e a).bind fun x => (slotsOf e r).map fun xs => x :: xs
def back1 (e : List Slot) (i : Nat) : Slot → List Slot
  | .ol _ ts' => match e[i]? with
    | some (.ol p _) => e.set i (.ol p ts')
    | _ => e
  | _ => e
def putBack (e' : List Slot) : Nat → List AV → List Slot → List Slot
  | _, [], e => e
  | k, .v _ :: r, e => putBack e' (k + 1) r e
  | k, .l i :: r, e => putBack e' (k + 1) r (match e'[k]? with
    | some sl => back1 e i sl
    | none => e)
def nodupB : List Nat → Bool
  | [] => true
  | i :: r => !r.contains i && nodupB r
theorem nodupB_iff {l : List Nat} (h : nodupB l = true) : l.Nodup := by
  induction l with
  | nil => exact List.nodup_nil
  | cons i r ih =>
    unfold nodupB at h
    rw [Bool.and_eq_true, Bool.not_eq_true'] at h
    refine List.nodup_cons.mpr ⟨fun hm => ?_, ih h.2⟩
    have := List.contains_iff_mem.mpr hm
    rw [h.1] at this
    cases this
def mapE {α : Type} (g : List Slot → List Slot) : Res α → Res α
  | .ok a e => .ok a (g e)
  | .ex x e => .ex x (g e)
  | .bad => .bad
def runF (F : DF) (avs : List AV) (e : List Slot) : Res Out := match slotsOf e avs with
  | some ss => if nodupB (lentOf avs) then mapE (fun e' => putBack e' 0 avs e) (F ss) else .bad
  | none => .bad
section
variable {C : VX} {W : WX}
theorem AVs.app {s : S} {dvs : List V} : ∀ {avs : List AV} {vs : List V} {bvs : List AV}, AVs C s avs vs → AVs C s bvs dvs → AVs C s (avs ++ bvs) (vs ++ dvs)
  | [], vs, _, h, k => by
    have e : vs = [] := h
    rw [e]; exact k
  | .v t :: r, _, _, ⟨x, q, e, h1, h2⟩, k => ⟨x, q ++ dvs, by rw [e]; rfl, h1, h2.app k⟩
  | .l i :: r, _, _, ⟨x, q, e, h1, h2⟩, k => ⟨x, q ++ dvs, by rw [e]; rfl, h1, h2.app k⟩
theorem AVs.ofR {s : S} : ∀ {ts : List T} {vs : List V}, Rps C s.G ts vs → AVs C s (ts.map .v) vs
  | [], _, h => h
  | t :: ts, _, ⟨x, q, e, h1, h2⟩ => ⟨x, q, e, h1, AVs.ofR h2⟩
theorem AVs.length {s : S} : ∀ {avs : List AV} {vs : List V}, AVs C s avs vs → vs.length = avs.length
  | [], _, h => by
    have e : _ = [] := h
    rw [e]; rfl
  | .v t :: r, _, ⟨x, q, e, h1, h2⟩ => by rw [e, List.length_cons, List.length_cons, h2.length]
  | .l i :: r, _, ⟨x, q, e, h1, h2⟩ => by rw [e, List.length_cons, List.length_cons, h2.length]
theorem slotsOf_len {e : List Slot} : ∀ {avs : List AV} {ss : List Slot}, slotsOf e avs = some ss → ss.length = avs.length
  | [], ss, h => by cases h; rfl
  | a :: r, ss, h => by
    unfold slotsOf at h
    cases q : slotOf e a with
    | none => rw [q] at h; cases h
    | some x =>
      rw [q] at h
      cases q2 : slotsOf e r with
      | none => rw [q2] at h; cases h
      | some xs => rw [q2] at h; cases h; rw [List.length_cons, List.length_cons, slotsOf_len q2]
theorem slotsOf_get {s : S} : ∀ {avs : List AV} {vs : List V} {ss : List Slot} {k : Nat} {sl : Slot}, AVs C s avs vs → slotsOf s.e avs = some ss → ss[k]? = some sl →
    ∃ x, vs[k]? = some x ∧ ((∃ t, avs[k]? = some (.v t) ∧ sl = .sh t ∧ Rp C s.G t x) ∨ ∃ i p ts, avs[k]? = some (.l i) ∧ sl = .ol true ts ∧ s.e[i]? = some (.ol p ts) ∧ s.σ[i]? = some (some x))
  | [], _, ss, k, sl, _, h, h2 => by cases h; cases h2
  | a :: r, vs, ss, k, sl, h1, h, h2 => by
    unfold slotsOf at h
    cases q : slotOf s.e a with
    | none => rw [q] at h; cases h
    | some x =>
      rw [q] at h
      cases q2 : slotsOf s.e r with
      | none => rw [q2] at h; cases h
      | some xs =>
        rw [q2] at h
        cases h
        cases a with
        | v t =>
          obtain ⟨y, w, rfl, z1, z2⟩ := h1
          cases k with
          | zero =>
            cases h2
            cases q
            exact ⟨y, rfl, .inl ⟨t, rfl, rfl, z1⟩⟩
          | succ k =>
            have := slotsOf_get (k := k) z2 q2 (show xs[k]? = some sl from h2)
            exact this
        | l i =>
          obtain ⟨y, w, rfl, z1, z2⟩ := h1
          cases k with
          | zero =>
            cases h2
            unfold slotOf at q
            dsimp only at q
            split at q
            · rename_i p ts hp
              cases q
              exact ⟨y, rfl, .inr ⟨i, p, ts, rfl, rfl, hp, z1⟩⟩
            · cases q
          | succ k =>
            have := slotsOf_get (k := k) z2 q2 (show xs[k]? = some sl from h2)
            exact this
theorem lent_mem : ∀ {avs : List AV} {k i : Nat}, avs[k]? = some (AV.l i) → i ∈ lentOf avs
  | [], k, i, h => by cases h
  | .v t :: r, 0, i, h => by cases h
  | .v t :: r, k + 1, i, h => lent_mem (avs := r) h
  | .l j :: r, 0, i, h => by cases h; exact List.mem_cons_self ..
  | .l j :: r, k + 1, i, h => List.mem_cons_of_mem _ (lent_mem (avs := r) h)
theorem lent_inj : ∀ {avs : List AV} {k m i : Nat}, (lentOf avs).Nodup → avs[k]? = some (.l i) → avs[m]? = some (.l i) → k = m
  | [], k, _, i, _, h, _ => by cases h
  | .v t :: r, 0, _, i, _, h, _ => by cases h
  | .v t :: r, k + 1, 0, i, _, h, h2 => by cases h2
  | .v t :: r, k + 1, m + 1, i, hn, h, h2 => by rw [lent_inj (avs := r) hn h h2]
  | .l j :: r, 0, 0, i, _, h, _ => rfl
  | .l j :: r, k + 1, 0, i, hn, h, h2 => by
    cases h2
    exact absurd (lent_mem (avs := r) h) (List.nodup_cons.mp hn).1
  | .l j :: r, 0, m + 1, i, hn, h, h2 => by
    cases h
    exact absurd (lent_mem (avs := r) h2) (List.nodup_cons.mp hn).1
  | .l j :: r, k + 1, m + 1, i, hn, h, h2 => by rw [lent_inj (avs := r) (List.nodup_cons.mp hn).2 h h2]
theorem Sees.enter {s : S} (hs : Sees C s) {avs : List AV} {vs : List V} {ss : List Slot} (h1 : AVs C s avs vs) (h2 : slotsOf s.e avs = some ss) (hn : (lentOf avs).Nodup) :
    Sees C ⟨ss, vs.map some, s.H, s.G⟩ ∧ ∀ k a, Owns ⟨ss, vs.map some, s.H, s.G⟩ k a → ∃ i, avs[k]? = some (AV.l i) ∧ Owns s i a := by
  have own : ∀ k a, Owns ⟨ss, vs.map some, s.H, s.G⟩ k a → ∃ i, avs[k]? = some (AV.l i) ∧ Owns s i a := by
    rintro k a ⟨sl, v, q1, q2, q3⟩
    obtain ⟨x, z1, z2⟩ := slotsOf_get h1 h2 q1
    rcases z2 with ⟨t, _, rfl, _⟩ | ⟨i, p, ts, z3, rfl, z4, z5⟩
    · exact q3.elim
    · have q2 : (vs.map some)[k]? = some (some v) := q2
      rw [List.getElem?_map, z1] at q2
      cases q2
      exact ⟨i, z3, _, _, z4, z5, q3⟩
  refine ⟨⟨hs.sub, ?_, fun k sl q1 => ?_, fun k a h => ?_, fun k m a q1 q2 => ?_⟩, own⟩
  · show ss.length = (vs.map some).length
    rw [List.length_map, h1.length, slotsOf_len h2]
  · obtain ⟨x, z1, z2⟩ := slotsOf_get h1 h2 q1
    show SlotOk C s.G s.H (vs.map some)[k]? sl
    rw [List.getElem?_map, z1]
    rcases z2 with ⟨t, _, rfl, z3⟩ | ⟨i, p, ts, z3, rfl, z4, z5⟩
    · exact ⟨x, rfl, z3⟩
    · obtain ⟨a, xs, e, y1, y2⟩ := hs.at_ i _ z4
      rw [z5] at e
      cases e
      exact ⟨a, xs, rfl, y1, y2⟩
  · obtain ⟨i, _, h⟩ := own k a h
    exact hs.own i a h
  · obtain ⟨i, y1, y2⟩ := own k a q1
    obtain ⟨j, y3, y4⟩ := own m a q2
    have := hs.inj i j a y2 y4
    subst this
    exact lent_inj hn y1 y3
theorem back1_get {e : List Slot} {i : Nat} {sl : Slot} {j : Nat} : (back1 e i sl)[j]? = e[j]? ∨ (j = i ∧ ∃ p ts ts', e[j]? = some (.ol p ts) ∧ (back1 e i sl)[j]? = some (.ol p ts') ∧ ∃ b, sl = .ol b ts') := by
  unfold back1
  split
  · rename_i b ts'
    split
    · rename_i p ts hp
      by_cases hj : j = i
      · subst hj
        exact .inr ⟨rfl, p, ts, ts', hp, List.getElem?_set_self (List.getElem?_eq_some_iff.mp hp).1, b, rfl⟩
      · exact .inl (List.getElem?_set_ne (Ne.symm hj))
    · exact .inl rfl
  · exact .inl rfl
theorem back1_at {e : List Slot} {i : Nat} {p b : Bool} {ts ts' : List T} (h : e[i]? = some (.ol p ts)) : (back1 e i (.ol b ts'))[i]? = some (.ol p ts') := by
  unfold back1
  dsimp only
  rw [h]
  exact List.getElem?_set_self (List.getElem?_eq_some_iff.mp h).1
theorem putBack_get {e' : List Slot} {j : Nat} : ∀ {avs : List AV} {n : Nat} {e : List Slot}, (∀ k i : Nat, avs[k]? = some (AV.l i) → (∃ p ts, e[i]? = some (Slot.ol p ts)) ∧ ∃ b ts', e'[n + k]? = some (Slot.ol b ts')) →
    ((∀ k : Nat, avs[k]? ≠ some (AV.l j)) ∧ (putBack e' n avs e)[j]? = e[j]?) ∨ ∃ k b p ts ts', avs[k]? = some (AV.l j) ∧ e[j]? = some (Slot.ol p ts) ∧ e'[n + k]? = some (Slot.ol b ts') ∧ (putBack e' n avs e)[j]? = some (Slot.ol p ts')
  | [], n, e, h => .inl ⟨fun k z => (nomatch z), by unfold putBack; rfl⟩
  | .v t :: r, n, e, h => by
    have ih := putBack_get (j := j) (avs := r) (n := n + 1) (e := e) (fun k i q => by
      have := h (k + 1) i q
      rw [show n + 1 + k = n + (k + 1) by omega]
      exact this)
    rcases ih with ⟨z1, z2⟩ | ⟨k, b, p, ts, ts', z1, z2, z3, z4⟩
    · refine .inl ⟨fun k => ?_, z2⟩
      cases k with
      | zero => exact fun z => (nomatch z)
      | succ k => exact z1 k
    · exact .inr ⟨k + 1, b, p, ts, ts', z1, z2, by rw [show n + (k + 1) = n + 1 + k by omega]; exact z3, z4⟩
  | .l i :: r, n, e, h => by
    obtain ⟨⟨p0, ts0, h0⟩, b0, ts0', h0'⟩ := h 0 i rfl
    have e0 : putBack e' n (.l i :: r) e = putBack e' (n + 1) r (back1 e i (.ol b0 ts0')) := by
      show putBack e' (n + 1) r (match e'[n]? with | some sl => back1 e i sl | none => e) = _
      rw [show e'[n]? = some (Slot.ol b0 ts0') from h0']
    rw [e0]
    have step : ∀ m : Nat, (∃ p ts, e[m]? = some (Slot.ol p ts)) → ∃ p ts, (back1 e i (.ol b0 ts0'))[m]? = some (Slot.ol p ts) := by
      rintro m ⟨p, ts, hm⟩
      rcases back1_get (e := e) (i := i) (sl := .ol b0 ts0') (j := m) with q | ⟨_, p, ts, ts', _, q, _⟩
      · rw [q]; exact ⟨p, ts, hm⟩
      · exact ⟨p, ts', q⟩
    have ih := putBack_get (j := j) (avs := r) (n := n + 1) (e := back1 e i (.ol b0 ts0')) (fun k m q => by
      have := h (k + 1) m q
      rw [show n + 1 + k = n + (k + 1) by omega]
      exact ⟨step m this.1, this.2⟩)
    rcases ih with ⟨z1, z2⟩ | ⟨k, b, p, ts, ts', z1, z2, z3, z4⟩
    · by_cases hj : j = i
      · subst hj
        exact .inr ⟨0, b0, p0, ts0, ts0', rfl, h0, h0', z2.trans (back1_at h0)⟩
      · refine .inl ⟨fun k => ?_, ?_⟩
        · cases k with
          | zero =>
            intro z
            cases z
            exact hj rfl
          | succ k => exact z1 k
        · rw [z2]
          rcases back1_get (e := e) (i := i) (sl := .ol b0 ts0') (j := j) with q | ⟨q, _⟩
          · exact q
          · exact absurd q hj
    · have z3' : e'[n + (k + 1)]? = some (Slot.ol b ts') := by rw [show n + (k + 1) = n + 1 + k by omega]; exact z3
      rcases back1_get (e := e) (i := i) (sl := .ol b0 ts0') (j := j) with q | ⟨q, p', ts1, ts1', q1, q2, q3⟩
      · rw [q] at z2
        exact .inr ⟨k + 1, b, p, ts, ts', z1, z2, z3', z4⟩
      · rw [q2] at z2
        cases z2
        exact .inr ⟨k + 1, b, p, ts1, ts', z1, q1, z3', z4⟩
theorem putBack_len {e' : List Slot} : ∀ {avs : List AV} {n : Nat} {e : List Slot}, (putBack e' n avs e).length = e.length
  | [], n, e => rfl
  | .v t :: r, n, e => putBack_len (avs := r)
  | .l i :: r, n, e => by
    refine (putBack_len (avs := r)).trans ?_
    split
    · unfold back1
      split
      · split
        · rw [List.length_set]
        · rfl
      · rfl
    · rfl
theorem Sees.behind {s s' : S} (hs : Sees C s) {avs : List AV} {vs : List V} {ss : List Slot} (h1 : AVs C s avs vs) (h2 : slotsOf s.e avs = some ss) (hn : (lentOf avs).Nodup) (hs' : Sees C s') (x : Ext ⟨ss, vs.map some, s.H, s.G⟩ s') :
    Sees C ⟨putBack s'.e 0 avs s.e, s.σ, s'.H, s'.G⟩ ∧ Ext s ⟨putBack s'.e 0 avs s.e, s.σ, s'.H, s'.G⟩ ∧ ∀ a, Fresh ⟨ss, vs.map some, s.H, s.G⟩ s' a → Fresh s ⟨putBack s'.e 0 avs s.e, s.σ, s'.H, s'.G⟩ a := by
  obtain ⟨en, ow⟩ := hs.enter h1 h2 hn
  have ss_at : ∀ k i : Nat, avs[k]? = some (AV.l i) → ∃ p ts y, ss[k]? = some (Slot.ol true ts) ∧ s.e[i]? = some (Slot.ol p ts) ∧ vs[k]? = some y ∧ s.σ[i]? = some (some y) := by
    intro k i hk
    have hlt : k < ss.length := by rw [slotsOf_len h2]; exact (List.getElem?_eq_some_iff.mp hk).1
    obtain ⟨y, z1, z2⟩ := slotsOf_get h1 h2 (List.getElem?_eq_getElem hlt)
    rcases z2 with ⟨t, z3, _⟩ | ⟨j, p, ts, z3, z4, z5, z6⟩
    · rw [hk] at z3; cases z3
    · rw [hk] at z3; cases z3
      exact ⟨p, ts, y, by rw [List.getElem?_eq_getElem hlt, z4], z5, z1, z6⟩
  have s'_at : ∀ k i : Nat, avs[k]? = some (AV.l i) → ∃ ts', s'.e[k]? = some (Slot.ol true ts') ∧ s'.σ[k]? = s.σ[i]? := by
    intro k i hk
    obtain ⟨p, ts, y, z1, z2, z3, z4⟩ := ss_at k i hk
    obtain ⟨w1, w2⟩ := x.pin k 0 (by show (ss[k]?).bind _ = _; rw [z1]; rfl)
    have w1 : s'.σ[k]? = (vs.map some)[k]? := w1
    rw [List.getElem?_map, z3] at w1
    cases q : s'.e[k]? with
    | none => rw [q] at w2; exact nomatch w2
    | some sl =>
      rw [q] at w2
      have w2 : sl.pk = some 0 := w2
      cases sl with
      | un => exact nomatch w2
      | sh t => exact nomatch w2
      | oll tss => exact nomatch w2
      | od kvs => exact nomatch w2
      | oi c ts => exact nomatch w2
      | ol b ts' =>
        cases b with
        | false => exact nomatch w2
        | true => exact ⟨ts', rfl, by rw [w1, z4]; rfl⟩
  have get := fun j => putBack_get (e' := s'.e) (j := j) (avs := avs) (n := 0) (e := s.e) (fun k i hk => by
    obtain ⟨p, ts, y, z1, z2, z3, z4⟩ := ss_at k i hk
    obtain ⟨ts', w1, _⟩ := s'_at k i hk
    exact ⟨⟨p, ts, z2⟩, true, ts', by rw [Nat.zero_add]; exact w1⟩)
  -- what the caller owns and has not lent stays
  have kp : ∀ j a u, (∀ k : Nat, avs[k]? ≠ some (AV.l j)) → Owns s j a → s.H a = some u → s'.H a = some u := fun j a u hj hO hu =>
    x.keep a u hu fun k hk => by
      obtain ⟨i, z1, z2⟩ := ow k a hk
      have := hs.inj i j a z2 hO
      subst this
      exact hj k z1
  have back : ∀ j a, Owns ⟨putBack s'.e 0 avs s.e, s.σ, s'.H, s'.G⟩ j a → Owns s j a := by
    rintro j a ⟨sl, v, q1, q2, q3⟩
    rcases get j with ⟨z1, z2⟩ | ⟨k, b, p, ts, ts', z1, z2, z3, z4⟩
    · have q1 : s.e[j]? = some sl := z2 ▸ q1
      have h4 := hs.at_ j sl q1
      rw [show s.σ[j]? = some (some v) from q2] at h4
      refine ⟨sl, v, q1, q2, ownsV_back h4 (fun c u hc hu => kp j c u z1 ⟨sl, v, q1, q2, ?_⟩ hu) q3⟩
      cases sl with
      | un => exact q3.elim
      | sh t => exact q3.elim
      | ol p ts => exact hc
      | od kvs => exact hc
      | oi c' ts => exact hc
      | oll tss => exact .inl hc
    · have q1 : (putBack s'.e 0 avs s.e)[j]? = some sl := q1
      rw [z4] at q1
      cases q1
      exact ⟨_, v, z2, q2, q3⟩
  -- what is lent is the callee's at the end
  have lent : ∀ (k j : Nat) (a : Addr), avs[k]? = some (AV.l j) → Owns s j a → Owns s' k a := by
    intro k j a hk hO
    obtain ⟨ts', w1, w2⟩ := s'_at k j hk
    obtain ⟨p, ts, y, z1, z2, z3, z4⟩ := ss_at k j hk
    obtain ⟨sl, v, q1, q2, q3⟩ := hO
    rw [z2] at q1
    cases q1
    exact ⟨_, v, w1, w2.trans q2, q3⟩
  have fresh : ∀ a, (s.H a = none ∨ ∃ k, Owns ⟨ss, vs.map some, s.H, s.G⟩ k a) → (∀ k, ¬ Owns s' k a) → ∀ j, ¬ Owns s j a := by
    intro a h hno j hO
    rcases h with h | ⟨k, hk⟩
    · obtain ⟨u, hu⟩ := hO.here hs
      rw [h] at hu; cases hu
    · obtain ⟨i, z1, z2⟩ := ow k a hk
      exact hno k (lent k i a z1 z2)
  have gno : ∀ j a, Owns s j a → s'.G a = none := by
    intro j a hO
    by_cases hl : ∃ k : Nat, avs[k]? = some (AV.l j)
    · obtain ⟨k, hk⟩ := hl
      exact hs'.own k a (lent k j a hk hO)
    · cases e : s'.G a with
      | none => rfl
      | some u =>
        rcases x.gnew a (by rw [e]; exact fun z => (nomatch z)) with z | z | ⟨k, z⟩
        · exact absurd (hs.own j a hO) z
        · obtain ⟨u, hu⟩ := hO.here hs
          rw [show s.H a = none from z] at hu; cases hu
        · obtain ⟨i, z1, z2⟩ := ow k a z
          have := hs.inj i j a z2 hO
          subst this
          exact absurd ⟨k, z1⟩ hl
  refine ⟨⟨hs'.sub, ?_, fun j sl q1 => ?_, fun j a h => gno j a (back j a h), fun i j a q1 q2 => hs.inj i j a (back i a q1) (back j a q2)⟩, ⟨x.g, fun a u hu hn => x.keep a u hu fun k hk => ?_, fun a h => ?_, fun i a h => .inr ⟨i, back i a h⟩, fun i kk h => ⟨rfl, ?_⟩⟩, fun a f => ⟨f.g, fun j hj => fresh a f.new f.no j (back j a hj), f.new.imp id fun ⟨k, hk⟩ => ?_⟩⟩
  · show (putBack s'.e 0 avs s.e).length = _
    rw [putBack_len]
    exact hs.len
  · show SlotOk C s'.G s'.H s.σ[j]? sl
    have q1 : (putBack s'.e 0 avs s.e)[j]? = some sl := q1
    rcases get j with ⟨z1, z2⟩ | ⟨k, b, p, ts, ts', z1, z2, z3, z4⟩
    · rw [z2] at q1
      have h4 := hs.at_ j sl q1
      have kk : ∀ a u, Owns s j a → s.H a = some u → s'.H a = some u := fun a u => kp j a u z1
      cases sl with
      | un => trivial
      | sh t =>
        obtain ⟨v, e, h⟩ := h4
        exact ⟨v, e, h.mono x.g⟩
      | ol p ts =>
        obtain ⟨a, xs, e, h1', h2⟩ := h4
        exact ⟨a, xs, e, kk a _ ⟨_, _, q1, e, rfl⟩ h1', h2.mono x.g⟩
      | od kvs =>
        obtain ⟨a, xs, e, h1', h2⟩ := h4
        exact ⟨a, xs, e, kk a _ ⟨_, _, q1, e, rfl⟩ h1', h2.mono x.g⟩
      | oi c ts =>
        obtain ⟨a, dx, xs, e, h1', h2, h3⟩ := h4
        exact ⟨a, dx, xs, e, kk a _ ⟨_, _, q1, e, rfl⟩ h1', h2, h3.mono x.g⟩
      | oll tss =>
        obtain ⟨a, xs, e, h1', h2, h3, h4⟩ := h4
        exact ⟨a, xs, e, kk a _ ⟨_, _, q1, e, .inl rfl⟩ h1', h2, h3, h4.mono (fun b o hb hB => kk b o ⟨_, _, q1, e, .inr ⟨a, xs, rfl, h1', hb⟩⟩ hB) x.g⟩
    · rw [z4] at q1
      cases q1
      obtain ⟨ts2, w1, w2⟩ := s'_at k j z1
      rw [Nat.zero_add, w1] at z3
      cases z3
      have h4 := hs'.at_ k _ w1
      rw [w2] at h4
      exact h4
  · obtain ⟨i, z1, z2⟩ := ow k a hk
    exact hn i z2
  · rcases x.gnew a h with z | z | ⟨k, z⟩
    · exact .inl z
    · exact .inr (.inl z)
    · obtain ⟨i, z1, z2⟩ := ow k a z
      exact .inr (.inr ⟨i, z2⟩)
  · show ((putBack s'.e 0 avs s.e)[i]?).bind Slot.pk = _
    rcases get i with ⟨z1, z2⟩ | ⟨k, b, p, ts, ts', z1, z2, z3, z4⟩
    · rw [z2]; exact h
    · rw [z4]
      rw [z2] at h
      cases p
      · exact nomatch (show (none : Option Nat) = some kk from h)
      · exact h
  · obtain ⟨i, z1, z2⟩ := ow k a hk
    exact ⟨i, z2⟩
theorem call_of {s s0 : S} {W : WX} {avs : List AV} {vs : List V} {F : DF} {Q : VK} (hs : Sees C s) (x0 : Ext s0 s) (h1 : AVs C s avs vs) (h : SatE C W s (runF F avs s.e) fun o s' => ∀ v, OutOk C s0 s' v o → Q v s'.H) : ∀ np, avs.length = np → spD C np F vs s.H Q (fun cls d H => W cls d s.σ H) := by
  intro np hnp
  refine ⟨by rw [h1.length, hnp], ?_⟩
  unfold runF at h
  split at h
  · rename_i ss h2
    split at h
    · rename_i hb
      have hn := nodupB_iff hb
      obtain ⟨en, ow⟩ := hs.enter h1 h2 hn
      refine ⟨ss, s.G, en, ?_⟩
      cases q : F ss with
      | bad => rw [q] at h; exact h
      | ex y e' =>
        rw [q] at h
        intro cls d σ' H' G' z1 z2 z3
        obtain ⟨b1, b2, b3⟩ := hs.behind h1 h2 hn z1 z2
        exact h cls d H' G' b1 b2 z3
      | ok o e' =>
        rw [q] at h
        intro σ' H' G' z1 z2 v ov
        obtain ⟨b1, b2, b3⟩ := hs.behind h1 h2 hn z1 z2
        exact h H' G' b1 b2 v (OutOk.base x0 (ov.from b3))
    · exact h.elim
  · exact h.elim
end
end L2.VD

namespace L2.VD
open PySem PySem.Spec PyProof.Rows

structure Defs (C : VX) (ds : List T) (dvs : List V) (us : List Value) : Prop where
  rp : ∀ G, Rps C G ds dvs
  vals : Vals dvs us
theorem Defs.nil {C : VX} : Defs C [] [] [] := ⟨fun _ => rfl, .nil⟩
def dCall (np : Nat) (F : DF) (ds : List T) (dc : DC) : DE := fun e => (dc e).bind fun avs e1 => if Nat.beq (avs ++ ds.map AV.v).length np then runF F (avs ++ ds.map AV.v) e1 else .bad
section
variable {X : Cx} {C : VX} {W : WX} {k np : Nat} {f : Addr} {fd : FuncData} {ps : List Str} {F : DF} {ds : List T} {dvs : List V} {us : List Value} {x : Str} {p pos : Pos} {e : Expr} {es : List Expr} {dc : DC}
theorem e_call (hF : FnOk X.prog X.w X.K X.mg X.base (L2.CX X.prog X.w) k f fd ps (spD C np F)) (hr : Room k X.A) (hm : X.mg x = some (.ref f)) (hk : PySem.W.keepIn X.K (.ref f) = true) (hb : Binds X.K fd ps us) (hd : Defs C ds dvs us)
    (hx : ∀ σ, PassesAt (L2.CX X.prog X.w) X σ (WE W σ)) (ha : PA X (e :: es) (tDC C W dc)) (hg : Gl X x := by rfl) (hdb : (x == ("__debug__" : Str)) = false := by decide)
    (he : starEach (e :: es) X.env = (false, eval e X.env) :: starEach es X.env := by rfl) (hpl : (backTo pos (starEach es X.env)).any (·.1) = false := by rfl) :
    PE X (.Call (.Name x p) (e :: es) [] pos) (tD C W (dCall np F ds dc)) := (pe_callSD hF hr hg hm hk hb hd.vals hx ha hdb he hpl).imp fun σ H Q ⟨e, G, hs, h⟩ => by
  refine tDC_I (s := ⟨e, σ, H, G⟩) hs ((SatE.bind h).mono fun avs s1 hs1 x1 e1 h1 vs rvs => ?_)
  have hσ : s1.σ = σ := e1
  subst hσ
  split at h1
  · rename_i hn
    exact call_of hs1 x1 (rvs.app (AVs.ofR (hd.rp _))) h1 np (Nat.eq_of_beq_eq_true hn)
  · exact h1.elim
end

theorem zip_get {f : Str} : ∀ {ns : List Str} {xs : List V} {k : Nat}, ns[k]? = some f → f ∉ ns.take k → (ns.zip xs).lookup f = xs[k]?
  | [], xs, k, h, _ => by simp at h
  | n :: ns, [], k, h, _ => rfl
  | n :: ns, x :: xs, 0, h, _ => by
    have e : n = f := by simpa using h
    subst e
    show List.lookup n ((n, x) :: ns.zip xs) = some x
    rw [List.lookup_cons_self]
  | n :: ns, x :: xs, k + 1, h, hn => by
    have e : ns[k]? = some f := by simpa using h
    rw [List.take_succ_cons] at hn
    have hne : (f == n) = false := by
      rw [beq_eq_false_iff_ne]
      exact fun q => hn (by rw [q]; exact List.mem_cons_self ..)
    show List.lookup f ((n, x) :: ns.zip xs) = xs[k]?
    rw [List.lookup_cons, hne]
    exact zip_get e fun q => hn (List.mem_cons_of_mem _ q)
theorem zip_none {f : Str} : ∀ {ns : List Str} {xs : List V}, f ∉ ns → (ns.zip xs).lookup f = none
  | [], xs, _ => rfl
  | n :: ns, [], _ => rfl
  | n :: ns, x :: xs, hn => by
    have hne : (f == n) = false := by
      rw [beq_eq_false_iff_ne]
      exact fun q => hn (by rw [q]; exact List.mem_cons_self ..)
    show List.lookup f ((n, x) :: ns.zip xs) = none
    rw [List.lookup_cons, hne]
    exact zip_none fun q => hn (List.mem_cons_of_mem _ q)
theorem zip_put {f : Str} {y : V} : ∀ {ns : List Str} {xs : List V} {k : Nat}, xs.length = k → ns[k]? = some f → f ∉ ns.take k → putF f y (ns.zip xs) = ns.zip (xs ++ [y])
  | [], xs, k, _, h, _ => by simp at h
  | n :: ns, [], k, hk, h, _ => by
    subst hk
    have e : n = f := by simpa using h
    subst e
    show [(n, y)] = (n, y) :: ns.zip []
    rw [List.zip_nil_right]
  | n :: ns, x :: xs, k, hk, h, hn => by
    subst hk
    have e : ns[xs.length]? = some f := by simpa using h
    have hn' : f ∉ List.take (xs.length + 1) (n :: ns) := hn
    rw [List.take_succ_cons] at hn'
    have hne : n ≠ f := fun q => hn' (by rw [q]; exact List.mem_cons_self ..)
    show putF f y ((n, x) :: ns.zip xs) = (n, x) :: ns.zip (xs ++ [y])
    rw [show putF f y ((n, x) :: ns.zip xs) = (if n = f then (n, y) :: ns.zip xs else (n, x) :: putF f y (ns.zip xs)) from rfl, if_neg hne]
    rw [zip_put rfl e fun q => hn' (List.mem_cons_of_mem _ q)]

structure FldTbl (C : VX) (f : Str) (fi : Nat → Option Nat) : Prop where
  ok : ∀ c k, fi c = some k → Cls C.K (C.ca c) ∧ NoAttr C.K (C.ca c) f ∧ (C.cf c)[k]? = some f ∧ f ∉ (C.cf c).take k
def dFld (fi : Nat → Option Nat) (da : DE) : DE := fun e => (da e).bind fun o e1 => match o.t with
  | .obj c ts => Res.of (((fi c).bind fun k => ts[k]?).map .sh) e1
  | _ => .bad
def dSetF (i : Nat) (fi : Nat → Option Nat) (da : DE) : DS := fun e => (da e).bind fun o e1 => match e1[i]? with
  | some (.oi c ts) => match fi c with
    | some k => if Nat.beq ts.length k && decide (k < 900) then .ok .nx (e1.set i (.oi c (ts ++ [o.t]))) else .bad
    | none => .bad
  | _ => .bad
section
variable {X : Cx} {C : VX} {W : WX} {a o : Expr} {da : DE} {f : Str} {fi : Nat → Option Nat} {pos pos' npos : Pos}
theorem e_fld (he : PE X a (tD C W da)) (ht : FldTbl C f fi) (hb : attributeBase a f X.env (eval a X.env) = eval a X.env := by rfl) (hK : C.K = X.K := by rfl) : PE X (.Attribute a f pos) (tD C W (dFld fi da)) := (pe_fld he hb).imp fun σ H Q ⟨e, G, hs, h⟩ => by
  refine tD_T (s := ⟨e, σ, H, G⟩) hs ((SatE.bind h).mono fun y s1 hs1 x1 e1 h1 v rv => ?_)
  have h1 : SatE C W s1 (match y.t with | .obj c ts => Res.of (((fi c).bind fun k => ts[k]?).map Out.sh) s1.e | _ => .bad) (fun o s' => ∀ v, OutOk C ⟨e, σ, H, G⟩ s' v o → Q v s'.H) := h1
  split at h1
  · rename_i c ts hy
    rw [hy] at rv
    obtain ⟨b, dx, xs, rfl, r1, r2, r3⟩ := rv
    obtain ⟨u, hu, k1⟩ := SatE.of h1
    cases q : fi c with
    | none => rw [q] at hu; exact nomatch hu
    | some k =>
      rw [q] at hu
      have hu : (ts[k]?).map Out.sh = some u := hu
      cases q2 : ts[k]? with
      | none => rw [q2] at hu; exact nomatch hu
      | some t =>
        rw [q2] at hu
        cases hu
        obtain ⟨z1, z2, z3, z4⟩ := ht.ok c k q
        obtain ⟨w, w1, w2⟩ := r3.get q2
        refine ⟨b, C.ca c, dx, _, w, rfl, hs1.sub _ _ r1, by rw [← hK]; exact z1, by rw [← hK]; exact z2, (zip_get z3 z4).trans w1, ?_⟩
        exact k1 s1.H s1.G hs1 (Ext.refl _) w w2
  · exact h1.elim
theorem s_setF (i : Nat) {x : Str} (hv : PE X a (tD C W da)) (ht : FldTbl C f fi) (hN : X.N[i]? = some x := by rfl) (hvv : Vis X.env.scope x := by first | exact Or.inl rfl | exact Or.inr (Or.inl rfl) | exact Or.inr (Or.inr rfl)) (hd : (x == ("__debug__" : Str)) = false := by decide) (hcd : (x == ("__classdict__" : Str)) = false := by decide)
    (hs : swapsWith a (some (.Attribute (.Name x npos) f pos')) pos.line X.env = pure false := by rfl) (hK : C.K = X.K := by rfl) : PS X (.Assign [.Attribute (.Name x npos) f pos'] a pos) (tDS C W (dSetF i fi da)) := (ps_fld (pv i hN hvv hd hcd) hv hs).imp fun D σ H ⟨e, G, hs, h⟩ => by
  refine tD_T (s := ⟨e, σ, H, G⟩) hs ((SatS.bind h).mono fun y s1 hs1 x1 e1 h1 v rv => ?_)
  have hσ : s1.σ = σ := e1
  subst hσ
  have h1 : SatS C W s1 (match s1.e[i]? with | some (.oi c ts) => (match fi c with | some k => if Nat.beq ts.length k && decide (k < 900) then Res.ok Fl.nx (s1.e.set i (.oi c (ts ++ [y.t]))) else .bad | none => .bad) | _ => .bad) D := h1
  split at h1
  · rename_i c ts hi
    split at h1
    · rename_i k' hk'
      split at h1
      · rename_i hz
        rw [Bool.and_eq_true] at hz
        obtain ⟨b, dx, xs, q1, q2, q3, q4⟩ := hs1.at_ i _ hi
        obtain ⟨z1, z2, z3, z4⟩ := ht.ok c k' hk'
        have hl : xs.length = k' := by rw [q4.length]; exact Nat.eq_of_beq_eq_true hz.1
        have h9 : k' < 900 := of_decide_eq_true hz.2
        refine ⟨.ref b, q1, b, C.ca c, dx, _, rfl, q2, by rw [← hK]; exact z1, by rw [← hK]; exact z2, ?_, ?_⟩
        · rw [List.length_zip]; omega
        · rw [zip_put hl z3 z4]
          have hO : Owns s1 i b := ⟨_, _, hi, q1, rfl⟩
          have hG := hs1.own i b hO
          have hlt : k' < (C.cf c).length := (List.getElem?_eq_some_iff.mp z3).1
          obtain ⟨y1, y2⟩ := hs1.slot (i := i) (sl := .oi c (ts ++ [y.t])) (H' := upd s1.H b (.ins (C.ca c) dx ((C.cf c).zip (xs ++ [v])))) (G' := s1.G) ⟨_, q1⟩ (fun a' o hb hn => by
              rw [upd_ne fun e => hn (by rw [e]; exact hO)]
              exact hb) (fun _ _ h => h) (fun a' o hb => by
              rw [upd_ne fun e => by rw [e, hG] at hb; cases hb]
              exact hs1.sub a' o hb) ⟨b, dx, xs ++ [v], q1, upd_same, by rw [List.length_append, hl]; exact hlt, q4.append (Rps.cons rv Rps.nil)⟩ (fun v' b' hv' hb' => by
              rw [q1] at hv'
              cases hv'
              cases (show V.ref b = V.ref b' from hb')
              exact ⟨hO, hG⟩) (fun a' ha' => .inl ha') (fun kk h0 => by
              rw [hi] at h0
              exact h0)
          exact h1 s1.σ _ s1.G y1 y2
      · exact h1.elim
    · exact h1.elim
  · exact h1.elim
end
end L2.VD

namespace L2.VD
open PySem PySem.Spec PyProof.Rows

def runN (np : Nat) (F : DF) (avs : List AV) (e : List Slot) : Res Out := if Nat.beq avs.length np then runF F avs e else .bad
theorem call_ofN {C : VX} {s s0 : S} {W : WX} {avs : List AV} {vs : List V} {F : DF} {Q : VK} {np : Nat} (hs : Sees C s) (x0 : Ext s0 s) (h1 : AVs C s avs vs) (h : SatE C W s (runN np F avs s.e) fun o s' => ∀ v, OutOk C s0 s' v o → Q v s'.H) : spD C np F vs s.H Q (fun cls d H => W cls d s.σ H) := by
  unfold runN at h
  split at h
  · rename_i hn
    exact call_of hs x0 h1 h np (Nat.eq_of_beq_eq_true hn)
  · exact h.elim
structure ME where
  np : Nat
  F : DF
  ds : List T
structure MOk (X : Cx) (C : VX) (m : Str) (c : Nat) (me : ME) : Prop where
  ex : ∃ f fd ps k dvs us, Cls X.K (C.ca c) ∧ Meth X.K (C.ca c) m f ∧ FnOk X.prog X.w X.K X.mg X.base (L2.CX X.prog X.w) k f fd ps (spD C me.np me.F) ∧ Room k X.A ∧ Binds X.K fd ps us ∧ Defs C me.ds dvs us
  no : m ∉ C.cf c
def dMeth (tbl : Nat → Option ME) (da : DE) (dc : DC) : DE := fun e => (da e).bind fun o e1 => match o.t with
  | .obj c ts => match tbl c with
    | some me => (dc e1).bind fun avs e2 => runN me.np me.F (.v (.obj c ts) :: (avs ++ me.ds.map AV.v)) e2
    | none => .bad
  | _ => .bad
def tMethD (X : Cx) (C : VX) (W : WX) (m : Str) (tbl : Nat → Option ME) (ta : TE) (t : TA) : TE := fun σ H Q => ta σ H fun x H1 => ∃ a c dx fs me, x = .ref a ∧ H1 a = some (.ins (C.ca c) dx fs) ∧ fs.lookup m = none ∧ tbl c = some me ∧
  t σ H1 fun vs H2 => ∀ dvs, (∀ G, Rps C G me.ds dvs) → spD C me.np me.F (x :: (vs ++ dvs)) H2 Q (WE W σ)
section
variable {X : Cx} {C : VX} {W : WX} {o e : Expr} {es : List Expr} {m : Str} {da : DE} {dc : DC} {tbl : Nat → Option ME} {apos pos : Pos}
theorem pe_methD0 {ta : TE} {pl : Sem Bool} (he : PE X o ta) (ht : ∀ c me, tbl c = some me → MOk X C m c me) (hx : ∀ σ, PassesAt (L2.CX X.prog X.w) X σ (WE W σ))
    (hev : eval (.Call (.Attribute o m apos) [] [] pos) X.env = (do
      let ov ← eval o X.env
      standAt apos.atName
      let (f, first) ← holding [ov] (getMethod ov m pl)
      callWith pos f first (backTo pos (starEach [] X.env)) (backToKw pos (keywordEach [] X.env)))) :
    PE X (.Call (.Attribute o m apos) [] [] pos) (tMethD X C W m tbl ta tNil) := by
  refine ⟨fun pins s σ H Q I h => ?_⟩
  refine PySem.W.methodCall_KW (pl := pl) (thn (he.run pins s σ H _ I h) fun u s1 ⟨x, H1, I1, rx, a, c, dx, fs, me, ex, ea, l, tb, q⟩ => ?_) hev
  subst ex
  obtain rfl : u = Value.ref a := rx
  obtain ⟨f, fd, ps, k, dvs, us', c1, c2, c3, c4, c5, c6⟩ := (ht c me tb).ex
  refine getmeth_ok I1 ea c1 c2 l ?_
  exact PySem.W.callWith_K0 (first := [.ref a]) I1.kIn c2.kp (run_fnSD (us := [.ref a]) (vs := [.ref a]) c3 c4 c5 c6.vals (hx σ) I1 (.cons rfl .nil) (q dvs c6.rp))
theorem tMethD_of (ht : ∀ c me, tbl c = some me → MOk X C m c me) {σ : St} {H : Hp} {Q : VK} (h : tD C W (dMeth tbl da dc) σ H Q) : tMethD X C W m tbl (tD C W da) (tDC C W dc) σ H Q := by
  obtain ⟨e, G, hs, h⟩ := h
  refine tD_T (s := ⟨e, σ, H, G⟩) hs ((SatE.bind h).mono fun y s1 hs1 x1 e1 h1 v rv => ?_)
  have hσ : s1.σ = σ := e1
  subst hσ
  have h1 : SatE C W s1 (match y.t with | .obj c ts => (match tbl c with | some me => (dc s1.e).bind fun avs e2 => runN me.np me.F (AV.v (.obj c ts) :: (avs ++ me.ds.map AV.v)) e2 | none => .bad) | _ => .bad) (fun o s' => ∀ v, OutOk C ⟨e, s1.σ, H, G⟩ s' v o → Q v s'.H) := h1
  split at h1
  · rename_i c ts hy
    rw [hy] at rv
    split at h1
    · rename_i me hme
      have rv0 := rv
      obtain ⟨b, dx, xs, rfl, r1, r2, r3⟩ := rv
      refine ⟨b, c, dx, _, me, rfl, hs1.sub _ _ r1, zip_none (ht c me hme).no, hme, ?_⟩
      refine tDC_I hs1 ((SatE.bind h1).mono fun avs s2 hs2 x2 e2 h2 vs rvs => ?_)
      intro dvs hd
      have hav : AVs C s2 (AV.v (.obj c ts) :: (avs ++ me.ds.map AV.v)) (.ref b :: (vs ++ dvs)) := ⟨_, _, rfl, rv0.mono x2.g, rvs.app (AVs.ofR (hd _))⟩
      have := call_ofN hs2 (x1.trans x2) hav h2
      rw [e2] at this
      exact this
    · exact h1.elim
  · exact h1.elim
theorem e_meth0 {pl : Sem Bool} (he : PE X o (tD C W da)) (ht : ∀ c me, tbl c = some me → MOk X C m c me) (hx : ∀ σ, PassesAt (L2.CX X.prog X.w) X σ (WE W σ))
    (hev : eval (.Call (.Attribute o m apos) [] [] pos) X.env = (do
      let ov ← eval o X.env
      standAt apos.atName
      let (f, first) ← holding [ov] (getMethod ov m pl)
      callWith pos f first (backTo pos (starEach [] X.env)) (backToKw pos (keywordEach [] X.env))) := by rfl) :
    PE X (.Call (.Attribute o m apos) [] [] pos) (tD C W (dMeth tbl da cNil)) := (pe_methD0 he ht hx hev).imp fun σ H Q h => by
  obtain ⟨e, G, hs, h⟩ := h
  have h2 := tMethD_of ht (⟨e, G, hs, h⟩ : tD C W (dMeth tbl da cNil) σ H Q)
  obtain ⟨e2, G2, hs2, h3⟩ := h2
  refine ⟨e2, G2, hs2, h3.mono fun y s1 hs1 x1 e1 h1 v rv => ?_⟩
  obtain ⟨a, c, dx, fs, me, q1, q2, q3, q4, q5⟩ := h1 v rv
  refine ⟨a, c, dx, fs, me, q1, q2, q3, q4, ?_⟩
  obtain ⟨e4, G4, hs4, h4⟩ := q5
  exact h4 s1.H G4 hs4 (Ext.refl _) [] rfl
end

def mkEnd (c nf : Nat) (e1 : List Slot) (r : Res Out) : Res Out := match r with
  | .ok (.sh .non) e' => match (e'[0]? : Option Slot) with
    | some (Slot.oi _ fs) => if Nat.beq fs.length nf then .ok (.sh (.obj c fs)) e1 else .bad
    | _ => .bad
  | .ex x _ => .ex x e1
  | _ => .bad
def dMake (c nf np : Nat) (F : DF) (ds : List T) (da : DA) : DE := fun e => (da e).bind fun ts e1 => if Nat.beq ((ts ++ ds).length + 1) np then mkEnd c nf e1 (F (.oi c [] :: (ts ++ ds).map .sh)) else .bad
def tMakeD (K : Addr) (sp : Sp) (dvs : List V) (E : St → XK) (t : TA) : TE := fun σ H Q => t σ H fun vs H1 => ∀ x dx, H1 x = none → H1 dx = none → dx ≠ x →
  sp (.ref x :: (vs ++ dvs)) (upd (upd H1 dx (.own x)) x (.ins K dx [])) (fun v H2 => v = .non ∧ Q (.ref x) H2) (E σ)
section
variable {X : Cx} {C : VX} {W : WX} {c nf np k : Nat} {f cA : Addr} {fd : FuncData} {ps : List Str} {F : DF} {ds : List T} {dvs : List V} {us : List Value} {x : Str} {p pos : Pos} {e : Expr} {es : List Expr} {da : DA} {sp : Sp} {E : St → XK} {t : TA}
theorem run_makeS {pins : List (Addr × Obj)} {σ : St} {H : Hp} {s : Shared} {Q : VK} {uu : List Value} {vs : List V} (M : Mk X.K cA f) (hF : FnOk X.prog X.w X.K X.mg X.base (L2.CX X.prog X.w) k f fd ps sp) (hr : Room (k + 1) X.A) (hb : Binds X.K fd ps us) (hd : Vals dvs us)
    (hx : PassesAt (L2.CX X.prog X.w) X σ (E σ)) (I : Inv X pins σ H s) (r : Vals vs uu)
    (h : ∀ x dx, H x = none → H dx = none → dx ≠ x → sp (.ref x :: (vs ++ dvs)) (upd (upd H dx (.own x)) x (.ins cA dx [])) (fun v H2 => v = .non ∧ Q (.ref x) H2) (E σ)) :
    wpAny (model X.prog X.w) X.A (call (.ref cA) uu) (EP X pins σ Q) X.xe s := by
  have hq := h (s.heap.objs.size + 1) s.heap.objs.size (I.hok.fresh (Nat.le_succ _)) (I.hok.fresh (Nat.le_refl _)) (Nat.ne_of_lt (Nat.lt_succ_self _))
  have I2 := Inv.made (C := cA) I
  have r2 : Vals (V.ref (s.heap.objs.size + 1) :: (vs ++ dvs)) (Value.ref (s.heap.objs.size + 1) :: (uu ++ us)) := .cons rfl (r.append hd)
  have hl : (Value.ref (s.heap.objs.size + 1) :: uu ++ us).length = ps.length := by
    have e := r2.length
    rw [hF.len _ _ _ _ hq] at e
    exact e.symm
  refine wpAny_call (make_map (f := f) I.kIn M.makes M.init (beq_iff_eq.mp M.fn) (codeAny_mono (hF.run _ X.stack _ _ ⟨Value.ref (s.heap.objs.size + 1) :: uu, []⟩ (Value.ref (s.heap.objs.size + 1) :: (uu ++ us)) _ _ (E σ) (hr.make cA uu [])
    (I2.env0.make cA uu []) (hb _ (Value.ref (s.heap.objs.size + 1) :: uu) I2.kIn hl) r2 hq) fun r s' hq' => ?_))
  cases r with
  | error e => exact hx pins _ _ e s' I2 hq'
  | ok fl =>
    cases fl with
    | ret u =>
      obtain ⟨v, H', I3, rv, ev, q3⟩ := I2.after hq'
      subst ev
      exact ⟨rv, ⟨V.ref (s.heap.objs.size + 1), H', I3, rfl, q3⟩⟩
    | next => exact False.elim hq'
    | brk => exact False.elim hq'
    | cont => exact False.elim hq'
theorem pe_makeS (M : Mk X.K cA f) (hF : FnOk X.prog X.w X.K X.mg X.base (L2.CX X.prog X.w) k f fd ps sp) (hr : Room (k + 1) X.A) (hg : Gl X x) (hm : X.mg x = some (.ref cA)) (hb : Binds X.K fd ps us) (hd : Vals dvs us) (hx : ∀ σ, PassesAt (L2.CX X.prog X.w) X σ (E σ))
    (ha : PA X (e :: es) t) (hdb : (x == ("__debug__" : Str)) = false) (he : starEach (e :: es) X.env = (false, eval e X.env) :: starEach es X.env) (hpl : (backTo pos (starEach es X.env)).any (·.1) = false) :
    PE X (.Call (.Name x p) (e :: es) [] pos) (tMakeD cA sp dvs E t) := by
  refine ⟨fun pins s σ H Q I h => ?_⟩
  refine wpAny_Call_Name_kw (ld_glob I hg hm ?_ hdb)
  refine PySem.W.callWith_K (h₀ := X.base) I.ok.mod.kin M.kp (thn (ha.run pos pins s σ H _ I h) fun us s1 ⟨vs, H1, I1, r, q⟩ => ⟨I1.kIn, ?_⟩) he hpl
  exact run_makeS M hF hr hb hd (hx σ) I1 r q
theorem Rps.sh {C : VX} {G : Hp} : ∀ {ts : List T} {xs : List V} {k : Nat} {sl : Slot}, Rps C G ts xs → (ts.map Slot.sh)[k]? = some sl → ∃ t y, sl = .sh t ∧ xs[k]? = some y ∧ Rp C G t y := by
  intro ts xs k sl h q
  rw [List.getElem?_map] at q
  cases z : ts[k]? with
  | none => rw [z] at q; exact nomatch q
  | some t =>
    rw [z] at q
    cases q
    obtain ⟨y, h1, h2⟩ := h.get z
    exact ⟨t, y, rfl, h1, h2⟩
theorem e_make (M : Mk X.K (C.ca c) f) (hF : FnOk X.prog X.w X.K X.mg X.base (L2.CX X.prog X.w) k f fd ps (spD C np F)) (hr : Room (k + 1) X.A) (hm : X.mg x = some (.ref (C.ca c))) (hb : Binds X.K fd ps us) (hd : Defs C ds dvs us) (hn : (C.cf c).length = nf)
    (hx : ∀ σ, PassesAt (L2.CX X.prog X.w) X σ (WE W σ)) (ha : PA X (e :: es) (tDA C W da)) (hg : Gl X x := by rfl) (hdb : (x == ("__debug__" : Str)) = false := by decide) (he : starEach (e :: es) X.env = (false, eval e X.env) :: starEach es X.env := by rfl) (hpl : (backTo pos (starEach es X.env)).any (·.1) = false := by rfl) :
    PE X (.Call (.Name x p) (e :: es) [] pos) (tD C W (dMake c nf np F ds da)) := (pe_makeS M hF hr hg hm hb hd.vals hx ha hdb he hpl).imp fun σ H Q ⟨e, G, hs, h⟩ => by
  refine tDA_I (s := ⟨e, σ, H, G⟩) hs ((SatE.bind h).mono fun ts s1 hs1 x1 e1 h1 vs rvs => ?_)
  have hσ : s1.σ = σ := e1
  subst hσ
  intro y dx hy hdx hne
  have h1 : SatE C W s1 (if Nat.beq ((ts ++ ds).length + 1) np then mkEnd c nf s1.e (F (.oi c [] :: (ts ++ ds).map .sh)) else .bad) (fun o s' => ∀ v, OutOk C ⟨e, s1.σ, H, G⟩ s' v o → Q v s'.H) := h1
  by_cases hnp : Nat.beq ((ts ++ ds).length + 1) np = true
  case neg => rw [if_neg hnp] at h1; exact h1.elim
  rw [if_pos hnp] at h1
  have hnp := Nat.eq_of_beq_eq_true hnp
  have rall : Rps C s1.G (ts ++ ds) (vs ++ dvs) := rvs.append (hd.rp _)
  -- the state at __init__'s entry
  have u1 : ∀ a o, s1.H a = some o → upd (upd s1.H dx (.own y)) y (.ins (C.ca c) dx []) a = some o := fun a o ho => by
    have n1 : a ≠ y := fun q => by rw [q, hy] at ho; cases ho
    have n2 : a ≠ dx := fun q => by rw [q, hdx] at ho; cases ho
    rw [upd_ne n1, upd_ne n2]
    exact ho
  have gy : s1.G y = none := hs1.gnone hy
  have ownE : ∀ i a, Owns ⟨.oi c [] :: (ts ++ ds).map .sh, (V.ref y :: (vs ++ dvs)).map some, upd (upd s1.H dx (.own y)) y (.ins (C.ca c) dx []), s1.G⟩ i a → i = 0 ∧ a = y := by
    rintro i a ⟨sl, v, q1, q2, q3⟩
    cases i with
    | zero =>
      have q1 : Slot.oi c [] = sl := Option.some.inj q1
      subst q1
      have q2 : (some (V.ref y)) = some v := Option.some.inj q2
      cases q2
      cases (show V.ref y = V.ref a from q3)
      exact ⟨rfl, rfl⟩
    | succ i =>
      obtain ⟨t', y', rfl, _⟩ := rall.sh (k := i) q1
      exact q3.elim
  have en : Sees C ⟨.oi c [] :: (ts ++ ds).map .sh, (V.ref y :: (vs ++ dvs)).map some, upd (upd s1.H dx (.own y)) y (.ins (C.ca c) dx []), s1.G⟩ := by
    refine ⟨fun a o ho => u1 a o (hs1.sub a o ho), ?_, fun i sl q1 => ?_, fun i a h => ?_, fun i j a q1 q2 => ?_⟩
    · show (_ :: _).length = (List.map some (_ :: _)).length
      rw [List.length_map, List.length_cons, List.length_cons, List.length_map, rall.length]
    · cases i with
      | zero =>
        have q1 : Slot.oi c [] = sl := Option.some.inj q1
        subst q1
        refine ⟨y, dx, [], rfl, ?_, Nat.zero_le _, rfl⟩
        show upd _ y _ y = _
        rw [List.zip_nil_right]
        exact upd_same
      | succ i =>
        obtain ⟨t', y', rfl, q2, q3⟩ := rall.sh (k := i) q1
        refine ⟨y', ?_, q3⟩
        show ((V.ref y :: (vs ++ dvs)).map some)[i + 1]? = _
        rw [List.map_cons, List.getElem?_cons_succ, List.getElem?_map, q2]
        rfl
    · obtain ⟨_, rfl⟩ := ownE i a h
      exact gy
    · rw [(ownE i a q1).1, (ownE j a q2).1]
  refine ⟨by rw [List.length_cons, ← hnp, rall.length], _, s1.G, en, ?_⟩
  -- what holds behind it
  have later : ∀ (e' : List Slot) (σ' : St) (H' G' : Hp), Sees C ⟨e', σ', H', G'⟩ → Ext ⟨.oi c [] :: (ts ++ ds).map .sh, (V.ref y :: (vs ++ dvs)).map some, upd (upd s1.H dx (.own y)) y (.ins (C.ca c) dx []), s1.G⟩ ⟨e', σ', H', G'⟩ →
      ∀ G2, (∀ a o, G' a = some o → G2 a = some o) → (∀ a o, G2 a = some o → H' a = some o) → (∀ a, G2 a ≠ none → G' a ≠ none ∨ a = y) → Sees C ⟨s1.e, s1.σ, H', G2⟩ ∧ Ext s1 ⟨s1.e, s1.σ, H', G2⟩ := by
    intro e' σ' H' G' z1 z2 G2 g1 g2 g3
    refine hs1.grow (fun a o ho => ?_) (fun a o ho => g1 a o (z2.g a o ho)) g2 (fun a ha => ?_)
    · refine z2.keep a o (u1 a o ho) fun i hi => ?_
      obtain ⟨_, rfl⟩ := ownE i a hi
      rw [hy] at ho; cases ho
    · rcases g3 a ha with g | rfl
      · rcases z2.gnew a g with q | q | ⟨i, q⟩
        · exact .inl q
        · right
          cases ho : s1.H a with
          | none => rfl
          | some o =>
            have := u1 a o ho
            rw [show upd (upd s1.H dx (.own y)) y (.ins (C.ca c) dx []) a = none from q] at this
            cases this
        · obtain ⟨_, rfl⟩ := ownE i a q
          exact .inr hy
      · exact .inr hy
  cases q : F (.oi c [] :: (ts ++ ds).map .sh) with
  | bad => rw [q] at h1; exact h1
  | ex w e' =>
    rw [q] at h1
    intro cls d σ' H' G' z1 z2 z3
    obtain ⟨b1, b2⟩ := later e' σ' H' G' z1 z2 G' (fun _ _ h => h) z1.sub (fun _ h => .inl h)
    exact h1 cls d H' G' b1 b2 z3
  | ok o e' =>
    rw [q] at h1
    unfold mkEnd at h1
    split at h1
    · rename_i e2 he2
      cases he2
      split at h1
      · rename_i c' fs hfs
        split at h1
        · rename_i hnf
          have hnf := Nat.eq_of_beq_eq_true hnf
          intro σ' H' G' z1 z2 v ov
          refine ⟨ov, ?_⟩
          obtain ⟨p1, p2⟩ := z2.pin 0 (c + 1) rfl
          have p2 : (e'[0]?).bind Slot.pk = some (c + 1) := p2
          rw [hfs] at p2
          have p2 : c' + 1 = c + 1 := Option.some.inj p2
          cases (Nat.add_right_cancel p2)
          have p1 : σ'[0]? = some (some (V.ref y)) := p1
          have h4 := z1.at_ 0 _ hfs
          obtain ⟨b, dx', xs, q1, q2, q3, q4⟩ := h4
          have q1 : σ'[0]? = some (some (V.ref b)) := q1
          rw [p1] at q1
          cases q1
          have q2 : H' y = some (.ins (C.ca c) dx' ((C.cf c).zip xs)) := q2
          have sub' : ∀ a o, G' a = some o → H' a = some o := z1.sub
          obtain ⟨b1, b2⟩ := later e' σ' H' G' z1 z2 (fzG G' H' (fun a => a = y)) (fzG_g sub') (fzG_sub sub') (fun a ha => fzG_new a ha)
          refine h1 H' _ b1 b2 (.ref y) ⟨y, dx', xs, rfl, ?_, ?_, q4.mono (fzG_g sub')⟩
          · exact (fzG_at (A := fun a => a = y) rfl).trans q2
          · rw [q4.length, hnf, hn]
        · exact h1.elim
      · exact h1.elim
    · rename_i he2
      exact nomatch he2
    · exact h1.elim
end

def dRaise (c : Nat) : DS := fun e => .ex ⟨c, []⟩ e
def noEx (r : Res Fl) : Res Fl := match r with
  | .ok f e => .ok f e
  | _ => .bad
def catchE (tbl : Nat → Option Bool) (ds : DS) (x : Exn) (e1 : List Slot) : Res Fl := match tbl x.c with
  | some true => noEx (ds e1)
  | some false => .ex x e1
  | none => .bad
def tryE (tbl : Nat → Option Bool) (ds : DS) (r : Res Fl) : Res Fl := match r with
  | .ok f e1 => .ok f e1
  | .ex x e1 => catchE tbl ds x e1
  | .bad => .bad
def dTry (d : DS) (tbl : Nat → Option Bool) (ds : DS) : DS := fun e => tryE tbl ds (d e)
structure ExcTbl (C : VX) (cv : Value) (tbl : Nat → Option Bool) : Prop where
  ok : ∀ c b, tbl c = some b → PySem.W.exmOne C.K (.ref (C.ca c)) cv = some b
section
variable {X : Cx} {C : VX} {W : WX} {d ds : DS} {x m : Str} {cv : Value} {c : Nat} {j : Nat} {p p2 np pos pos' : Pos} {tbl : Nat → Option Bool} {body suite : List Stmt} {b₀ : Stmt} {bmB : List Value} {B newId initId : String}
theorem s_raise (hc : X.calm = true) (tk : Takes X W) (F : ExcBaseFacts B newId initId bmB) (q : PySem.W.excIn X.K (C.ca c) bmB newId = true) (gC : X.mg x = some (.ref (C.ca c))) (kC : PySem.W.keepIn X.K (.ref (C.ca c)) = true) (r : Raises X (.ref (C.ca c))) (hg : Gl X x := by rfl) (hdb : (x == ("__debug__" : Str)) = false := by decide) :
    PS X (.Raise (some (.Call (.Name x p) [.Constant (.str m) j p2] [] pos')) none pos) (tDS C W (dRaise c)) := (ps_raise hc tk (pmk_own F q gC kC r hg hdb)).imp fun D σ H ⟨e, G, hs, h⟩ => h _ none σ H G hs (Ext.refl _) ⟨rfl, rfl⟩
theorem SatS.noEx {s : S} {r : Res Fl} {D : Ends} (h : SatS C W s (noEx r) D) : SatS C W0 s r D := by
  cases r with
  | ok f e => exact h
  | ex x e => exact h.elim
  | bad => exact h
theorem s_try (hs : X.stack = X.env :: X.outer) (hf : X.env.frame = some X.env.locals) (hc : Names X x cv) (tk : Takes X W) (ht : ExcTbl C cv tbl)
    (hb : ∀ (W : WX) (pn : List (Addr × Obj)) (xe : Value → Shared → Prop), Takes (X.tr pn xe) W → PassesOwn (model X.prog X.w) X.A X.env xe → PSs (X.tr pn xe) body (tDS C W d))
    (hsu : ∀ (a : Addr) (pn : List (Addr × Obj)), PSs (X.suite a pn) (b₀ :: suite) (tDS C W0 ds)) (hK : C.K = X.K := by rfl) :
    PS X (.Try body [.ExceptHandler (some (.Name x np)) none (b₀ :: suite) pos'] [] [] pos) (tDS C W (dTry d tbl ds)) :=
  (ps_try_only (tb := fun W => tDS C W d) (ts := fun _ _ _ => tDS C W0 ds) hs hf hc tk hb (fun a oe cls dd pn _ _ => hsu a _)).imp fun D σ H ⟨e, G, hs, h⟩ => by
  refine ⟨e, G, hs, ?_⟩
  unfold dTry at h
  cases q : d e with
  | bad => rw [q] at h; exact h
  | ok f e1 => rw [q] at h; exact h
  | ex y e1 =>
    rw [q] at h
    have h : SatS C W ⟨e, σ, H, G⟩ (catchE tbl ds y e1) D := h
    unfold catchE at h
    intro cls dd σ' H' G' z1 z2 z3
    cases q2 : tbl y.c with
    | none => rw [q2] at h; exact h.elim
    | some b =>
      rw [q2] at h
      have hex := ht.ok _ _ q2
      obtain ⟨hcls, hd⟩ := z3
      refine ⟨b, by rw [← hK, hcls]; exact hex, fun hb a _ => ?_, fun hb => ?_⟩
      · subst hb
        have h : SatS C W ⟨e, σ, H, G⟩ (noEx (ds e1)) D := h
        exact ⟨e1, G', z1, (SatS.noEx h).rebase z2⟩
      · subst hb
        exact h cls dd σ' H' G' z1 z2 ⟨hcls, hd⟩
end

def dPar (is : List Nat) (da : DA) : DS := fun e => (da e).bind fun ts e1 => if Nat.beq ts.length is.length then parE is ts e1 else .bad
where parE : List Nat → List T → List Slot → Res Fl
  | i :: is, t :: ts, e => onNx (setSlot i (.sh t) e) fun e1 => parE is ts e1
  | [], [], e => .ok .nx e
  | _, _, _ => .bad
section
variable {X : Cx} {C : VX} {W : WX} {a b c : Expr} {da : DA} {x y z : Str} {px py pz pt pos : Pos} {kt k2 : Nat} {pt2 : Pos}
theorem store_at {s : S} {D : Ends} {i : Nat} {t : T} {v : V} {k : List Slot → Res Fl} (hs : Sees C s) (r : Rp C s.G t v) (h : SatS C W s (onNx (setSlot i (.sh t) s.e) k) D) :
    ∃ e', Sees C ⟨e', s.σ.set i (some v), s.H, s.G⟩ ∧ Ext s ⟨e', s.σ.set i (some v), s.H, s.G⟩ ∧ SatS C W s (k e') D := by
  cases q : setSlot i (.sh t) s.e with
  | bad => rw [q] at h; exact h.elim
  | ex y e2 =>
    unfold setSlot at q
    split at q
    · cases q
    · split at q <;> cases q
  | ok f e2 =>
    obtain ⟨rfl, rfl, s0, hi, hp⟩ := setSlot_ok q
    rw [q] at h
    obtain ⟨y1, y2⟩ := hs.store (Ext.refl _) (o := .sh t) r (fun _ z => nomatch z) hi hp
    exact ⟨_, y1, y2, h⟩
theorem s_par (i j : Nat) (hc : X.calm = true) (hN : X.N.Nodup) (ha : PA X [a, b] (tDA C W da)) (hi : X.N[i]? = some x := by rfl) (hj : X.N[j]? = some y := by rfl) (hij : i ≠ j := by decide)
    (hx : X.env.scope.names.lookup x = some .local := by rfl) (hy : X.env.scope.names.lookup y = some .local := by rfl)
    (hw : swappedStores [.Tuple [.Name x px, .Name y py] kt pt] (.Tuple [a, b] k2 pt2) X.env = pure (some [x, y]) := by rfl)
    (hs : swapsWithSole [.Tuple [.Name x px, .Name y py] kt pt] (.Tuple [a, b] k2 pt2) pos.line X.env = pure false := by rfl) :
    PS X (.Assign [.Tuple [.Name x px, .Name y py] kt pt] (.Tuple [a, b] k2 pt2) pos) (tDS C W (dPar [i, j] da)) := (ps_par hc hN hi hj hij hx hy ha hw hs).imp fun D σ H ⟨e, G, hs, h⟩ => by
  refine tDA_I (s := ⟨e, σ, H, G⟩) hs ((SatS.bind h).mono fun ts s1 hs1 x1 e1 h1 vs rvs => ?_)
  have hσ : s1.σ = σ := e1
  subst hσ
  match ts, rvs, h1 with
  | [], _, h1 => exact h1.elim
  | [_], _, h1 => exact h1.elim
  | _ :: _ :: _ :: _, _, h1 => exact h1.elim
  | [t1, t2], rvs, h1 =>
    obtain ⟨v, w, rfl, r1, r2⟩ := rvs.two
    refine ⟨v, w, rfl, ?_⟩
    have h1 : SatS C W s1 (onNx (setSlot i (.sh t1) s1.e) fun e1 => onNx (setSlot j (.sh t2) e1) fun e2 => .ok .nx e2) D := h1
    obtain ⟨e2, y1, y2, h2⟩ := store_at hs1 r1 h1
    obtain ⟨e3, y3, y4, h3⟩ := store_at y1 r2 (h2.rebase y2)
    exact h3 _ _ _ y3 y4
end
end L2.VD

namespace L2.VD
open PySem PySem.Spec PyProof.Rows

def SqK (K : PySem.W.Frag) (k : Bool) (H : Hp) (a : Addr) (xs : List V) : Prop := match k with
  | true => SqT K H a xs
  | false => SqL K H a xs
def ItK (k : Bool) (h : Heap) (it a : Addr) (i : Nat) : Prop := match k with
  | true => h.IsTupleIter it a i
  | false => h.IsListIter it a i
def IsK (k : Bool) (h : Heap) (a : Addr) (items : Array Value) : Prop := match k with
  | true => h.IsTuple a items
  | false => h.IsList a items
theorem drawsK {prog : Program} {w : World} {A : Around} (hh : A.handled = none) (k : Bool) (it l : Addr) (hne : l ≠ it) (items : Array Value) :
    Draws prog w A it [it, l] items.size (fun i v => items[i]? = some v) (fun i h => ItK k h it l i ∧ IsK k h l items) := match k with
  | true => Draws.tuple hh it l hne items
  | false => Draws.list hh it l hne items
def objK (k : Bool) (l : Addr) : Obj := match k with
  | true => { cls := .type "tuple_iterator", data := .fields #[.ref l, .int 0 0] }
  | false => { cls := .type "list_iterator", data := .fields #[.ref l, .int 0 0] }
theorem beginsK (k : Bool) (l : Addr) (items : Array Value) : Begins (.ref l) (objK k l) fun h => IsK k h l items := match k with
  | true => begins_tuple l items
  | false => begins_list l items
theorem ItK.start {k : Bool} {h : Heap} {it a : Addr} (e : h.get? it = some (objK k a)) : ItK k h it a 0 := match k, e with
  | true, e => ⟨_, e, rfl, rfl⟩
  | false, e => ⟨_, e, rfl, rfl⟩
theorem ItK.obj {k : Bool} {h : Heap} {it a : Addr} {i : Nat} (e : ItK k h it a i) : ∃ o, h.get? it = some o ∧ ∀ v, o.data ≠ .cell v := match k, e with
  | true, ⟨o, e, _, d⟩ => ⟨o, e, fun v q => by rw [d] at q; cases q⟩
  | false, ⟨o, e, _, d⟩ => ⟨o, e, fun v q => by rw [d] at q; cases q⟩
theorem ItK.keep {k : Bool} {h h' : Heap} {it a : Addr} {i : Nat} (e : ItK k h it a i) (f : ∀ o, h.get? it = some o → h'.get? it = some o) : ItK k h' it a i := match k, e with
  | true, e => Heap.IsTupleIter.at e f
  | false, e => Heap.IsListIter.at e f
theorem sqK_get {X : Cx} {pins : List (Addr × Obj)} {σ : St} {H : Hp} {s : Shared} {k : Bool} {a : Addr} {xs : List V} (I : Inv X pins σ H s) (h : SqK X.K k H a xs) : ∃ its : List Value, Vals xs its ∧ IsK k s.heap a its.toArray ∧ ∃ o, s.heap.get? a = some o := match k, h with
  | true, h => by
    obtain ⟨its, rv, p, _⟩ := I.tuple h
    obtain ⟨o, ho, q⟩ := id p
    exact ⟨its, rv, p, o, ho⟩
  | false, h => by
    obtain ⟨its, rv, p, _⟩ := I.list h
    obtain ⟨o, n, ho, q⟩ := id p
    exact ⟨its, rv, p.isList, o, ho⟩
theorem sqK_inj {X : Cx} {pins : List (Addr × Obj)} {σ : St} {H : Hp} {s : Shared} {k : Bool} {a : Addr} {xs ys : List V} (I : Inv X pins σ H s) (h : SqK X.K k H a xs) (h' : SqK X.K k H a ys) : xs = ys := match k, h, h' with
  | true, h, h' => I.tuple_inj h h'
  | false, h, h' => I.list_inj h h'
def ItzM (K : PySem.W.Frag) (k1 k2 : Bool) (a b : Addr) : It :=
  ⟨fun i H => ∃ (xs ys : List V) (x y : V), SqK K k1 H a xs ∧ SqK K k2 H b ys ∧ xs[i]? = some x ∧ ys[i]? = some y,
    fun i H v H' => ∃ T x y, v = .ref T ∧ H T = none ∧ H' = upd H T (.tup [x, y]) ∧ (∀ xs, SqK K k1 H a xs → xs[i]? = some x) ∧ ∀ ys, SqK K k2 H b ys → ys[i]? = some y,
    fun i H => ∃ xs ys : List V, SqK K k1 H a xs ∧ SqK K k2 H b ys ∧ i ≤ xs.length ∧ i ≤ ys.length ∧ (xs.length = i ∨ ys.length = i)⟩
theorem sep_of {z TI TO i1 i2 a b : Addr} (D : ZipApart z TI TO i1 i2 a b) : ZipSep2 z TI TO i1 i2 [i1, a] [i2, b] where
  TIz := D.TIz
  TOz := D.TOz
  TITO := D.TITO
  TIi1 := D.TIi1
  mem1 := by simp
  zf1 := by simp [Ne.symm D.i1z, Ne.symm D.l1z]
  Tf1 := by simp [D.TOi1, Ne.symm D.l1TO]
  TIi2 := D.TIi2
  mem2 := by simp
  zf2 := by simp [Ne.symm D.i2z, Ne.symm D.l2z]
  Tf2 := by simp [D.TOi2, Ne.symm D.l2TO]
  sep1_2 := by simp [D.i12, Ne.symm D.l2i1]
  sep2_1 := by simp [Ne.symm D.i12, Ne.symm D.l1i2]
theorem turn_zipM {P : Program} {w : World} {K : PySem.W.Frag} {k1 k2 : Bool} {elts : List Expr} {kk : Nat} {tpos : Pos} {a b z TI TO i1 i2 : Addr} (D : ZipApart z TI TO i1 i2 a b) :
    Turn P w K (.Tuple elts kk tpos) (ItzM K k1 k2 a b) [z, TI, TO, i1, i2] z (fun i h => IsZip h z TI TO .none ∧ IsPair h TI (.ref i1) (.ref i2) ∧ (∃ x y, IsPair h TO x y) ∧ ItK k1 h i1 a i ∧ ItK k2 h i2 b i) where
  mem := by simp
  obj := fun i h st c hc => by
    obtain ⟨hz, hTI, ⟨x, y, hTO⟩, h1, h2⟩ := st
    have e' : c = z ∨ c = TI ∨ c = TO ∨ c = i1 ∨ c = i2 := by simpa using hc
    rcases e' with q | q | q | q | q
    · rw [q]; exact ⟨_, hz, fun v q => nomatch q⟩
    · rw [q]; exact ⟨_, hTI, fun v q => nomatch q⟩
    · rw [q]; exact ⟨_, hTO, fun v q => nomatch q⟩
    · rw [q]; exact h1.obj
    · rw [q]; exact h2.obj
  keep := fun i h h' st k => by
    obtain ⟨hz, hTI, ⟨x, y, hTO⟩, h1, h2⟩ := st
    exact ⟨k z (by simp) _ hz, k TI (by simp) _ hTI, ⟨x, y, k TO (by simp) _ hTO⟩, h1.keep fun o q => k i1 (by simp) o q, h2.keep fun o q => k i2 (by simp) o q⟩
  item := by
    intro X hP hw hK hc i pins s σ H E I hf st hg
    subst hP hw hK
    obtain ⟨hz, hTI, ⟨x0, y0, hTO⟩, h1, h2⟩ := st
    obtain ⟨xs, ys, x, y, hqx, hqy, hx, hy⟩ := hg
    obtain ⟨its, rv, p, _⟩ := sqK_get I hqx
    obtain ⟨its2, rv2, p2, _⟩ := sqK_get I hqy
    obtain ⟨u, hu, ru⟩ := rv.get hx
    obtain ⟨u2, hu2, ru2⟩ := rv2.get hy
    have hzl : z < s.heap.objs.size := Heap.lt_size hz
    have hh : X.A.in1.handled = none := I.ok.hd hc
    refine wpAny_pyNext_zipD2_item (sep_of D) (drawsK hh k1 i1 a D.l1i1 its.toArray) (drawsK hh k2 i2 b D.l2i2 its2.toArray) hz hTI hTO ⟨h1, p⟩ ⟨h2, p2⟩
      (by have := (List.getElem?_eq_some_iff.mp hu).1; simpa using this) (by have := (List.getElem?_eq_some_iff.mp hu2).1; simpa using this) fun v1 v2 h' tk hv1 hv2 z' TO' st1 st2 hT hsz hk => ?_
    have e1 : v1 = u := Option.some.inj ((show its.toArray[i]? = some v1 from hv1).symm.trans (by simpa using hu))
    have e2 : v2 = u2 := Option.some.inj ((show its2.toArray[i]? = some v2 from hv2).symm.trans (by simpa using hu2))
    subst e1 e2
    obtain ⟨h1', _⟩ := st1
    obtain ⟨h2', _⟩ := st2
    refine ⟨_, rfl, wpAny_letOwnedTupleGo_zip (s := { s with heap := h', toks := tk }) z' fun h'' z'' sb => ?_⟩
    have hT2 : h''.get? s.heap.objs.size = some { cls := .type "tuple", data := .seq #[v1, v2] } := (sb.2 _ (Nat.ne_of_gt hzl)).trans hT
    have new : ObjOk X.prog X.w (upd H s.heap.objs.size (.tup [x, y])) h'' s.heap.objs.size (.tup [x, y]) :=
      ⟨by show 2 ≤ sizeLine; decide, [v1, v2], .cons ru (.cons ru2 .nil), ⟨_, hT2, rfl, _, rfl⟩⟩
    have I1 : Inv X pins σ (upd H s.heap.objs.size (.tup [x, y])) { s with heap := h'', toks := tk } :=
      I.turnedNew (t' := tk) (ch := [z, TI, TO, i1, i2]) (fun c o hb q => (sb.2 c (fun q' => hb (by simp [q']))).trans (hk c o (fun q' => hb (by simp [q'])) (fun q' => hb (by simp [q'])) (fun q' => hb (by simp [q'])) (fun q' => hb (by simp [q'])) q)) hf (Nat.le_refl _) new
    refine ⟨.ref s.heap.objs.size, _, I1, rfl, ⟨_, x, y, rfl, I.hok.fresh (Nat.le_refl _), rfl, fun l hl => by rw [sqK_inj I hl hqx]; exact hx, fun l hl => by rw [sqK_inj I hl hqy]; exact hy⟩, ⟨z'', ?_, ⟨v1, v2, ?_⟩, ?_, ?_⟩, fun c hcm => ?_⟩
    · exact (sb.2 _ D.TIz).trans (hk _ _ D.TIz D.TITO D.TIi1 D.TIi2 hTI)
    · exact (sb.2 _ D.TOz).trans TO'
    · exact h1'.keep fun o q => (sb.2 _ D.i1z).trans q
    · exact h2'.keep fun o q => (sb.2 _ D.i2z).trans q
    · have hlt : c < s.heap.objs.size := by
        have e' : c = z ∨ c = TI ∨ c = TO ∨ c = i1 ∨ c = i2 := by simpa using hcm
        rcases e' with q | q | q | q | q
        · rw [q]; exact hzl
        · rw [q]; exact Heap.lt_size hTI
        · rw [q]; exact Heap.lt_size hTO
        · rw [q]; obtain ⟨_, e1, _⟩ := h1.obj; exact Heap.lt_size e1
        · rw [q]; obtain ⟨_, e2, _⟩ := h2.obj; exact Heap.lt_size e2
      rw [upd_ne (Nat.ne_of_lt hlt)]
      exact (hf c hcm).1
  done := by
    intro X hP hw hK hc i pins s σ H E I hf st hg
    subst hP hw hK
    obtain ⟨hz, hTI, ⟨x0, y0, hTO⟩, h1, h2⟩ := st
    obtain ⟨xs, ys, hqx, hqy, hl1, hl2, hend⟩ := hg
    obtain ⟨its, rv, p, _⟩ := sqK_get I hqx
    obtain ⟨its2, rv2, p2, _⟩ := sqK_get I hqy
    have l1 := rv.length
    have l2 := rv2.length
    have hh : X.A.in1.handled = none := I.ok.hd hc
    refine wpAny_pyNext_zipD2_end (sep_of D) (drawsK hh k1 i1 a D.l1i1 its.toArray) (drawsK hh k2 i2 b D.l2i2 its2.toArray) hz hTI hTO ⟨h1, p⟩ ⟨h2, p2⟩ (by simp; omega) (by simp; omega) (by simp; omega)
      fun h' tk hk => ⟨rfl, I.turnedL (t' := tk) (ch := [z, TI, TO, i1, i2]) (fun c o hb q =>
        hk c o (fun q' => hb (by simp [q'])) (fun q' => hb (by simp [q'])) (fun q' => hb (by simp [q'])) (fun q' => hb (by simp [q'])) q) hf⟩
  self := fun A i s Q E st h => wpAny_pyIter_zip st.1 h

def iZipM (K : PySem.W.Frag) (ta : TA) : TI := fun σ H R => ta σ H fun vs H1 => ∃ k1 k2 a b xs ys, vs = [.ref a, .ref b] ∧ SqK K k1 H1 a xs ∧ SqK K k2 H1 b ys ∧ R (ItzM K k1 k2 a b) H1
theorem pi_zipM {X : Cx} {e e2 : Expr} {ta : TA} {p pos tpos : Pos} {elts : List Expr} {kk : Nat} (hg : Gl X "zip") (hm : X.mg "zip" = none) (ha : PA X [e, e2] ta)
    (hs : starEach [e, e2] X.env = (false, eval e X.env) :: starEach [e2] X.env := by rfl) (hpl : (backTo pos (starEach [e2] X.env)).any (·.1) = false := by rfl) :
    PI X (.Tuple elts kk tpos) (.Call (.Name "zip" p) [e, e2] [] pos) (iZipM X.K ta) := by
  refine ⟨fun pins s σ H R I h => ?_⟩
  refine Call_ (ld_blt I hg hm PyProof.Rows.boot_zip (PyProof.Rows.callWith_type1 (thn (ha.run pos pins s σ H _ I h) fun us s1 ⟨vs, H1, I1, r1, q1⟩ => ?_) hs hpl))
  obtain ⟨k1, k2, a, b, xs, ys, ex, hqx, hqy, q⟩ := q1
  subst ex
  cases r1 with
  | cons r rr =>
    cases rr with
    | cons r' rr =>
      cases rr
      cases r
      cases r'
      obtain ⟨its, rv, p1, o1, ho1⟩ := sqK_get I1 hqx
      obtain ⟨its2, rv2, p2, o2, ho2⟩ := sqK_get I1 hqy
      refine zip_begins2 (beginsK k1 a its.toArray) (beginsK k2 b its2.toArray) p1 p2 fun h' hz hTI hTO h1 h2 hsz hk => wpAny_pyIter_zip hz ?_
      have I2 : Inv X pins σ H1 { s1 with heap := h' } := I1.kept (t' := s1.toks) hk
      refine ⟨s1.heap.objs.size + 4, [s1.heap.objs.size + 4, s1.heap.objs.size + 2, s1.heap.objs.size + 3, s1.heap.objs.size, s1.heap.objs.size + 1], _, _, H1, rfl, I2, turn_zipM (PySem.W.ktu_apart s1.heap.objs.size a b (Heap.lt_size ho1) (Heap.lt_size ho2)), ⟨hz, hTI, ⟨_, _, hTO⟩, ItK.start h1, ItK.start h2⟩, fun c hcm => ?_, q⟩
      have e' : c = s1.heap.objs.size + 4 ∨ c = s1.heap.objs.size + 2 ∨ c = s1.heap.objs.size + 3 ∨ c = s1.heap.objs.size ∨ c = s1.heap.objs.size + 1 := by simpa using hcm
      have hle : s1.heap.objs.size ≤ c := by
        rcases e' with z | z | z | z | z
        · rw [z]; exact Nat.le_add_right _ _
        · rw [z]; exact Nat.le_add_right _ _
        · rw [z]; exact Nat.le_add_right _ _
        · rw [z]; exact Nat.le_refl _
        · rw [z]; exact Nat.le_add_right _ _
      exact I1.fpOk hle (I1.hok.fresh hle)
def zipT : List T → List T → List T
  | a :: as, b :: bs => .tup [a, b] :: zipT as bs
  | _, _ => []
def seqT : T → Option (List T)
  | .lst ts => some ts
  | .sq ts => some ts
  | .tup ts => some ts
  | _ => none
def asZip : List T → Option (List T)
  | [a, b] => (seqT a).bind fun xs => (seqT b).map fun ys => zipT xs ys
  | _ => none
def dZip (d : DA) : DI := fun e => (d e).bind fun ts e1 => Res.of (asZip ts) e1
theorem zipT_len : ∀ as bs : List T, (zipT as bs).length = min as.length bs.length
  | [], bs => by show 0 = _; rw [List.length_nil, Nat.zero_min]
  | a :: as, [] => by show 0 = _; rw [List.length_nil, Nat.min_zero]
  | a :: as, b :: bs => by
    show (zipT as bs).length + 1 = _
    rw [zipT_len as bs, List.length_cons, List.length_cons]
    omega
theorem zipT_get : ∀ {as bs : List T} {i : Nat} {t : T}, (zipT as bs)[i]? = some t → ∃ a b, as[i]? = some a ∧ bs[i]? = some b ∧ t = .tup [a, b]
  | [], bs, i, t, h => by cases h
  | a :: as, [], i, t, h => by cases h
  | a :: as, b :: bs, 0, t, h => by cases h; exact ⟨a, b, rfl, rfl, rfl⟩
  | a :: as, b :: bs, i + 1, t, h => by
    obtain ⟨x, y, h1, h2, h3⟩ := zipT_get (as := as) (bs := bs) (i := i) h
    exact ⟨x, y, h1, h2, h3⟩
section
variable {X : Cx} {C : VX} {W : WX}
theorem SqK.mono {K : PySem.W.Frag} {k : Bool} {H H' : Hp} {a : Addr} {xs : List V} (g : ∀ a o, H a = some o → H' a = some o) (h : SqK K k H a xs) : SqK K k H' a xs := match k, h with
  | true, h => sqT_mono g h
  | false, h => sqL_mono g h
theorem seqT_sq {G : Hp} {t : T} {ts : List T} {v : V} (h : seqT t = some ts) (r : Rp C G t v) : ∃ k a xs, v = .ref a ∧ SqK C.K k G a xs ∧ Rps C G ts xs := by
  cases t with
  | lst us => cases h; obtain ⟨a, xs, rfl, h1, h2⟩ := r; exact ⟨false, a, xs, rfl, .of h1, h2⟩
  | sq us => cases h; obtain ⟨a, xs, rfl, h1, h2⟩ := r; exact ⟨false, a, xs, rfl, h1, h2⟩
  | tup us => cases h; obtain ⟨a, xs, rfl, h1, h2⟩ := r; exact ⟨true, a, xs, rfl, h1, h2⟩
  | non => cases h
  | bl b => cases h
  | int i => cases h
  | str x => cases h
  | obj c us => cases h
theorem jok_zip {G : Hp} {k1 k2 : Bool} {a b : Addr} {xs ys : List V} {ts us : List T} (h1 : SqK C.K k1 G a xs) (h2 : SqK C.K k2 G b ys) (r1 : Rps C G ts xs) (r2 : Rps C G us ys) {K : PySem.W.Frag} (hK : C.K = K) : JOk C (ItzM K k1 k2 a b) G (zipT ts us) := by
  subst hK
  refine ⟨fun H G' g sub i t e => ?_, fun H G' g sub i hi hi2 => ?_⟩
  · obtain ⟨t1, t2, e1, e2, rfl⟩ := zipT_get e
    obtain ⟨x, x1, x2⟩ := r1.get e1
    obtain ⟨y, y1, y2⟩ := r2.get e2
    have h1' := (h1.mono g).mono sub
    have h2' := (h2.mono g).mono sub
    refine ⟨⟨xs, ys, x, y, h1', h2', x1, y1⟩, fun z H' hz => ?_⟩
    obtain ⟨p, x', y', rfl, hp, rfl, f1, f2⟩ := hz
    have : x' = x := Option.some.inj ((f1 xs h1').symm.trans x1)
    subst this
    have : y' = y := Option.some.inj ((f2 ys h2').symm.trans y1)
    subst this
    have gp : G' p = none := by
      cases q : G' p with
      | none => rfl
      | some u => have := sub _ _ q; rw [hp] at this; cases this
    refine ⟨upd G' p (.tup [x', y']), upd_sup hp, upd_sup gp, fun b o hb => ?_, fun b hb => ?_, p, [x', y'], rfl, .inl (.inl upd_same), Rps.cons (x2.mono fun b o hb => upd_sup gp b o (g b o hb)) (Rps.cons (y2.mono fun b o hb => upd_sup gp b o (g b o hb)) Rps.nil)⟩
    · by_cases hbp : b = p
      · subst hbp; rw [upd_same] at hb ⊢; exact hb
      · rw [upd_ne hbp] at hb ⊢; exact sub b o hb
    · by_cases hbp : b = p
      · subst hbp; exact .inr hp
      · rw [upd_ne hbp] at hb; exact .inl hb
  · rw [zipT_len] at hi hi2
    have l1 := r1.length
    have l2 := r2.length
    exact ⟨xs, ys, (h1.mono g).mono sub, (h2.mono g).mono sub, by omega, by omega, by omega⟩
theorem i_zip {e e2 : Expr} {d : DA} {p pos tpos : Pos} {elts : List Expr} {kk : Nat} (hm : X.mg "zip" = none) (ha : PA X [e, e2] (tDA C W d)) (hg : Gl X "zip" := by rfl)
    (hs : starEach [e, e2] X.env = (false, eval e X.env) :: starEach [e2] X.env := by rfl) (hpl : (backTo pos (starEach [e2] X.env)).any (·.1) = false := by rfl) (hK : C.K = X.K := by rfl) :
    PI X (.Tuple elts kk tpos) (.Call (.Name "zip" p) [e, e2] [] pos) (tDI C W (dZip d)) := (pi_zipM hg hm ha hs hpl).imp fun σ H R ⟨e, G, hs, h⟩ => by
  refine tDA_I (s := ⟨e, σ, H, G⟩) hs ((SatE.bind h).mono fun ts s1 hs1 x1 e1 h1 vs rvs => ?_)
  obtain ⟨us, ho, k⟩ := SatE.of h1
  have k := k s1.H s1.G hs1 (Ext.refl _)
  match ts, rvs, ho with
  | [], _, ho => cases ho
  | [_], _, ho => cases ho
  | _ :: _ :: _ :: _, _, ho => cases ho
  | [t1, t2], rvs, ho =>
    obtain ⟨v, w, rfl, r1, r2⟩ := rvs.two
    have ho : ((seqT t1).bind fun xs => (seqT t2).map fun ys => zipT xs ys) = some us := ho
    cases q1 : seqT t1 with
    | none => rw [q1] at ho; cases ho
    | some l1 =>
      rw [q1] at ho
      cases q2 : seqT t2 with
      | none => rw [q2] at ho; cases ho
      | some l2 =>
        rw [q2] at ho
        cases ho
        obtain ⟨k1, a, xs, rfl, a1, a2⟩ := seqT_sq q1 r1
        obtain ⟨k2, b, ys, rfl, b1, b2⟩ := seqT_sq q2 r2
        rw [← hK]
        exact ⟨k1, k2, a, b, xs, ys, rfl, a1.mono hs1.sub, b1.mono hs1.sub, k _ (jok_zip a1 b1 a2 b2 rfl)⟩
end
end L2.VD

namespace L2.VD
open PySem PySem.Spec PyProof.Rows

section
variable {X : Cx} {pins : List (Addr × Obj)} {σ : St} {H : Hp} {s : Shared} {k : Nat} {f : Addr} {fd : FuncData} {ps : List Str} {sp : Sp}
theorem run_at {A : Around} {Q : VK} {E : XK} {us : List Value} {vs : List V} (F : FnOk X.prog X.w X.K X.mg X.base (L2.CX X.prog X.w) k f fd ps sp) (hr : Room k A) (hfr : A.frames = X.A.frames) (hb : Binds X.K fd ps []) (hx : PassesAt (L2.CX X.prog X.w) X σ E)
    (I : Inv X pins σ H s) (r : Vals vs us) (h : sp vs H Q E) : wpAny (model X.prog X.w) A (call (.ref f) us) (EP X pins σ Q) X.xe s := by
  have hl : us.length = ps.length := by rw [← r.length]; exact F.len _ _ _ _ h
  have b := hb s us I.kIn (by rw [List.append_nil]; exact hl)
  rw [List.append_nil] at b
  have e := I.env0
  have e0 : Env0 X.prog X.w X.K X.mg X.base A X.stack s H := ⟨by rw [hfr]; exact e.frames, e.mod, e.bs, e.bsz, e.funs, e.frf, e.hok, e.bare⟩
  refine wpAny_call (codeAny_mono (F.run A X.stack s H ⟨us, []⟩ us vs Q E hr e0 b r h) fun r s' hq => ?_)
  cases r with
  | error e => exact hx pins H s e s' I hq
  | ok fl =>
    cases fl with
    | ret u => exact I.after hq
    | next => exact False.elim hq
    | brk => exact False.elim hq
    | cont => exact False.elim hq
theorem passes0 : PassesAt (L2.CX X.prog X.w) X σ (fun _ _ _ => False) := fun _ _ _ _ _ _ ⟨_, _, _, _, _, _, _, _, _, _, _, _, h⟩ => h.elim
theorem ep_ni {Q : VK} {Q' : Value → Shared → Prop} (h : ∀ u s', EP X pins σ Q u s' → Q' u s') : ∀ u s', EP X pins σ Q u s' → PySem.W.CmpBack Q' u s' := by
  intro u s' z
  have z0 := z
  obtain ⟨v, H', I', rv, q⟩ := z
  cases u with
  | notImplemented =>
    cases v with
    | int i => obtain ⟨t, e⟩ := rv; cases e
    | str i => obtain ⟨t, e⟩ := rv; cases e
    | byt i => obtain ⟨t, e⟩ := rv; cases e
    | flt i => obtain ⟨t, e⟩ := rv; cases e
    | non => cases rv
    | bl b => cases rv
    | ref b => cases rv
    | ty b => cases rv
  | _ => exact h _ s' z0
end

structure OwnOk (X : Cx) (C : VX) (nm : Str) (c np : Nat) (F : DF) : Prop where
  ex : ∃ f fd ps k, PySem.W.findIn X.K (.ref (C.ca c)) nm = some (some (.ref f)) ∧ PySem.W.isFn X.K (.ref f) = true ∧ FnOk X.prog X.w X.K X.mg X.base (L2.CX X.prog X.w) k f fd ps (spD C np F) ∧ Room (k + 2) X.A ∧ Binds X.K fd ps []
theorem Room.in2 {k : Nat} {A : Around} (r : Room (k + 2) A) : Room k A.in1 := (r.mono (by omega : k + 1 ≤ k + 2)).in1

def fOwn1 (F : DF) (t : T) : Option Out := match F [.sh t] with
  | .ok o _ => some o
  | _ => none
section
variable {C : VX}
theorem sp_own {s : S} {ts : List T} {vs : List V} {o : Out} {e' : List Slot} {F : DF} {Q : VK} (hs : Sees C s) (r : Rps C s.G ts vs) (h : F (ts.map .sh) = .ok o e') {np : Nat} (hn : ts.length = np)
    (q : ∀ v H' G', Sees C ⟨s.e, s.σ, H', G'⟩ → Ext s ⟨s.e, s.σ, H', G'⟩ → OutOk C s ⟨s.e, s.σ, H', G'⟩ v o → Q v H') : spD C np F vs s.H Q (fun _ _ _ => False) := by
  have hsl : ∀ ts : List T, slotsOf s.e (ts.map AV.v) = some (ts.map .sh) := by
    intro ts
    induction ts with
    | nil => rfl
    | cons t ts ih =>
      show ((slotOf s.e (AV.v t)).bind fun x => (slotsOf s.e (ts.map AV.v)).map fun xs => x :: xs) = _
      rw [ih]; rfl
  have hle : ∀ ts : List T, lentOf (ts.map AV.v) = [] := by
    intro ts
    induction ts with
    | nil => rfl
    | cons t ts ih => exact ih
  have hpb : ∀ (ts : List T) (n : Nat) (e : List Slot), putBack e' n (ts.map AV.v) e = e := by
    intro ts
    induction ts with
    | nil => intro n e; rfl
    | cons t ts ih => intro n e; exact ih (n + 1) e
  have hr : SatE C W0 s (runF F (ts.map AV.v) s.e) (fun o s' => ∀ v, OutOk C s s' v o → Q v s'.H) := by
    unfold runF
    rw [hsl, hle]
    show SatE C W0 s (mapE (fun e' => putBack e' 0 (ts.map AV.v) s.e) (F (ts.map .sh))) _
    rw [h]
    show SatE C W0 s (.ok o (putBack e' 0 (ts.map AV.v) s.e)) _
    rw [hpb]
    exact fun H' G' z1 z2 v ov => q v H' G' z1 z2 ov
  have := call_of (W := W0) hs (Ext.refl _) (AVs.ofR r) hr np (by rw [List.length_map]; exact hn)
  exact this
end

end L2.VD

namespace L2.VD
open PySem PySem.Spec PyProof.Rows

section
variable {X : Cx} {C : VX} {W : WX} {tbl : Nat → Option DF}
variable {a b : Expr} {da db : DE} {pos : Pos} {k : Nat}
end

def rOwnLen (C : VX) (tbl : Nat → Option DF) : List V → Hp → VK → Prop := fun xs H Q => ∃ a c dx fs F, xs = [.ref a] ∧ H a = some (.ins (C.ca c) dx fs) ∧ tbl c = some F ∧ spD C 1 F [.ref a] H (fun v H' => ∃ n : Int, v = .int n ∧ 0 ≤ n ∧ n < 2 ^ 63 ∧ Q v H') (fun _ _ _ => False)
def lenO (o : Out) : Option Out := match o with
  | .sh (.int n) => if decide (0 ≤ n) && decide (n < 1000000) then some o else none
  | _ => none
def fLenO (tbl : Nat → Option DF) (ts : List T) : Option Out := match ts with
  | [.obj c us] => (tbl c).bind fun F => (fOwn1 F (.obj c us)).bind lenO
  | _ => fLen ts
structure OwnTbl (X : Cx) (C : VX) (nm : Str) (tbl : Nat → Option DF) : Prop where
  ok : ∀ c F, tbl c = some F → OwnOk X C nm c 1 F
section
variable {X : Cx} {C : VX} {W : WX} {tbl : Nat → Option DF}
theorem call_ownLen (he : OwnTbl X C "__len__" tbl) : CallR X (.builtin "len") (fun xs H Q => (∃ x n, xs = [x] ∧ LenV X.K x H n ∧ Q (.int n) H) ∨ rOwnLen C tbl xs H Q) := by
  intro pins s σ H xs us Q I r h
  rcases h with h | h
  · exact call_len pins s σ H xs us Q I r h
  · obtain ⟨a, c, dx, fs, F, rfl, ha, hF, hsp⟩ := h
    obtain ⟨f, fd, ps, k, h1, h2, h3, h4, h5⟩ := (he.ok c F hF).ex
    obtain ⟨u, rfl, ru⟩ := vals1 r
    cases ru
    obtain ⟨mA, J, _⟩ := ins_get I.hok ha
    obtain ⟨od, J, _⟩ := J.look
    obtain ⟨m, hFr⟩ := I.fr
    refine PySem.W.len_K hFr I.ok.mod.kin J h1 h2 (wpAny_mono (run_at (A := X.A.in1) (vs := [.ref a]) h3 (Room.in2 h4) rfl h5 passes0 I (.cons rfl .nil) hsp) (fun w s' z => ?_) fun _ _ e => e)
    obtain ⟨v, H', I', rv, n, rfl, n0, n1, q⟩ := z
    obtain ⟨t, rfl⟩ := rv
    exact ⟨⟨n0, n1⟩, .int n, H', I'.kept (t' := s'.toks + 1) fun _ _ e => e, ⟨_, rfl⟩, q⟩
theorem cs_ownLen {K : PySem.W.Frag} (hK : C.K = K := by rfl) : CallS C (fun xs H Q => (∃ x n, xs = [x] ∧ LenV K x H n ∧ Q (.int n) H) ∨ rOwnLen C tbl xs H Q) (fLenO tbl) := by
  refine ⟨fun s vs ts o Q hs r ho q => ?_⟩
  unfold fLenO at ho
  split at ho
  · rename_i c us
    cases hF : tbl c with
    | none => rw [hF] at ho; exact nomatch ho
    | some F =>
      rw [hF] at ho
      have ho : (fOwn1 F (.obj c us)).bind lenO = some o := ho
      unfold fOwn1 at ho
      split at ho
      · rename_i o1 e' q1
        have ho : lenO o1 = some o := ho
        unfold lenO at ho
        split at ho
        · rename_i n _
          split at ho
          · rename_i hz
            cases ho
            rw [Bool.and_eq_true, decide_eq_true_eq, decide_eq_true_eq] at hz
            obtain ⟨v, rfl, r1⟩ := r.one
            have r0 := r1
            obtain ⟨a, dx, xs, rfl, w1, w2, w3⟩ := r1
            refine .inr ⟨a, c, dx, _, F, rfl, hs.sub _ _ w1, hF, sp_own (ts := [.obj c us]) hs ⟨_, _, rfl, r0, rfl⟩ q1 rfl fun v H' G' z1 z2 ov => ?_⟩
            have ov' : v = .int n := ov
            subst ov'
            exact ⟨n, rfl, hz.1, Int.lt_trans hz.2 (by decide +kernel), q _ H' G' z1 z2 rfl⟩
          · cases ho
        · cases ho
      · cases ho
  · exact .inl ((cs_len hK).run s vs ts o Q hs r ho q)
end
end L2.VD

namespace L2.VD
open PySem PySem.Spec PyProof.Rows

def opO (f : T → T → Option Out) (tbl : Nat → Option DF) (t u : T) (e : List Slot) : Res Out := match t with
  | .obj c ts => match u with
    | .obj d us => if Nat.beq c d then match tbl c with
        | some F => runN 2 F [.v (.obj c ts), .v (.obj d us)] e
        | none => .bad
      else .bad
    | _ => .bad
  | _ => Res.of (f t u) e
def dOpO (f : T → T → Option Out) (tbl : Nat → Option DF) (da db : DE) : DE := fun e => (da e).bind fun a e1 => (db e1).bind fun b e2 => opO f tbl a.t b.t e2
structure OpTbl (X : Cx) (C : VX) (op : Operator) (tbl : Nat → Option DF) : Prop where
  ok : ∀ c F, tbl c = some F → OwnOk X C (PySem.dunder op.info.2) c 2 F
  sf : ∀ c F, tbl c = some F → PySem.W.selfFirst X.K (C.ca c) = true
def rOwnOp (C : VX) (W : WX) (tbl : Nat → Option DF) (σ : St) : R2 := fun x y H Q => ∃ a b c dx fs dy gs F, x = .ref a ∧ y = .ref b ∧ H a = some (.ins (C.ca c) dx fs) ∧ H b = some (.ins (C.ca c) dy gs) ∧ tbl c = some F ∧ spD C 2 F [x, y] H Q (WE W σ)
section
variable {X : Cx} {C : VX} {W : WX} {tbl : Nat → Option DF} {a b : Expr} {da db : DE} {pos : Pos} {op : Operator} {r : R2} {f : T → T → Option Out}
theorem pe_opO {ta tb : TE} (ho : OpR X (binaryOp op) r) (he : OpTbl X C op tbl) (hx : ∀ σ, PassesAt (L2.CX X.prog X.w) X σ (WE W σ)) (ha : PE X a ta) (hb : PE X b tb) :
    PE X (.BinOp a op b pos) (fun σ H Q => ta σ H fun x H1 => tb σ H1 fun y H2 => r x y H2 Q ∨ rOwnOp C W tbl σ x y H2 Q) := by
  refine ⟨fun pins s σ H Q I h => ?_⟩
  refine wpAny_BinOp (binT ha hb I h fun v u s2 x y H2 I2 rx ry q => ?_)
  rcases q with q | q
  · exact ho pins s2 σ H2 x y v u Q I2 rx ry q
  · obtain ⟨a, b, c, dx, fs, dy, gs, F, rfl, rfl, ha, hb, hF, hsp⟩ := q
    obtain ⟨f, fd, ps, k, h1, h2, h3, h4, h5⟩ := (he.ok c F hF).ex
    cases rx
    cases ry
    obtain ⟨mA, J, _⟩ := ins_get I2.hok ha
    obtain ⟨od, J, _⟩ := J.look
    obtain ⟨mB, J', _⟩ := ins_get I2.hok hb
    obtain ⟨od', J', _⟩ := J'.look
    obtain ⟨m, hFr⟩ := I2.fr
    refine PySem.W.binop_K hFr I2.ok.mod.kin J J'.type (he.sf c F hF) h1 h2 ?_
    exact wpAny_mono (run_at (A := X.A) (vs := [.ref a, .ref b]) h3 (h4.mono (by omega)) rfl h5 (hx σ) I2 (.cons rfl (.cons rfl .nil)) hsp) (fun w s' z => ep_ni (fun u s' z => z) w s' z) fun _ _ e => e
theorem e_opO (ho : OpR X (binaryOp op) r) (hf : OpS C r f) (he : OpTbl X C op tbl) (hx : ∀ σ, PassesAt (L2.CX X.prog X.w) X σ (WE W σ)) (ha : PE X a (tD C W da)) (hb : PE X b (tD C W db)) : PE X (.BinOp a op b pos) (tD C W (dOpO f tbl da db)) := (pe_opO ho he hx ha hb).imp fun σ H Q ⟨e, G, hs, h⟩ => by
  refine tD_T (s := ⟨e, σ, H, G⟩) hs ((SatE.bind h).mono fun x s1 hs1 x1 e1 h1 v rv => ?_)
  have hσ : s1.σ = σ := e1
  subst hσ
  refine tD_T hs1 ((SatE.bind h1).mono fun y s2 hs2 x2 e2 h2 w rw' => ?_)
  have h2 : SatE C W s2 (opO f tbl x.t y.t s2.e) (fun o s' => ∀ v, OutOk C ⟨e, s1.σ, H, G⟩ s' v o → Q v s'.H) := h2
  unfold opO at h2
  split at h2
  · rename_i c ts hx
    rw [hx] at rv
    split at h2
    · rename_i d us hy
      rw [hy] at rw'
      split at h2
      · rename_i hcd
        have := Nat.eq_of_beq_eq_true hcd
        subst this
        split at h2
        · rename_i F hF
          have rv2 := rv.mono x2.g
          have rv0 := rv2
          have rw0 := rw'
          obtain ⟨a, dx, xs, rfl, r1, r2, r3⟩ := rv2
          obtain ⟨b, dy, ys, rfl, w1, w2, w3⟩ := rw'
          refine .inr ⟨a, b, c, dx, _, dy, _, F, rfl, rfl, hs2.sub _ _ r1, hs2.sub _ _ w1, hF, ?_⟩
          have hav : AVs C s2 [.v (.obj c ts), .v (.obj c us)] [.ref a, .ref b] := ⟨_, _, rfl, rv0, _, _, rfl, rw0, rfl⟩
          have := call_ofN hs2 (x1.trans x2) hav h2
          rw [e2] at this
          exact this
        · exact h2.elim
      · exact h2.elim
    · exact h2.elim
  · rename_i t hn
    obtain ⟨o, ho, k⟩ := SatE.of h2
    refine .inl (hf.run s2 v w _ _ o Q hs2 (rv.mono x2.g) rw' ho fun u H' G' z1 z2 z3 => ?_)
    exact k H' G' z1 z2 u (z3.base (x1.trans x2))
end

end L2.VD

namespace L2.VD
open PySem PySem.Spec PyProof.Rows

end L2.VD

namespace L2.VD
open PySem PySem.Spec PyProof.Rows

def tab {α : Type} : List (Nat × α) → Nat → Option α
  | [], _ => none
  | p :: r, d => if Nat.beq d p.1 then some p.2 else tab r d
theorem tab_nil {α : Type} {P : Nat → α → Prop} : ∀ d u, tab ([] : List (Nat × α)) d = some u → P d u := fun d u h => nomatch h
theorem tab_cons {α : Type} {P : Nat → α → Prop} {c : Nat} {v : α} {r : List (Nat × α)} (h : P c v) (hr : ∀ d u, tab r d = some u → P d u) : ∀ d u, tab ((c, v) :: r) d = some u → P d u := by
  intro d u e
  unfold tab at e
  split at e
  · rename_i q
    have q := Nat.eq_of_beq_eq_true q
    cases e
    subst q
    exact h
  · exact hr d u e
section
variable {X : Cx} {C : VX} {c np : Nat}
theorem own_mk {nm : Str} {F : DF} {f : Addr} {fd : FuncData} {ps : List Str} {k : Nat} (h1 : PySem.W.findIn X.K (.ref (C.ca c)) nm = some (some (.ref f))) (h2 : PySem.W.isFn X.K (.ref f) = true) (h3 : FnOk X.prog X.w X.K X.mg X.base (L2.CX X.prog X.w) k f fd ps (spD C np F)) (h4 : Room (k + 2) X.A) (h5 : Binds X.K fd ps []) : OwnOk X C nm c np F := ⟨⟨f, fd, ps, k, h1, h2, h3, h4, h5⟩⟩
theorem optbl_mk {op : Operator} {l : List (Nat × DF)} (h : ∀ c F, tab l c = some F → OwnOk X C (PySem.dunder op.info.2) c 2 F ∧ PySem.W.selfFirst X.K (C.ca c) = true) : OpTbl X C op (tab l) := ⟨fun c F e => (h c F e).1, fun c F e => (h c F e).2⟩
theorem owntbl_mk {nm : Str} {l : List (Nat × DF)} (h : ∀ c F, tab l c = some F → OwnOk X C nm c 1 F) : OwnTbl X C nm (tab l) := ⟨h⟩
structure EqFacts (K : PySem.W.Frag) (C : VX) (c : Nat) : Prop where
  n1 : PySem.W.subIn K (.type "tuple") (.ref (C.ca c)) = some false
  n2 : PySem.W.subIn K (.type "list") (.ref (C.ca c)) = some false
  n3 : PySem.W.subIn K (.type "int") (.ref (C.ca c)) = some false
  n4 : PySem.W.subIn K (.type "NoneType") (.ref (C.ca c)) = some false
  n5 : PySem.W.subIn K (.type "str") (.ref (C.ca c)) = some false
  n6 : PySem.W.subIn K (.type "bool") (.ref (C.ca c)) = some false
  ne : PySem.W.findIn K (.ref (C.ca c)) "__ne__" = some (some (.builtin "object.__ne__"))
  ob : PySem.W.mroIn K (C.ca c) (.type "object") = some true
theorem isi_mk {u : Value} {l : List (Nat × Bool)} (h : ∀ k b, tab l k = some b → PySem.W.kitOne C.K (tyOfKind C k) u = some b ∧ ∀ c, k = c + 6 → InsTy C.K (C.ca c)) : IsiTbl C u (tab l) := ⟨fun k b e => (h k b e).1, fun c b e => (h _ b e).2 c rfl⟩
theorem isis_mk {us : List Value} {l : List (Nat × Bool)} (h : ∀ k b, tab l k = some b → PySem.W.kitAny C.K (tyOfKind C k) us = some b ∧ ∀ c, k = c + 6 → InsTy C.K (C.ca c)) : IsiTbls C us (tab l) := ⟨fun k b e => (h k b e).1, fun c b e => (h _ b e).2 c rfl⟩
theorem lowk {P : Nat → Prop} {k : Nat} (h : k < 6) : ∀ c, k = c + 6 → P c := fun c e => absurd h (by omega)
theorem insk {P : Nat → Prop} {d : Nat} (h : P d) : ∀ c, d + 6 = c + 6 → P c := fun c e => by
  have : d = c := by omega
  exact this ▸ h
theorem mok_mk {m : Str} {me : ME} {f : Addr} {fd : FuncData} {ps : List Str} {k : Nat} {dvs : List V} {us : List Value} (cl : Cls X.K (C.ca c)) (h1 : PySem.W.findIn X.K (.ref (C.ca c)) m = some (some (.ref f))) (h2 : PySem.W.isFn X.K (.ref f) = true) (h2' : PySem.W.keepIn X.K (.ref f) = true) (h3 : FnOk X.prog X.w X.K X.mg X.base (L2.CX X.prog X.w) k f fd ps (spD C me.np me.F)) (h4 : Room k X.A) (h5 : Binds X.K fd ps us) (h6 : Defs C me.ds dvs us) (no : m ∉ C.cf c) : MOk X C m c me :=
  ⟨⟨f, fd, ps, k, dvs, us, cl, ⟨h1, h2, h2'⟩, h3, h4, h5, h6⟩, no⟩
theorem fld_mk {f : Str} {l : List (Nat × Nat)} (h : ∀ c k, tab l c = some k → Cls C.K (C.ca c) ∧ NoAttr C.K (C.ca c) f ∧ (C.cf c)[k]? = some f ∧ f ∉ (C.cf c).take k) : FldTbl C f (tab l) := ⟨h⟩
theorem exc_mk {cv : Value} {l : List (Nat × Bool)} (h : ∀ c b, tab l c = some b → PySem.W.exmOne C.K (.ref (C.ca c)) cv = some b) : ExcTbl C cv (tab l) := ⟨h⟩
theorem fn_DD {P : Program} {w : World} {K : PySem.W.Frag} {mg : Str → Option Value} {base : Heap} {x qual : Str} {params : Arguments} {bd : List Stmt} {scope : Scope} {dvs : List V} {f : Addr} {fd : FuncData} {N ps : List Str} {k : Nat} {d : DS} (F : FunD K x qual params bd scope dvs [] f fd) (S : FnScope N ps scope) {nl : Nat} (hN : N.length = ps.length + nl)
    (body : ∀ (cdv : Value) (A : Around) (outer : List Env) (s : Shared) (H : Hp) (E : XK), Room k (A.deeper (envOfC qual scope s.heap.objs.size f cdv)) →
      PSs (cxOf (L2.CX P w) P w K mg base N qual scope f cdv A outer s H E) bd (tDS C (fun cls d _ H => E cls d H) d)) :
    FnOk P w K mg base (L2.CX P w) (k + 1) f fd ps (spD C ps.length (fnD nl d)) := by
  refine F.ok S (fun vs H Q E h => h.1) (fun cdv A outer s H vs Q E hr h => ⟨_, body cdv A outer s H E hr, ?_⟩)
  obtain ⟨hv, ss, G, hs, h⟩ := h
  have hl : ss.length = vs.length := by have := hs.len; rw [List.length_map] at this; exact this
  have es : L2.start N vs = vs.map some ++ List.replicate nl none := by
    unfold L2.start
    rw [hN, hv, Nat.add_sub_cancel_left]
  rw [es]
  refine ⟨ss ++ List.replicate nl .un, G, hs.pad nl, ?_⟩
  unfold fnD at h
  cases q : d (ss ++ List.replicate nl .un) with
  | bad => rw [q] at h; exact h
  | ex y e => rw [q] at h; exact fun cls d σ' H' G' z1 z2 z3 => h cls d σ' H' G' z1 (z2.unpad hl) z3
  | ok f e =>
    rw [q] at h
    intro σ' H' G' z1 z2
    cases f with
    | bk => exact h.elim
    | ct => exact h.elim
    | nx => exact h σ' H' G' z1 (z2.unpad hl) _ rfl
    | rt o => exact fun v ov => h σ' H' G' z1 (z2.unpad hl) v (ov.from fun a z => z.unpad hl)
theorem kit_rt {K : PySem.W.Frag} {A : Addr} {T : String} {b : Bool} (h : PySem.W.subIn K (.ref A) (.type T) = some b) (hT : PySem.W.kitMeta T = true := by decide +kernel) : PySem.W.kitOne K (.ref A) (.type T) = some b := by
  unfold PySem.W.kitOne
  rw [if_neg (by simp)]
  show (if PySem.W.kitMeta T = true then _ else _) = _
  rw [if_pos hT]
  exact h
theorem kit_tr {K : PySem.W.Frag} {A : Addr} {T : String} {b : Bool} (h : PySem.W.subIn K (.type T) (.ref A) = some b) (h1 : PySem.W.isClsIn K A = true) (h2 : PySem.W.typeIn K (.ref A) = some (.type "type")) : PySem.W.kitOne K (.type T) (.ref A) = some b := by
  unfold PySem.W.kitOne
  rw [if_neg (by simp)]
  have h1' : (PySem.W.clsIn K A).isSome = true := h1
  show (if ((PySem.W.clsIn K A).isSome && PySem.W.typeIn K (.ref A) == some (.type "type")) = true then _ else _) = _
  rw [if_pos (by rw [h1', h2]; rfl)]
  exact h
theorem kit_self {K : PySem.W.Frag} {t : Value} : PySem.W.kitOne K t t = some true := by
  unfold PySem.W.kitOne
  rw [if_pos (by simp)]
theorem kitAny2 {K : PySem.W.Frag} {t c1 c2 : Value} {b1 b2 : Bool} (h1 : PySem.W.kitOne K t c1 = some b1) (h2 : PySem.W.kitOne K t c2 = some b2) : PySem.W.kitAny K t [c1, c2] = some (b1 || b2) := by
  unfold PySem.W.kitAny
  rw [h1]
  cases b1 with
  | true => rfl
  | false =>
    show PySem.W.kitAny K t [c2] = some b2
    unfold PySem.W.kitAny
    rw [h2]
    cases b2 <;> rfl
theorem exm_of {K : PySem.W.Frag} {A S : Addr} {b : Bool} (h1 : PySem.W.subIn K (.ref S) (.type "BaseException") = some true) (h2 : PySem.W.isClsIn K S = true) (h3 : PySem.W.typeIn K (.ref S) = some (.type "type")) (h4 : PySem.W.subIn K (.ref A) (.ref S) = some b) :
    PySem.W.exmOne K (.ref A) (.ref S) = some b := by
  have e1 : (PySem.W.subIn K (.ref S) (.type "BaseException") == some true) = true := by rw [h1] <;> rfl
  have e2 : ((PySem.W.clsIn K S).isSome && PySem.W.typeIn K (.ref S) == some (.type "type")) = true := by
    have h2' : (PySem.W.clsIn K S).isSome = true := h2
    rw [h2', h3] <;> rfl
  show (if (PySem.W.subIn K (.ref S) (.type "BaseException") == some true) = true then (if ((PySem.W.clsIn K S).isSome && PySem.W.typeIn K (.ref S) == some (.type "type")) = true then PySem.W.subIn K (.ref A) (.ref S) else none) else none) = some b
  rw [if_pos e1, if_pos e2]
  exact h4
theorem boot_bool' : bootBuiltins "bool" = some (.type "bool") := by decide +kernel
end
end L2.VD

namespace L2.VD
open PySem PySem.Spec PyProof.Rows
abbrev enumCell (n : Addr) : Obj := { cls := .type "enumerate", data := .fields #[.none, .bool false, .ref n, rawInt 0, .none, .none] }
set_option maxHeartbeats 1000000 in
theorem meets_enum1 {v : Value} {ob : Obj} {HP : Heap → Prop} (B : Begins v ob HP) : Meets (Builtin.«enumerate.__new__» ⟨[.type "enumerate", v], []⟩)
    (fun _ R s => HP s.heap ∧ R (.ok (.ret (.ref (s.heap.push ob).objs.size))) { s with heap := (s.heap.push ob).push (enumCell s.heap.objs.size) }) :=
  .of_wp fun prog w A R s h => by
    obtain ⟨hp, g, d, tk, os⟩ := s
    obtain ⟨hb, h⟩ := h
    have hsub := sub_enumerate
    have qi : ∀ {A' : Around} {E' : Value → Shared → Prop} {Q' : Value → Shared → Prop}, Q' (.ref hp.objs.size) ⟨hp.push ob, g, d, tk, os⟩ → wpAny (model prog w) A' (pyIter v) Q' E' ⟨hp, g, d, tk, os⟩ := fun q => B.iter prog w _ _ ⟨hp, g, d, tk, os⟩ _ hb q
    wp_walk using qi
    refine wpAny_stack_any fun st => wpAny_pure ?_
    split
    · rename_i c _ _ _ _ _
      cases (c == Value.type "enumerate") <;> (wp_walk using qi; exact ⟨_, rfl, h⟩)
    · wp_walk using qi
      exact ⟨_, rfl, h⟩
theorem call_enum1 {prog : Program} {w : World} {A : Around} {E : Value → Shared → Prop} {s : Shared} {v : Value} {ob : Obj} {HP : Heap → Prop} {Q : Value → Shared → Prop} (B : Begins v ob HP) (hb : HP s.heap)
    (h : ∀ h', IsEnum h' (s.heap.objs.size + 1) s.heap.objs.size 0 .none → h'.get? s.heap.objs.size = some ob → (∀ b o, s.heap.get? b = some o → h'.get? b = some o) → Q (.ref (s.heap.objs.size + 1)) { s with heap := h' }) :
    wpAny (model prog w) A (call (.type "enumerate") [v]) Q E s := by
  refine callType_new F.called_enumerate (by decide) (F.typeCall_enumerate_1 _) (F.newCall_enumerate_1 _) (fun obj => F.args_object_init_2 obj _) F.entry_enumerate_new (meets_enum1 B) ⟨hb, ?_⟩
  have hsz : (s.heap.push ob).objs.size = s.heap.objs.size + 1 := Heap.size_push ..
  show _ ∧ _
  rw [hsz]
  have cell : IsEnum ((s.heap.push ob).push (enumCell s.heap.objs.size)) (s.heap.objs.size + 1) s.heap.objs.size 0 .none := by
    have q := Heap.get?_push_size (s.heap.push ob) (o := enumCell s.heap.objs.size) rfl
    rw [hsz] at q
    exact q
  exact ⟨⟨_, cell, rfl⟩, h _ cell (Heap.get?_push_of_some _ (Heap.get?_push_size _ B.free)) fun b o x => Heap.get?_push_of_some _ (Heap.get?_push_of_some _ x)⟩

def ItE (K : PySem.W.Frag) (k : Bool) (a : Addr) : It :=
  ⟨fun i H => ∃ (xs : List V) (x : V), SqK K k H a xs ∧ xs[i]? = some x,
    fun i H v H' => ∃ p x, v = .ref p ∧ H p = none ∧ H' = upd H p (.tup [.int (i : Nat), x]) ∧ ∀ xs, SqK K k H a xs → xs[i]? = some x,
    fun i H => ∃ xs : List V, SqK K k H a xs ∧ xs.length = i⟩
theorem turn_enumK {P : Program} {w : World} {K : PySem.W.Frag} {k : Bool} {elts : List Expr} {kk : Nat} {tpos : Pos} {a en it : Addr} (h1 : en ≠ it) (h2 : a ≠ it) (h3 : a ≠ en) :
    Turn P w K (.Tuple elts kk tpos) (ItE K k a) [en, it] en (fun i h => (∃ old, IsEnum h en it ((i : Nat) : Int) old) ∧ ItK k h it a i) where
  mem := by simp
  obj := fun i h st b hb => by
    obtain ⟨⟨old, he⟩, hi⟩ := st
    have hb : b = en ∨ b = it := by simpa using hb
    rcases hb with z | z
    · rw [z]; exact ⟨_, he, fun v q => nomatch q⟩
    · rw [z]; exact hi.obj
  keep := fun i h h' st kp => by
    obtain ⟨⟨old, he⟩, hi⟩ := st
    exact ⟨⟨old, kp en (by simp) _ he⟩, hi.keep fun o q => kp it (by simp) o q⟩
  item := by
    intro X hP hw hK hc i pins s σ H E I hf st hg
    subst hP hw hK
    obtain ⟨⟨old, he⟩, hi⟩ := st
    obtain ⟨xs, x, hq, hx⟩ := hg
    obtain ⟨its, rv, p, oa, hoa⟩ := sqK_get I hq
    obtain ⟨u, hu, ru⟩ := rv.get hx
    have hel : en < s.heap.objs.size := Heap.lt_size he
    have hil : it < s.heap.objs.size := by obtain ⟨_, q, _⟩ := hi.obj; exact Heap.lt_size q
    have hh : X.A.in1.handled = none := I.ok.hd hc
    refine wpAny_pyNext_enum_itemC (drawsK hh k it a h2 its.toArray) he ⟨hi, p⟩ (by have := (List.getElem?_eq_some_iff.mp hu).1; simpa using this) h1 (by simp [h1, Ne.symm h3]) fun v h' tk hv ho st' hT hsz hk => ?_
    have ev : v = u := Option.some.inj ((show its.toArray[i]? = some v from hv).symm.trans (by simpa using hu))
    subst ev
    obtain ⟨hi', _⟩ := st'
    refine ⟨_, rfl, wpAny_letOwnedTupleGo_enum (s := { s with heap := h', toks := tk + 1 }) ho fun h'' he' sb => ?_⟩
    have hT2 : h''.get? s.heap.objs.size = some { cls := .type "tuple", data := .seq #[.int i tk, v] } := (sb.2 _ (Nat.ne_of_gt hel)).trans hT
    have new : ObjOk X.prog X.w (upd H s.heap.objs.size (.tup [.int (i : Nat), x])) h'' s.heap.objs.size (.tup [.int (i : Nat), x]) := ⟨by show 2 ≤ sizeLine; decide, [.int i tk, v], .cons ⟨_, rfl⟩ (.cons ru .nil), ⟨_, hT2, rfl, _, rfl⟩⟩
    have I1 : Inv X pins σ (upd H s.heap.objs.size (.tup [.int (i : Nat), x])) { s with heap := h'', toks := tk + 1 } :=
      I.turnedNew (t' := tk + 1) (ch := [en, it]) (fun b o hb q => (sb.2 b (fun z => hb (by simp [z]))).trans (hk b o (fun z => hb (by simp [z])) (fun z => hb (by simp [z])) q)) hf (Nat.le_refl _) new
    refine ⟨.ref s.heap.objs.size, _, I1, rfl, ⟨_, x, rfl, I.hok.fresh (Nat.le_refl _), rfl, fun l hl => by rw [sqK_inj I hl hq]; exact hx⟩, ⟨⟨v, ?_⟩, hi'.keep fun o q => (sb.2 it (Ne.symm h1)).trans q⟩, fun b hbm => ?_⟩
    · rw [show ((i + 1 : Nat) : Int) = (i : Int) + 1 by omega]
      exact he'
    · have hlt : b < s.heap.objs.size := by
        have hb : b = en ∨ b = it := by simpa using hbm
        rcases hb with z | z
        · rw [z]; exact hel
        · rw [z]; exact hil
      rw [upd_ne (Nat.ne_of_lt hlt)]
      exact (hf b hbm).1
  done := by
    intro X hP hw hK hc i pins s σ H E I hf st hg
    subst hP hw hK
    obtain ⟨⟨old, he⟩, hi⟩ := st
    obtain ⟨xs, hq, hx⟩ := hg
    obtain ⟨its, rv, p, oa, hoa⟩ := sqK_get I hq
    have hl := rv.length
    have hn : its.toArray.size = i := by simp; omega
    have hh : X.A.in1.handled = none := I.ok.hd hc
    refine wpAny_pyNext_enum_endD (drawsK hh k it a h2 its.toArray) he (by rw [hn]; exact ⟨hi, p⟩) fun h' eb => ⟨rfl, I.turnedL (t' := s.toks) (ch := [en, it]) (fun c o hb q => eb c o (fun z => hb (by simp [z])) q) hf⟩
  self := fun A i s Q E st h => let ⟨⟨_, he⟩, _⟩ := st; wpAny_pyIter_enum he h
def iEnumK (K : PySem.W.Frag) (ta : TA) : TI := fun σ H R => ta σ H fun vs H1 => ∃ k a xs, vs = [.ref a] ∧ SqK K k H1 a xs ∧ R (ItE K k a) H1
theorem pi_enumK {X : Cx} {e : Expr} {ta : TA} {p pos tpos : Pos} {elts : List Expr} {kk : Nat} (hg : Gl X "enumerate") (hm : X.mg "enumerate" = none) (ha : PA X [e] ta) (hst : starEach [e] X.env = [(false, eval e X.env)] := by rfl) :
    PI X (.Tuple elts kk tpos) (.Call (.Name "enumerate" p) [e] [] pos) (iEnumK X.K ta) := by
  refine ⟨fun pins s σ H R I h => ?_⟩
  refine Call_ (ld_blt I hg hm boot_enumerate (PyProof.Rows.callWith_type1 (thn (ha.run pos pins s σ H _ I h) fun us s1 ⟨vs, H1, I1, r1, q1⟩ => ?_) hst rfl))
  obtain ⟨k, a, xs, rfl, hq, q⟩ := q1
  cases r1 with
  | cons r rr =>
    cases rr
    cases r
    obtain ⟨its, rv, p1, oa, hoa⟩ := sqK_get I1 hq
    have hal : a < s1.heap.objs.size := Heap.lt_size hoa
    refine call_enum1 (beginsK k a its.toArray) p1 fun h' he hi hk => wpAny_pyIter_enum he ?_
    have I2 : Inv X pins σ H1 { s1 with heap := h' } := I1.kept (t' := s1.toks) hk
    refine ⟨s1.heap.objs.size + 1, [s1.heap.objs.size + 1, s1.heap.objs.size], _, _, H1, rfl, I2, turn_enumK (k := k) (a := a) (en := s1.heap.objs.size + 1) (it := s1.heap.objs.size) (Nat.succ_ne_self _) (Nat.ne_of_lt hal) (Nat.ne_of_lt (Nat.lt_succ_of_lt hal)), ⟨⟨.none, he⟩, ItK.start hi⟩, fun b hb => ?_, q⟩
    have hle : s1.heap.objs.size ≤ b := by
      have hb : b = s1.heap.objs.size + 1 ∨ b = s1.heap.objs.size := by simpa using hb
      rcases hb with z | z
      · rw [z]; exact Nat.le_succ _
      · rw [z]; exact Nat.le_refl _
    exact I1.fpOk hle (I1.hok.fresh hle)
def enumT (n : Nat) : List T → List T
  | [] => []
  | t :: ts => .tup [.int (n : Int), t] :: enumT (n + 1) ts
def asEnum : List T → Option (List T)
  | [t] => (seqT t).map (enumT 0)
  | _ => none
def dEnum (d : DA) : DI := fun e => (d e).bind fun ts e1 => Res.of (asEnum ts) e1
theorem enumT_len : ∀ (n : Nat) (ts : List T), (enumT n ts).length = ts.length
  | _, [] => rfl
  | n, t :: ts => congrArg (· + 1) (enumT_len (n + 1) ts)
theorem enumT_get : ∀ {n : Nat} {ts : List T} {i : Nat} {t : T}, (enumT n ts)[i]? = some t → ∃ u, ts[i]? = some u ∧ t = .tup [.int ((n + i : Nat) : Int), u]
  | n, [], i, t, h => by cases h
  | n, u :: ts, 0, t, h => by cases h; exact ⟨u, rfl, rfl⟩
  | n, u :: ts, i + 1, t, h => by
    obtain ⟨w, h1, h2⟩ := enumT_get (n := n + 1) (ts := ts) (i := i) h
    exact ⟨w, h1, by rw [h2, show n + 1 + i = n + (i + 1) by omega]⟩
section
variable {X : Cx} {C : VX} {W : WX}
theorem jok_enum {G : Hp} {k : Bool} {a : Addr} {xs : List V} {ts : List T} (h1 : SqK C.K k G a xs) (r1 : Rps C G ts xs) {K : PySem.W.Frag} (hK : C.K = K) : JOk C (ItE K k a) G (enumT 0 ts) := by
  subst hK
  refine ⟨fun H G' g sub i t e => ?_, fun H G' g sub i hi hi2 => ?_⟩
  · obtain ⟨u, e1, rfl⟩ := enumT_get e
    obtain ⟨x, x1, x2⟩ := r1.get e1
    have h1' := (h1.mono g).mono sub
    refine ⟨⟨xs, x, h1', x1⟩, fun z H' hz => ?_⟩
    obtain ⟨p, x', rfl, hp, rfl, f1⟩ := hz
    have : x' = x := Option.some.inj ((f1 xs h1').symm.trans x1)
    subst this
    have gp : G' p = none := by
      cases q : G' p with
      | none => rfl
      | some u => have := sub _ _ q; rw [hp] at this; cases this
    rw [Nat.zero_add]
    refine ⟨upd G' p (.tup [.int (i : Nat), x']), upd_sup hp, upd_sup gp, fun b o hb => ?_, fun b hb => ?_, p, [.int (i : Nat), x'], rfl, .inl (.inl upd_same), Rps.cons rfl (Rps.cons (x2.mono fun b o hb => upd_sup gp b o (g b o hb)) Rps.nil)⟩
    · by_cases hbp : b = p
      · subst hbp; rw [upd_same] at hb ⊢; exact hb
      · rw [upd_ne hbp] at hb ⊢; exact sub b o hb
    · by_cases hbp : b = p
      · subst hbp; exact .inr hp
      · rw [upd_ne hbp] at hb; exact .inl hb
  · rw [enumT_len] at hi hi2
    have l1 := r1.length
    exact ⟨xs, (h1.mono g).mono sub, by omega⟩
theorem i_enum {e : Expr} {d : DA} {p pos tpos : Pos} {elts : List Expr} {kk : Nat} (hm : X.mg "enumerate" = none) (ha : PA X [e] (tDA C W d)) (hg : Gl X "enumerate" := by rfl)
    (hst : starEach [e] X.env = [(false, eval e X.env)] := by rfl) (hK : C.K = X.K := by rfl) :
    PI X (.Tuple elts kk tpos) (.Call (.Name "enumerate" p) [e] [] pos) (tDI C W (dEnum d)) := (pi_enumK hg hm ha hst).imp fun σ H R ⟨e, G, hs, h⟩ => by
  refine tDA_I (s := ⟨e, σ, H, G⟩) hs ((SatE.bind h).mono fun ts s1 hs1 x1 e1 h1 vs rvs => ?_)
  obtain ⟨us, ho, k⟩ := SatE.of h1
  have k := k s1.H s1.G hs1 (Ext.refl _)
  match ts, rvs, ho with
  | [], _, ho => cases ho
  | _ :: _ :: _, _, ho => cases ho
  | [t1], rvs, ho =>
    obtain ⟨v, r, rfl, r1, r2⟩ := rvs
    have r2 : r = [] := r2
    subst r2
    have ho : (seqT t1).map (enumT 0) = some us := ho
    cases q1 : seqT t1 with
    | none => rw [q1] at ho; cases ho
    | some l1 =>
      rw [q1] at ho
      cases ho
      obtain ⟨k1, a, xs, rfl, a1, a2⟩ := seqT_sq q1 r1
      rw [← hK]
      exact ⟨k1, a, xs, rfl, a1.mono hs1.sub, k _ (jok_enum a1 a2 rfl)⟩
end
theorem fn_none {P : Program} {w : World} {K : PySem.W.Frag} {mg : Str → Option Value} {base : Heap} {CX : CXT} {k : Nat} {f : Addr} {fd : FuncData} {ps : List Str} {C : VX} {np : Nat} : FnOk P w K mg base CX k f fd ps (spD C np fun _ => .bad) :=
  ⟨fun vs H Q E h => (h.2.elim fun ss h => h.elim fun G h => h.2).elim, fun A outer s H args us vs Q E hr he hb hv h => (h.2.elim fun ss h => h.elim fun G h => h.2).elim⟩
end L2.VD

namespace L2.VD
open PySem PySem.Spec PyProof.Rows
section
variable {X : Cx} {C : VX} {W : WX}
structure Made (C : VX) (b s : S) (D : Addr) (uss : List (List T)) (acc : List V) : Prop where
  ll : Rll C s.G s.H uss acc
  nd : acc.Nodup
  nD : V.ref D ∉ acc
  by_ : ∀ a, V.ref a ∈ acc → s.G a = none ∧ (∀ j, ¬ Owns s j a) ∧ (b.H a = none ∨ ∃ j, Owns b j a)
theorem Made.nil {b s : S} {D : Addr} : Made C b s D [] [] := ⟨rfl, .nil, fun h => (by cases h), fun a h => (by cases h)⟩
theorem Made.this {b s : S} {D : Addr} {uss : List (List T)} {acc : List V} (m : Made C b s D uss acc) {a : Addr} (h : V.ref a ∈ acc) : ∃ ys, By s a (.lst ys) := by
  obtain ⟨c, ys, e, h1⟩ := m.ll.here _ h
  cases e
  exact ⟨ys, h1, (m.by_ a h).1, (m.by_ a h).2.1⟩
theorem Made.ext {b s s' : S} {D : Addr} {uss : List (List T)} {acc : List V} (m : Made C b s D uss acc) (x : Ext s s') : Made C b s' D uss acc := by
  refine ⟨m.ll.mono (fun c o hc ho => x.keep c o ho (m.by_ c hc).2.1) x.g, m.nd, m.nD, fun a h => ?_⟩
  obtain ⟨ys, q⟩ := m.this h
  have q2 := q.ext x
  exact ⟨q2.g, q2.no, (m.by_ a h).2.2⟩
end
inductive IE where
  | v (m : Nat) | c (n : Int) | add (a b : IE) | sub (a b : IE)
def IE.ev : IE → List Slot → Option Int
  | .v m, e => match e[m]? with
    | some (.sh (.int i)) => some i
    | _ => none
  | .c n, _ => some n
  | .add a b, e => (a.ev e).bind fun x => (b.ev e).map fun y => x + y
  | .sub a b, e => (a.ev e).bind fun x => (b.ev e).map fun y => x - y
section
variable {X : Cx} {C : VX} {W : WX} {a b : Expr} {da : DE} {pos npos : Pos} {s : S}
theorem Rll.set {G H : Hp} {b : Addr} {ts' : List T} {ys' : List V} (hr : Rps C G ts' ys') : ∀ {tss : List (List T)} {xs : List V} {m : Nat}, Rll C G H tss xs → xs[m]? = some (.ref b) → xs.Nodup → Rll C G (upd H b (.lst ys')) (tss.set m ts') xs
  | [], xs, m, h, e, _ => by
    have e' : xs = [] := h
    rw [e'] at e
    cases e
  | t :: tss, xs, 0, h, e, nd => by
    obtain ⟨c, ys, xr, rfl, h1, h2, h3⟩ := h
    cases e
    refine ⟨b, ys', xr, rfl, upd_same, hr, h3.mono (fun d o hd ho => ?_) fun _ _ z => z⟩
    rw [upd_ne fun q => (List.nodup_cons.mp nd).1 (by rw [← q]; exact hd)]
    exact ho
  | t :: tss, xs, m + 1, h, e, nd => by
    obtain ⟨c, ys, xr, rfl, h1, h2, h3⟩ := h
    have e : xr[m]? = some (.ref b) := e
    refine ⟨c, ys, xr, rfl, ?_, h2, Rll.set hr h3 e (List.nodup_cons.mp nd).2⟩
    rw [upd_ne fun q => (List.nodup_cons.mp nd).1 (by rw [q]; exact List.mem_of_getElem? e)]
    exact h1
end
end L2.VD
namespace L2.VD
open PySem PySem.Spec PyProof.Rows
end L2.VD

namespace L2.VD
open PySem PySem.Spec PyProof.Rows
section
variable {X : Cx} {C : VX} {W : WX} {tbl : Nat → Option DF}
variable {a b : Expr} {da db : DE} {pos : Pos}
end
end L2.VD

namespace L2.VD
open PySem PySem.Spec PyProof.Rows
section
variable {X : Cx} {C : VX} {W : WX} {a b : Expr} {da db : DE} {pos npos apos cpos : Pos}
def dTake (i : Nat) : DE := fun e => match e[i]? with
  | some (.ol false ts) => .ok (.fr ts) (e.set i .un)
  | some (.oll tss) => .ok (.frr tss) (e.set i .un)
  | _ => .bad
theorem e_take (i : Nat) {x : Str} (hN : X.N[i]? = some x := by rfl) (hv : Vis X.env.scope x := by first | exact Or.inl rfl | exact Or.inr (Or.inl rfl) | exact Or.inr (Or.inr rfl)) (hd : (x == ("__debug__" : Str)) = false := by decide) (hcd : (x == ("__classdict__" : Str)) = false := by decide) :
    PE X (.Name x npos) (tD C W (dTake i)) := (pv i hN hv hd hcd).imp fun σ H Q ⟨e, G, hz, h⟩ => by
  have gone : ∀ (sl : Slot) (v : V), e[i]? = some sl → σ[i]? = some (some v) → sl.pk = none → (Sees C ⟨e.set i .un, σ, H, G⟩ ∧ Ext ⟨e, σ, H, G⟩ ⟨e.set i .un, σ, H, G⟩) := fun sl v h1 h2 h3 =>
    hz.slot (i := i) (sl := .un) (H' := H) (G' := G) ⟨v, h2⟩ (fun _ _ h _ => h) (fun _ _ h => h) hz.sub trivial (fun _ _ _ z => z.elim) (fun _ z => .inl z) fun k z => by
      rw [show (Option.bind ((⟨e, σ, H, G⟩ : S).e[i]?) Slot.pk) = (e[i]?).bind Slot.pk from rfl, h1] at z
      rw [show ((some sl : Option Slot).bind Slot.pk) = sl.pk from rfl, h3] at z
      cases z
  have no : ∀ (sl : Slot) (v : V) (a : Addr), e[i]? = some sl → σ[i]? = some (some v) → ownsV H v sl a → Fresh ⟨e, σ, H, G⟩ ⟨e.set i .un, σ, H, G⟩ a := fun sl v a h1 h2 h3 => by
    have hO : Owns ⟨e, σ, H, G⟩ i a := ⟨sl, v, h1, h2, h3⟩
    refine ⟨hz.own i a hO, ?_, .inr ⟨i, hO⟩⟩
    rintro j ⟨sl', w, g1, g2, g3⟩
    rcases get_set g1 with ⟨_, rfl, _⟩ | ⟨hj, g1⟩
    · exact g3
    · exact hj (hz.inj j i a ⟨sl', w, g1, g2, g3⟩ hO)
  unfold dTake at h
  cases q : e[i]? with
  | none => rw [q] at h; exact h.elim
  | some sl =>
    rw [q] at h
    cases sl with
    | un => exact h.elim
    | sh t => exact h.elim
    | od kvs => exact h.elim
    | oi c t => exact h.elim
    | ol p ts =>
      cases p with
      | true => exact h.elim
      | false =>
        obtain ⟨l, xs, e1, q1, q2⟩ := hz.at_ i _ q
        obtain ⟨y1, y2⟩ := gone _ _ q e1 rfl
        exact ⟨.ref l, e1, h H G y1 y2 _ ⟨l, xs, rfl, q1, no _ _ l q e1 rfl, q2⟩⟩
    | oll tss =>
      obtain ⟨l, xs, e1, q1, q2, q3, q4⟩ := hz.at_ i _ q
      obtain ⟨y1, y2⟩ := gone _ _ q e1 rfl
      exact ⟨.ref l, e1, h H G y1 y2 _ ⟨l, xs, rfl, q1, no _ _ l q e1 (.inl rfl), q2, q3, q4, fun b hb => no _ _ b q e1 (.inr ⟨l, xs, rfl, q1, hb⟩)⟩⟩
end
end L2.VD

namespace L2.VD
open PySem PySem.Spec PyProof.Rows PySem.W
end L2.VD

namespace L2.VD
open PySem PySem.Spec PyProof.Rows PySem.W
section
variable {X : Cx} {C : VX} {W : WX}
variable {a b : Expr} {da db : DE} {pos : Pos}
end
end L2.VD

namespace L2.VD
open PySem PySem.Spec PyProof.Rows PySem.W
def fMulT : T → T → Option Out
  | .tup a, .int 1 => some (.sh (.tup a))
  | t, u => fMul t u
end L2.VD

namespace L2.VD
open PySem PySem.Spec PyProof.Rows
end L2.VD

namespace L2.VD
open PySem PySem.Spec PyProof.Rows
def Sl3R (X : Cx) (r : R2) : Prop :=
  ∀ (pins : List (Addr × Obj)) (s : Shared) (σ : St) (H : Hp) (x y : V) (v u : Value) (sl : Addr) (Q : VK), Inv X pins σ H s → RelV x v → RelV y u → s.heap.IsSliceOf sl .none .none u → r x y H Q →
    ∃ T id, typeLookup (.type T) "__getitem__" = pure (some (.builtin id)) ∧ s.TypeIs v T ∧ wpAny (model X.prog X.w) X.A (getItem v (.ref sl)) (EP X pins σ Q) X.xe s
end L2.VD

namespace L2.VD
open PySem PySem.Spec PyProof.Rows
end L2.VD

namespace L2.VD
open PySem PySem.Spec PyProof.Rows
mutual
theorem kok_depth : ∀ (n : Nat) (t : T), kokT n t = true → (nkT t).depth ≤ n
  | n, .int i, _ => by simp [nkT, NestedKey.depth]
  | 0, .tup ts, h => by simp [kokT] at h
  | n + 1, .tup ts, h => by
    have h : kokTs n ts = true := by simpa [kokT] using h
    have := kok_depths n ts h
    simp only [nkT, NestedKey.depth]; omega
  | n, .non, h => by cases n <;> simp [kokT] at h
  | n, .bl _, h => by cases n <;> simp [kokT] at h
  | n, .str _, h => by cases n <;> simp [kokT] at h
  | n, .lst _, h => by cases n <;> simp [kokT] at h
  | n, .sq _, h => by cases n <;> simp [kokT] at h
  | n, .obj _ _, h => by cases n <;> simp [kokT] at h
theorem kok_depths : ∀ (n : Nat) (ts : List T), kokTs n ts = true → NestedKey.depthAll (nkTs ts) ≤ n
  | _, [], _ => by simp [nkTs, NestedKey.depthAll]
  | n, t :: ts, h => by
    have h : (kokT n t && kokTs n ts) = true := by simpa [kokTs] using h
    rw [Bool.and_eq_true] at h
    have h1 := kok_depth n t h.1
    have h2 := kok_depths n ts h.2
    simp only [nkTs, NestedKey.depthAll]; omega
end
mutual
theorem kok_hash (w w' : World) : ∀ (n : Nat) (t : T), kokT n t = true → (nkT t).hash w = (nkT t).hash w'
  | n, .int i, _ => rfl
  | 0, .tup ts, h => by simp [kokT] at h
  | n + 1, .tup ts, h => by
    have h : kokTs n ts = true := by simpa [kokT] using h
    simp only [nkT, NestedKey.hash]
    rw [kok_hashes w w' n ts h]
  | n, .non, h => by cases n <;> simp [kokT] at h
  | n, .bl _, h => by cases n <;> simp [kokT] at h
  | n, .str _, h => by cases n <;> simp [kokT] at h
  | n, .lst _, h => by cases n <;> simp [kokT] at h
  | n, .sq _, h => by cases n <;> simp [kokT] at h
  | n, .obj _ _, h => by cases n <;> simp [kokT] at h
theorem kok_hashes (w w' : World) : ∀ (n : Nat) (ts : List T), kokTs n ts = true → NestedKey.hashes w (nkTs ts) = NestedKey.hashes w' (nkTs ts)
  | _, [], _ => rfl
  | n, t :: ts, h => by
    have h : (kokT n t && kokTs n ts) = true := by simpa [kokTs] using h
    rw [Bool.and_eq_true] at h
    simp only [nkTs, NestedKey.hashes]
    rw [kok_hash w w' n t h.1, kok_hashes w w' n ts h.2]
end
section
variable {X : Cx} {pins : List (Addr × Obj)} {σ : St} {H : Hp} {s : Shared} {C : VX} {G : Hp}
mutual
theorem nk_is (I : Inv X pins σ H s) (hK : C.K = X.K) (g : ∀ a o, G a = some o → H a = some o) : ∀ (n : Nat) (t : T) (v : V) (u : Value), kokT n t = true → Rp C G t v → RelV v u → NestedIs s.heap (nkT t) u
  | n, .int i, v, u, _, r, ru => by
    cases r
    obtain ⟨k, rfl⟩ := ru
    exact .int _ _
  | 0, .tup ts, _, _, h, _, _ => by simp [kokT] at h
  | n + 1, .tup ts, v, u, h, r, ru => by
    have h : kokTs n ts = true := by simpa [kokT] using h
    obtain ⟨a, xs, rfl, h1, h2⟩ := r
    cases ru
    obtain ⟨its, rv, ⟨o, e1, e2, m, e3⟩, _⟩ := I.tuple (hK ▸ sqT_mono g h1)
    exact .tup e1 e2 e3 (by simpa using nks_is I hK g n ts xs its h h2 rv)
  | n, .non, _, _, h, _, _ => by cases n <;> simp [kokT] at h
  | n, .bl _, _, _, h, _, _ => by cases n <;> simp [kokT] at h
  | n, .str _, _, _, h, _, _ => by cases n <;> simp [kokT] at h
  | n, .lst _, _, _, h, _, _ => by cases n <;> simp [kokT] at h
  | n, .sq _, _, _, h, _, _ => by cases n <;> simp [kokT] at h
  | n, .obj _ _, _, _, h, _, _ => by cases n <;> simp [kokT] at h
theorem nks_is (I : Inv X pins σ H s) (hK : C.K = X.K) (g : ∀ a o, G a = some o → H a = some o) : ∀ (n : Nat) (ts : List T) (xs : List V) (us : List Value), kokTs n ts = true → Rps C G ts xs → Vals xs us → NestedAll s.heap (nkTs ts) us
  | _, [], xs, us, _, r, ru => by
    have e : xs = [] := r
    subst e
    cases ru
    exact .nil
  | n, t :: ts, xs, us, h, r, ru => by
    have h : (kokT n t && kokTs n ts) = true := by simpa [kokTs] using h
    rw [Bool.and_eq_true] at h
    obtain ⟨x, xr, rfl, h1, h2⟩ := r
    cases ru with
    | cons q1 q2 => exact .cons (nk_is I hK g n t x _ h.1 h1 q1) (nks_is I hK g n ts xr _ h.2 h2 q2)
end
end
end L2.VD

namespace L2.VD
open PySem PySem.Spec PySem.Calls PyProof.Rows
def retOnly (r : Res Fl) : Res Fl := match r with
  | .ok (.rt o) e => .ok (.rt o) e
  | _ => .bad
def tXS (C : VX) (i : Nat) (a : Addr) (cls : Value) (d : Option Addr) (ds : Exn → DS) : TS := fun D σ H => ∃ e G y, Sees C ⟨e, σ, H, G⟩ ∧ σ[i]? = some (some (.ref a)) ∧ XOk C ⟨e, σ, H, G⟩ cls d y ∧ SatS C W0 ⟨e, σ, H, G⟩ (retOnly (ds y e)) D
end L2.VD

namespace L2.VD
open PySem PySem.Spec PySem.Calls PyProof.Rows
structure Down (X : Cx) (pins : List (Addr × Obj)) (a : Addr) (B : Heap) (sI : Shared) (σ : St) (H : Hp) (cls : Value) (d : Option Addr) (s : Shared) : Prop where
  inv : Inv X pins σ H sI
  out : ∀ b o, sI.heap.get? b = some o → b ∉ frs X.stack → B.get? b = some o
  up : sI.heap.UpToSlots s.heap
  fly : PySem.HandSPX.FlyingZ B X.stack a (Zc cls d) s.heap
  na : H a = none
  os : s.os = sI.os
  ag : AllBare s.gens
section
variable {X : Cx} {pins : List (Addr × Obj)} {a : Addr} {B : Heap} {sI s : Shared} {σ : St} {H : Hp} {cls : Value} {d : Option Addr}
theorem Down.here (w : Down X pins a B sI σ H cls d s) : Inv X pins σ H s := w.inv.landed w.out w.fly.1 w.up w.os w.ag
end
def SuiteOk (X : Cx) (b₀ : Stmt) (suite : List Stmt) (ts : Addr → Value → Option Addr → TS) : Prop :=
  ∀ (a : Addr) (oe : Obj) (cls : Value) (d : Option Addr) (pn : List (Addr × Obj)), Zc cls d oe → (∃ vs, oe.data = .fields vs) → PSs (X.suite a ((a, oe) :: pn)) (b₀ :: suite) (ts a cls d)
inductive ClausesOk (X : Cx) : List ExceptHandler → List (Value × Option Nat × (Addr → Value → Option Addr → TS)) → Prop
  | nil : ClausesOk X [] []
  | plain {x : Str} {c : Value} {ts : Addr → Value → Option Addr → TS} {b₀ : Stmt} {suite : List Stmt} {np pos : Pos} {hds : List ExceptHandler} {l : List (Value × Option Nat × (Addr → Value → Option Addr → TS))} : Names X x c → SuiteOk X b₀ suite ts → ClausesOk X hds l →
      ClausesOk X (.ExceptHandler (some (.Name x np)) none (b₀ :: suite) pos :: hds) ((c, none, ts) :: l)
  | named {x n : Str} {i : Nat} {c : Value} {ts : Addr → Value → Option Addr → TS} {b₀ : Stmt} {suite : List Stmt} {np pos : Pos} {hds : List ExceptHandler} {l : List (Value × Option Nat × (Addr → Value → Option Addr → TS))} : Names X x c → X.N[i]? = some n → X.env.kindOf n = some .local → SuiteOk X b₀ suite ts → ClausesOk X hds l →
      ClausesOk X (.ExceptHandler (some (.Name x np)) (some n) (b₀ :: suite) pos :: hds) ((c, some i, ts) :: l)
abbrev XCl := (Nat → Option Bool) × Option Nat × (Exn → DS)
inductive VCl (X : Cx) (C : VX) : List ExceptHandler → List XCl → List (Value × Option Nat × (Addr → Value → Option Addr → TS)) → Prop
  | nil : VCl X C [] [] []
  | plain {x : Str} {c : Value} {ds : DS} {tbl : Nat → Option Bool} {b₀ : Stmt} {suite : List Stmt} {np pos : Pos} {hds : List ExceptHandler} {l : List XCl} {m : List (Value × Option Nat × (Addr → Value → Option Addr → TS))} : Names X x c → ExcTbl C c tbl → (∀ (a : Addr) (pn : List (Addr × Obj)), PSs (X.suite a pn) (b₀ :: suite) (tDS C W0 ds)) → VCl X C hds l m →
      VCl X C (.ExceptHandler (some (.Name x np)) none (b₀ :: suite) pos :: hds) ((tbl, none, fun _ => ds) :: l) ((c, none, fun _ _ _ => tDS C W0 ds) :: m)
  | named {x n : Str} {i : Nat} {c : Value} {ds : Exn → DS} {tbl : Nat → Option Bool} {b₀ : Stmt} {suite : List Stmt} {np pos : Pos} {hds : List ExceptHandler} {l : List XCl} {m : List (Value × Option Nat × (Addr → Value → Option Addr → TS))} : Names X x c → ExcTbl C c tbl → X.N[i]? = some n → X.env.kindOf n = some .local →
      SuiteOk X b₀ suite (fun a cls dd => tXS C i a cls dd ds) → VCl X C hds l m →
      VCl X C (.ExceptHandler (some (.Name x np)) (some n) (b₀ :: suite) pos :: hds) ((tbl, some i, ds) :: l) ((c, some i, fun a cls dd => tXS C i a cls dd ds) :: m)
theorem VCl.ok {X : Cx} {C : VX} {hds : List ExceptHandler} {l : List XCl} {m : List (Value × Option Nat × (Addr → Value → Option Addr → TS))} (h : VCl X C hds l m) : ClausesOk X hds m := by
  induction h with
  | nil => exact .nil
  | plain h1 _ h3 _ ih => exact .plain h1 (fun a oe cls dd pn _ _ => h3 a _) ih
  | named h1 _ h3 h4 h5 _ ih => exact .named h1 h3 h4 h5 ih
end L2.VD

namespace L2.VD
open PySem PySem.Spec PyProof.Rows
end L2.VD

namespace L2.VD
open PySem PySem.Spec PyProof.Rows
section
variable {e e1 e2 e3 : List Slot} {da db dc : DE} {dA : DA} {t u : T} {a b o : Out} {i : Nat} {f : T → T → Option Out} {g : T → Option Out} {c1 c2 : DT} {d1 d2 : DS} {ts us : List T} {fl : Fl} {x : Exn} {k : Bool}
theorem r_c : dC t e = .ok (.sh t) e := rfl
theorem r_var (h : e[i]? = some (.sh t)) : dVar i e = .ok (.sh t) e := by
  unfold dVar
  rw [h]
theorem r_varO (h : e[i]? = some (.ol false ts)) : dVar i e = .ok (.sh (.lst ts)) (e.set i (.sh (.lst ts))) := by
  unfold dVar
  rw [h]
variable {F : DF} {avs : List AV} {dC' : DC} {ds : List T} {np : Nat}
theorem r_store {s0 : Slot} {sl : Slot} (h : e[i]? = some s0) (hp : s0.pk = none) : setSlot i sl e = .ok .nx (e.set i sl) := by
  unfold setSlot
  rw [h]
  show (match s0.pk with | none => Res.ok Fl.nx (e.set i sl) | some _ => .bad) = _
  rw [hp]
end
end L2.VD

namespace L2.VD
open PySem PySem.Spec PyProof.Rows

inductive M (α : Type) where
  | ok (a : α) | ex (x : Exn) | bad
namespace M
variable {α β γ : Type}
def bind (x : M α) (f : α → M β) : M β := match x with
  | .ok a => f a
  | .ex n => .ex n
  | .bad => .bad
@[simp] theorem ok_bind (a : α) (f : α → M β) : (M.ok a).bind f = f a := rfl
@[simp] theorem ex_bind (n : Exn) (f : α → M β) : (M.ex n : M α).bind f = .ex n := rfl
@[simp] theorem bad_bind (f : α → M β) : (M.bad : M α).bind f = .bad := rfl
theorem bind_assoc (x : M α) (f : α → M β) (g : β → M γ) : (x.bind f).bind g = x.bind fun a => (f a).bind g := by cases x <;> rfl
def of (o : Option α) : M α := match o with
  | some a => .ok a
  | none => .bad
@[simp] theorem of_some (a : α) : M.of (some a) = .ok a := rfl
@[simp] theorem of_none : (M.of none : M α) = .bad := rfl
def nox (x : M α) : M α := match x with
  | .ok a => .ok a
  | _ => .bad
@[simp] theorem nox_ok (a : α) : (M.ok a).nox = .ok a := rfl
@[simp] theorem nox_ex (n : Exn) : (M.ex n : M α).nox = .bad := rfl
@[simp] theorem nox_bad : (M.bad : M α).nox = .bad := rfl
end M

theorem Res.bind_assoc {α β γ : Type} (r : Res α) (f : α → List Slot → Res β) (g : β → List Slot → Res γ) : (r.bind f).bind g = r.bind fun a e => (f a e).bind g := by cases r <;> rfl
theorem Res.bind_ok' {α : Type} (r : Res α) : (r.bind fun o e => .ok o e) = r := by cases r <;> rfl

abbrev XS := Exn → List Slot → Prop
def Rl {γ β : Type} (r : Res γ) (x : M β) (Z : β → γ → List Slot → Prop) (X : XS) : Prop := match x with
  | .ok b => ∃ o e, r = .ok o e ∧ Z b o e
  | .ex n => ∃ e, r = .ex n e ∧ X n e
  | .bad => True
def Zk {γ β : Type} (k : β → γ) (E : β → List Slot) : β → γ → List Slot → Prop := fun b o e => o = k b ∧ e = E b
def ZE {β : Type} (E : β → List Slot) : β → Fl → List Slot → Prop := fun b fl e => fl = .nx ∧ e = E b
def ZP {β : Type} (P : β → List Slot → Prop) : β → Fl → List Slot → Prop := fun b fl e => fl = .nx ∧ P b e
def ZL {β : Type} (P : β → List Slot → Prop) : β → Fl → List Slot → Prop := fun b fl e => (fl = .nx ∨ fl = .ct) ∧ P b e
def ZR {β : Type} (k : β → Out) : β → Fl → List Slot → Prop := fun b fl _ => fl = .rt (k b)
def XT : XS := fun _ _ => True
inductive F (σ ρ : Type) where
  | nx (s : σ) | bk (s : σ) | rt (v : ρ)
def ZF {σ ρ : Type} (P : σ → List Slot → Prop) (k : ρ → Out) : F σ ρ → Fl → List Slot → Prop := fun x fl e => match x with
  | .nx s => (fl = .nx ∨ fl = .ct) ∧ P s e
  | .bk s => fl = .bk ∧ P s e
  | .rt v => fl = .rt (k v)
def ZG {σ ρ : Type} (P : σ → List Slot → Prop) (k : ρ → Out) : F σ ρ → Fl → List Slot → Prop := fun x fl e => match x with
  | .nx s => fl = .nx ∧ P s e
  | .bk _ => False
  | .rt v => fl = .rt (k v)
structure Jk where
  s : Slot
  h : s.pk = none

section
variable {α β γ δ : Type} {r : Res γ} {x : M β} {Z : β → γ → List Slot → Prop} {X : XS} {e e1 e2 e3 : List Slot}
theorem rl_p {r : Res δ} {f : δ → List Slot → Res γ} {o : δ} (h : r = .ok o e1) (h2 : Rl (f o e1) x Z X) : Rl (r.bind f) x Z X := by rw [h]; exact h2
theorem rl_b {ρ : Type} {r : Res δ} {w : M ρ} {f : δ → List Slot → Res γ} {y : ρ → M β} {Z0 : ρ → δ → List Slot → Prop} (h : Rl r w Z0 X) (h2 : ∀ a o e1, Z0 a o e1 → Rl (f o e1) (y a) Z X) : Rl (r.bind f) (w.bind y) Z X := by
  cases w with
  | ok a => obtain ⟨o, e, h, z⟩ := h; rw [h]; exact h2 a o e z
  | ex n => obtain ⟨e, h, z⟩ := h; rw [h]; exact ⟨e, rfl, z⟩
  | bad => trivial
theorem rl_bk {ρ : Type} {r : Res δ} {w : M ρ} {f : δ → List Slot → Res γ} {y : ρ → M β} {k : ρ → δ} {E : ρ → List Slot} (h : Rl r w (Zk k E) X) (h2 : ∀ a, Rl (f (k a) (E a)) (y a) Z X) : Rl (r.bind f) (w.bind y) Z X := rl_b h fun a o e1 z => by
  obtain ⟨rfl, rfl⟩ := z
  exact h2 a
theorem rl_top (h : Rl (r.bind fun o e => .ok o e) x Z X) : Rl r x Z X := by rw [Res.bind_ok'] at h; exact h
theorem rl_ok {b : β} {o : γ} (h : Z b o e) : Rl (.ok o e) (.ok b) Z X := ⟨o, e, rfl, h⟩
theorem rl_k {b : β} {k : β → γ} {E : β → List Slot} {o : γ} (h : o = k b := by rfl) (h' : e = E b := by rfl) : Rl (.ok o e) (.ok b) (Zk k E) X := ⟨o, e, rfl, h, h'⟩
theorem rl_eq {b : β} {k : β → γ} {E : β → List Slot} (h : Rl r (.ok b) (Zk k E) X) : r = .ok (k b) (E b) := by
  obtain ⟨o, e, h, rfl, rfl⟩ := h
  exact h
def OpM (o : Option δ) (w : M α) (k : α → δ) : Prop := match w with
  | .ok c => o = some (k c)
  | .ex _ => False
  | .bad => True
theorem rl_ofp {o : Option δ} {v : δ} {f : δ → List Slot → Res γ} (h : o = some v) (h2 : Rl (f v e) x Z X) : Rl ((Res.of o e).bind f) x Z X := by rw [h]; exact h2
theorem rl_of {ρ : Type} {o : Option δ} {w : M ρ} {k : ρ → δ} {y : ρ → M β} {f : δ → List Slot → Res γ} (h : OpM o w k) (h2 : ∀ c, Rl (f (k c) e) (y c) Z X) : Rl ((Res.of o e).bind f) (w.bind y) Z X := by
  cases w with
  | ok a => have h : o = some (k a) := h; rw [h]; exact h2 a
  | ex n => exact h.elim
  | bad => trivial
theorem rl_iteF {d1 d2 : Res γ} (h : Rl d2 x Z X) : Rl (if false = true then d1 else d2) x Z X := h
theorem rl_ite {b : Bool} {d1 d2 : Res γ} {x1 x2 : M β} (h : Rl d1 x1 Z X) (h2 : Rl d2 x2 Z X) : Rl (if b = true then d1 else d2) (if b = true then x1 else x2) Z X := by cases b <;> assumption
theorem rl_itek {b : Bool} {d1 d2 : Res δ} {f : δ → List Slot → Res γ} {ρ : Type} {w1 w2 : M ρ} {k : ρ → δ} {E : ρ → List Slot} {y : ρ → M β} (h : Rl d1 w1 (Zk k E) X) (h2 : Rl d2 w2 (Zk k E) X) (K : ∀ a, Rl (f (k a) (E a)) (y a) Z X) : Rl ((if b = true then d1 else d2).bind f) ((if b = true then w1 else w2).bind y) Z X := rl_bk (rl_ite h h2) K
theorem rl_itep {b : Bool} {d1 d2 : Res δ} {f : δ → List Slot → Res γ} {ρ : Type} {v1 v2 : ρ} {k : ρ → δ} {E : ρ → List Slot} (h : Rl d1 (.ok v1) (Zk k E) X) (h2 : Rl d2 (.ok v2) (Zk k E) X) (K : Rl (f (k (if b = true then v1 else v2)) (E (if b = true then v1 else v2))) x Z X) : Rl ((if b = true then d1 else d2).bind f) x Z X := by
  cases b
  · rw [if_neg (by decide)]; rw [if_neg (by decide)] at K; exact rl_p (rl_eq h2) K
  · rw [if_pos rfl]; rw [if_pos rfl] at K; exact rl_p (rl_eq h) K
end

section
variable {α β γ δ : Type}
def eT (f : α → T) (xs : List α) : T := .tup (xs.map f)
def eL (f : α → T) (xs : List α) : T := .lst (xs.map f)
def eQ (f : α → T) (xs : List α) : T := .sq (xs.map f)
def e2 (f : α → T) (g : β → T) (p : α × β) : T := .tup [f p.1, g p.2]
def e3 (f : α → T) (g : β → T) (h : γ → T) (p : α × β × γ) : T := .tup [f p.1, g p.2.1, h p.2.2]
def e4 (f : α → T) (g : β → T) (h : γ → T) (i : δ → T) (p : α × β × γ × δ) : T := .tup [f p.1, g p.2.1, h p.2.2.1, i p.2.2.2]
def o1 (c : Nat) (f : α → T) (x : α) : T := .obj c [f x]
def o2 (c : Nat) (f : α → T) (g : β → T) (p : α × β) : T := .obj c [f p.1, g p.2]
def eN (f : α → T) (o : Option α) : T := match o with
  | none => .non
  | some a => f a
def eU (_ : Unit) : T := .non
end
section
variable {α β : Type}
@[irreducible] def mulM (i j : Int) : M Int := if mulFits i j then .ok (i * j) else .bad
@[irreducible] def divM (i j : Int) : M Int := if divFits j then .ok (i.fdiv j) else .bad
@[irreducible] def modM (i j : Int) : M Int := if decide (j ≠ 0) then .ok (i.fmod j) else .bad
def idxM (xs : List α) (i : Int) : M α := M.of (atI xs i)
@[irreducible] def catM (xs ys : List α) : M (List α) := if fits (xs.length + ys.length) then .ok (xs ++ ys) else .bad
@[irreducible] def appM (xs : List α) (v : α) : M (List α) := if fits (xs.length + 1) then .ok (xs ++ [v]) else .bad
def setM (xs : List α) (i : Int) (v : α) : M (List α) := M.of ((ixN xs.length i).map fun j => xs.set j v)
def irange (lo : Int) (n : Nat) : List Int := (List.range n).map fun k => lo + (k : Nat)
@[irreducible] def rng1M (n : Int) : M (List Int) := if rngIn n then .ok (irange 0 n.toNat) else .bad
@[irreducible] def rng2M (i j : Int) : M (List Int) := if rngIn i && rngIn j then .ok (irange i (j - i).toNat) else .bad
def cutL (xs : List α) (lo hi : Option Int) : List α := (xs.drop (HT.sIx xs.length 0 lo)).take (HT.sIx xs.length xs.length hi - HT.sIx xs.length 0 lo)
def lcR (f : α → M β) : List α → M (List β)
  | [] => .ok []
  | a :: as => match f a with
    | .ok b => match lcR f as with
      | .ok bs => .ok (b :: bs)
      | _ => .bad
    | _ => .bad
@[irreducible] def lcM (xs : List α) (f : α → M β) : M (List β) := if fits xs.length then lcR f xs else .bad
def lcfR (c : α → M Bool) (f : α → M β) : List α → M (List β)
  | [] => .ok []
  | a :: as => match c a with
    | .ok true => match f a with
      | .ok b => match lcfR c f as with
        | .ok bs => .ok (b :: bs)
        | _ => .bad
      | _ => .bad
    | .ok false => lcfR c f as
    | _ => .bad
@[irreducible] def lcfM (xs : List α) (c : α → M Bool) (f : α → M β) : M (List β) := if fits xs.length then lcfR c f xs else .bad
def lcsR {σ : Type} (f : σ → α → M (β × σ)) : List α → σ → M (List β × σ)
  | [], s => .ok ([], s)
  | a :: as, s => match f s a with
    | .ok b => match lcsR f as b.2 with
      | .ok bs => .ok (b.1 :: bs.1, bs.2)
      | _ => .bad
    | _ => .bad
@[irreducible] def lcsM {σ : Type} (xs : List α) (s : σ) (f : σ → α → M (β × σ)) : M (List β × σ) := if fits xs.length then lcsR f xs s else .bad
def foldM {σ : Type} (step : σ → α → M σ) : List α → σ → M σ
  | [], s => .ok s
  | a :: as, s => (step s a).bind (foldM step as)
def foldF {σ ρ : Type} (step : σ → α → M (F σ ρ)) : List α → σ → M (F σ ρ)
  | [], s => .ok (.nx s)
  | a :: as, s => (step s a).bind fun x => match x with
    | .nx s' => foldF step as s'
    | .bk s' => .ok (.nx s')
    | .rt v => .ok (.rt v)
def goM {σ ρ τ : Type} (x : M (F σ ρ)) (g : ρ → τ) (y : σ → M τ) : M τ := x.bind fun z => match z with
  | .nx s => y s
  | .bk _ => .bad
  | .rt v => .ok (g v)
def tryM (x : M β) (tbl : Nat → Option Bool) (y : Exn → M β) : M β := match x with
  | .ok a => .ok a
  | .ex n => match tbl n.c with
    | some true => (y n).nox
    | some false => .ex n
    | none => .bad
  | .bad => .bad
end
section
variable {α β : Type} {f : α → T} {g : β → T}
theorem op_addI {i j : Int} : fAdd (.int i) (.int j) = some (.sh (.int (i + j))) := rfl
theorem op_subI {i j : Int} : fSub (.int i) (.int j) = some (.sh (.int (i - j))) := rfl
theorem op_mulI {i j : Int} : OpM (fMul (.int i) (.int j)) (mulM i j) (fun c => .sh (.int c)) := by
  unfold mulM
  by_cases h : mulFits i j = true
  · rw [if_pos h]; exact if_pos h
  · rw [if_neg h]; trivial
theorem op_divI {i j : Int} : OpM (fDiv (.int i) (.int j)) (divM i j) (fun c => .sh (.int c)) := by
  unfold divM
  by_cases h : divFits j = true
  · rw [if_pos h]; exact if_pos h
  · rw [if_neg h]; trivial
theorem op_modI {i j : Int} : OpM (fMod (.int i) (.int j)) (modM i j) (fun c => .sh (.int c)) := by
  unfold modM
  by_cases h : decide (j ≠ 0) = true
  · rw [if_pos h]; exact if_pos h
  · rw [if_neg h]; trivial
theorem op_negI {i : Int} : fNeg (.int i) = some (.sh (.int (-i))) := rfl
theorem op_ltI {i j : Int} : fLt (.int i) (.int j) = some (.sh (.bl (decide (i < j)))) := rfl
theorem op_gtI {i j : Int} : fGt (.int i) (.int j) = some (.sh (.bl (decide (j < i)))) := rfl
theorem op_absI {i : Int} : fAbs [.int i] = some (.sh (.int (if i < 0 then -i else i))) := rfl
theorem op_intI {i : Int} : fInt [.int i] = some (.sh (.int i)) := rfl
theorem op_intB {b : Bool} : fInt [.bl b] = some (.sh (.int (if b then 1 else 0))) := rfl
theorem atI_map (xs : List α) (i : Int) : atI (xs.map f) i = (atI xs i).map f := by
  unfold atI
  rw [List.length_map]
  cases ixN xs.length i with
  | none => rfl
  | some j => exact List.getElem?_map ..
theorem cutT_map (xs : List α) (lo hi : Option Int) : cutT (xs.map f) lo hi = (cutL xs lo hi).map f := by
  unfold cutT cutL
  rw [List.length_map, List.map_take, List.map_drop]
theorem op_sum {xs : List Int} : fSum [eL T.int xs] = some (.sh (.int xs.sum)) := by
  show ((intsT (xs.map T.int)).map fun ns => Out.sh (.int ns.sum)) = _
  rw [intsT_map]; rfl
theorem op_catT {xs ys : List α} : OpM (fAdd (eT f xs) (eT f ys)) (catM xs ys) (fun zs => .sh (eT f zs)) := by
  have h : fAdd (eT f xs) (eT f ys) = if fits (xs.length + ys.length) then some (.sh (eT f (xs ++ ys))) else none := by
    show (if fits ((xs.map f).length + (ys.map f).length) then some (Out.sh (.tup (xs.map f ++ ys.map f))) else none) = _
    rw [List.length_map, List.length_map, ← List.map_append]; rfl
  rw [h]
  unfold catM
  by_cases h : fits (xs.length + ys.length) = true
  · rw [if_pos h, if_pos h]; rfl
  · rw [if_neg h, if_neg h]; trivial
theorem rngT_map (lo : Int) (n : Nat) : rngT lo n = (irange lo n).map T.int := by unfold rngT irange; rw [List.map_map]; rfl
theorem op_rng1 {n : Int} : OpM (asRng [.int n]) (rng1M n) (fun xs => xs.map T.int) := by
  have h : asRng [.int n] = if rngIn n then some ((irange 0 n.toNat).map T.int) else none := by rw [← rngT_map]; rfl
  rw [h]
  unfold rng1M
  by_cases h : rngIn n = true
  · rw [if_pos h, if_pos h]; rfl
  · rw [if_neg h, if_neg h]; trivial
theorem op_rng2 {i j : Int} : OpM (asRng [.int i, .int j]) (rng2M i j) (fun xs => xs.map T.int) := by
  have h : asRng [.int i, .int j] = if rngIn i && rngIn j then some ((irange i (j - i).toNat).map T.int) else none := by rw [← rngT_map]; rfl
  rw [h]
  unfold rng2M
  by_cases h : (rngIn i && rngIn j) = true
  · rw [if_pos h, if_pos h]; rfl
  · rw [if_neg h, if_neg h]; trivial
theorem zip_map : ∀ (xs : List α) (ys : List β), zipT (xs.map f) (ys.map g) = (xs.zip ys).map (e2 f g)
  | [], _ => rfl
  | _ :: _, [] => rfl
  | x :: xs, y :: ys => by
    show T.tup [f x, g y] :: zipT (xs.map f) (ys.map g) = _
    rw [zip_map xs ys]; rfl
theorem op_zip {t u : T} {xs : List α} {ys : List β} (h : seqT t = some (xs.map f)) (h' : seqT u = some (ys.map g)) : asZip [t, u] = some ((xs.zip ys).map (e2 f g)) := by
  show ((seqT t).bind fun as => (seqT u).map fun bs => zipT as bs) = _
  rw [h, h']
  show some (zipT _ _) = _
  rw [zip_map]
theorem op_setAt {xs : List α} {v : α} {i : Int} : setAt (xs.map f) (.int i) (f v) = ((ixN xs.length i).map fun j => xs.set j v).map (List.map f) := by
  show ((ixN (xs.map f).length i).map fun j => (xs.map f).set j (f v)) = _
  rw [List.length_map]
  cases ixN xs.length i with
  | none => rfl
  | some j => exact congrArg some (List.map_set ..).symm

theorem fLen_T {xs : List α} : fLen [eT f xs] = some (.sh (.int xs.length)) := by
  show some (Out.sh (.int ((xs.map f).length : Nat))) = _
  rw [List.length_map]
theorem fIdx_T {xs : List α} {i : Int} : OpM (fIdx (eT f xs) (.int i)) (idxM xs i) (fun a => .sh (f a)) := by
  have h : fIdx (eT f xs) (.int i) = (atI (xs.map f) i).map .sh := rfl
  rw [h, atI_map]
  unfold idxM
  cases atI xs i <;> trivial
theorem items_T {xs : List α} : itemsT (eT f xs) = some (xs.map f) := rfl
theorem seq_T {xs : List α} : seqT (eT f xs) = some (xs.map f) := rfl
theorem fSl_T {xs : List α} {lo hi : Option Int} : fSl (eT f xs) lo hi = some (.sh (eT f (cutL xs lo hi))) := by
  have h : fSl (eT f xs) lo hi = some (.sh (.tup (cutT (xs.map f) lo hi))) := rfl
  rw [h, cutT_map]; rfl
theorem fList_T {xs : List α} : fList [eT f xs] = some (.fr (xs.map f)) := rfl
theorem fTuple_T {xs : List α} : fTuple [eT f xs] = some (.sh (eT f xs)) := rfl
theorem lenN_T {xs : List α} {e : List Slot} {i : Nat} (h : e[i]? = some (.sh (eT f xs))) : dLenN i e = .ok (.sh (.int xs.length)) e := by
  unfold dLenN
  rw [h]
  show Res.ok (Out.sh (.int ((xs.map f).length : Nat))) e = _
  rw [List.length_map]
theorem fIdx_L {xs : List α} {i : Int} : OpM (fIdx (eL f xs) (.int i)) (idxM xs i) (fun a => .sh (f a)) := by
  have h : fIdx (eL f xs) (.int i) = (atI (xs.map f) i).map .sh := rfl
  rw [h, atI_map]
  unfold idxM
  cases atI xs i <;> trivial
theorem items_L {xs : List α} : itemsT (eL f xs) = some (xs.map f) := rfl
theorem seq_L {xs : List α} : seqT (eL f xs) = some (xs.map f) := rfl
theorem fSl_L {xs : List α} {lo hi : Option Int} : fSl (eL f xs) lo hi = some (.fr ((cutL xs lo hi).map f)) := by
  have h : fSl (eL f xs) lo hi = some (.fr (cutT (xs.map f) lo hi)) := rfl
  rw [h, cutT_map]
theorem fTuple_L {xs : List α} : fTuple [eL f xs] = some (.sh (eT f xs)) := rfl
theorem lenN_L {xs : List α} {e : List Slot} {i : Nat} (h : e[i]? = some (.sh (eL f xs))) : dLenN i e = .ok (.sh (.int xs.length)) e := by
  unfold dLenN
  rw [h]
  show Res.ok (Out.sh (.int ((xs.map f).length : Nat))) e = _
  rw [List.length_map]
theorem fIdx_Q {xs : List α} {i : Int} : OpM (fIdx (eQ f xs) (.int i)) (idxM xs i) (fun a => .sh (f a)) := by
  have h : fIdx (eQ f xs) (.int i) = (atI (xs.map f) i).map .sh := rfl
  rw [h, atI_map]
  unfold idxM
  cases atI xs i <;> trivial
theorem fSl_Q {xs : List α} {lo hi : Option Int} : fSl (eQ f xs) lo hi = some (.fr ((cutL xs lo hi).map f)) := by
  have h : fSl (eQ f xs) lo hi = some (.fr (cutT (xs.map f) lo hi)) := rfl
  rw [h, cutT_map]
theorem lenN_Q {xs : List α} {e : List Slot} {i : Nat} (h : e[i]? = some (.sh (eQ f xs))) : dLenN i e = .ok (.sh (.int xs.length)) e := by
  unfold dLenN
  rw [h]
  show Res.ok (Out.sh (.int ((xs.map f).length : Nat))) e = _
  rw [List.length_map]
theorem lenN_ol {xs : List α} {e : List Slot} {i : Nat} {p : Bool} (h : e[i]? = some (.ol p (xs.map f))) : dLenN i e = .ok (.sh (.int xs.length)) e := by
  unfold dLenN
  rw [h]
  show Res.ok (Out.sh (.int ((xs.map f).length : Nat))) e = _
  rw [List.length_map]
end
def shapedN (n : Nat) (t : T) : Prop := t.p.canLay0 = true ∧ t.p.depth ≤ n
class EqE {α : Type} [DecidableEq α] (n : outParam Nat) (f : α → T) : Prop where
  sh : ∀ a, shapedN n (f a)
  eq : ∀ a b, PyData.eqv (f a).p (f b).p = decide (a = b)

section
variable {α β : Type}
theorem depthAll_map {f : α → T} {n : Nat} (h : ∀ a, (f a).p.depth ≤ n) : ∀ xs : List α, PyData.depthAll (T.ps (xs.map f)) ≤ n
  | [] => Nat.zero_le _
  | x :: xs => by
    show max (PyData.depth (f x).p) (PyData.depthAll (T.ps (xs.map f))) ≤ n
    exact Nat.max_le.mpr ⟨h x, depthAll_map h xs⟩
theorem layAll_map {f : α → T} (h : ∀ a, (f a).p.canLay0 = true) : ∀ xs : List α, PyData.canLayAll0 (T.ps (xs.map f)) = true
  | [] => rfl
  | x :: xs => by
    show (PyData.canLay0 (f x).p && PyData.canLayAll0 (T.ps (xs.map f))) = true
    rw [h x, layAll_map h xs]; rfl
theorem eqvAll_map [DecidableEq α] {f : α → T} (h : ∀ a b, PyData.eqv (f a).p (f b).p = decide (a = b)) : ∀ xs ys : List α, PyData.eqvAll (T.ps (xs.map f)) (T.ps (ys.map f)) = decide (xs = ys)
  | [], [] => by simp [T.ps, PyData.eqvAll]
  | [], _ :: _ => by simp [T.ps, PyData.eqvAll]
  | _ :: _, [] => by simp [T.ps, PyData.eqvAll]
  | x :: xs, y :: ys => by
    show (PyData.eqv (f x).p (f y).p && PyData.eqvAll (T.ps (xs.map f)) (T.ps (ys.map f))) = _
    rw [h x y, eqvAll_map h xs ys]
    by_cases h1 : x = y <;> by_cases h2 : xs = ys <;> simp [h1, h2]
instance eqe_int : EqE 0 T.int where
  sh _ := ⟨rfl, Nat.le_refl _⟩
  eq a b := by
    show PyData.eqv (.int a) (.int b) = _
    simp only [PyData.eqv]
    by_cases h : a = b <;> simp [h]
instance eqe_bl : EqE 0 T.bl where
  sh _ := ⟨rfl, Nat.le_refl _⟩
  eq a b := by
    show PyData.eqv (.bool a) (.bool b) = _
    cases a <;> cases b <;> simp [PyData.eqv]
instance eqe_T [DecidableEq α] {f : α → T} {n : Nat} [h : EqE n f] : EqE (n + 1) (eT f) where
  sh xs := ⟨layAll_map (fun a => (h.sh a).1) xs, Nat.succ_le_succ (depthAll_map (fun a => (h.sh a).2) xs)⟩
  eq xs ys := by
    show PyData.eqv (.tuple (T.ps (xs.map f))) (.tuple (T.ps (ys.map f))) = _
    rw [← eqvAll_map h.eq xs ys]
    simp [PyData.eqv]
instance eqe_L [DecidableEq α] {f : α → T} {n : Nat} [h : EqE n f] : EqE (n + 1) (eL f) where
  sh xs := ⟨layAll_map (fun a => (h.sh a).1) xs, Nat.succ_le_succ (depthAll_map (fun a => (h.sh a).2) xs)⟩
  eq xs ys := by
    show PyData.eqv (.list (T.ps (xs.map f))) (.list (T.ps (ys.map f))) = _
    rw [← eqvAll_map h.eq xs ys]
    simp [PyData.eqv]
instance eqe_2 [DecidableEq α] [DecidableEq β] {f : α → T} {g : β → T} {n m : Nat} [h : EqE n f] [h' : EqE m g] : EqE (max n m + 1) (e2 f g) where
  sh p := by
    constructor
    · show (PyData.canLay0 (f p.1).p && (PyData.canLay0 (g p.2).p && true)) = true
      rw [(h.sh _).1, (h'.sh _).1]; rfl
    · show max (PyData.depth (f p.1).p) (max (PyData.depth (g p.2).p) 0) + 1 ≤ max n m + 1
      have := (h.sh p.1).2
      have := (h'.sh p.2).2
      omega
  eq p q := by
    show PyData.eqv (.tuple [(f p.1).p, (g p.2).p]) (.tuple [(f q.1).p, (g q.2).p]) = _
    simp only [PyData.eqv, PyData.eqvAll, h.eq, h'.eq]
    obtain ⟨a, b⟩ := p
    obtain ⟨c, d⟩ := q
    by_cases h1 : a = c <;> by_cases h2 : b = d <;> simp [h1, h2]
theorem eqT_eqe [DecidableEq α] {f : α → T} {n : Nat} [h : EqE n f] (a b : α) (hn : n ≤ 64) : eqT (f a) (f b) = some (decide (a = b)) := by
  have s : ∀ a, SeqAt.shaped (f a).p = true := fun a => by
    show (PyData.canLay0 (f a).p && decide (PyData.depth (f a).p ≤ 64)) = true
    rw [(h.sh a).1, decide_eq_true (Nat.le_trans (h.sh a).2 hn)]; rfl
  unfold eqT
  rw [s a, s b, h.eq]
  rfl
theorem op_eq [DecidableEq α] {f : α → T} {n : Nat} [h : EqE n f] {a b : α} (hn : n ≤ 64) : fEq (f a) (f b) = some (.sh (.bl (decide (a = b)))) := by unfold fEq; rw [eqT_eqe a b hn]; rfl
theorem op_ne [DecidableEq α] {f : α → T} {n : Nat} [h : EqE n f] {a b : α} (hn : n ≤ 64) : fNe (f a) (f b) = some (.sh (.bl (!decide (a = b)))) := by unfold fNe; rw [eqT_eqe a b hn]; rfl
end
section
variable {α β γ δ ρ σ : Type} {x : M β} {Z : β → γ → List Slot → Prop} {X W : XS} {e e1 e2 : List Slot} {da db dc : DE} {c1 c2 : DT} {dA : DA} {κ : Out → List Slot → Res γ} {i : Nat} {y : ρ → M β}
theorem u_op {f : T → T → Option Out} (h : Rl ((da e).bind fun a e1 => (db e1).bind fun b e2 => (Res.of (f a.t b.t) e2).bind κ) x Z X) : Rl ((dOp f da db e).bind κ) x Z X := by
  have h0 : (dOp f da db e).bind κ = (da e).bind fun a e1 => (db e1).bind fun b e2 => (Res.of (f a.t b.t) e2).bind κ := by
    unfold dOp; rw [Res.bind_assoc]; congr 1; funext a e1; rw [Res.bind_assoc]
  rw [h0]; exact h
theorem u_un {f : T → Option Out} (h : Rl ((da e).bind fun a e1 => (Res.of (f a.t) e1).bind κ) x Z X) : Rl ((dUn f da e).bind κ) x Z X := by
  have h0 : (dUn f da e).bind κ = (da e).bind fun a e1 => (Res.of (f a.t) e1).bind κ := by
    unfold dUn; rw [Res.bind_assoc]
  rw [h0]; exact h
theorem u_tst {κ : Bool → List Slot → Res γ} (h : Rl ((da e).bind fun a e1 => (Res.of (asBl a.t) e1).bind κ) x Z X) : Rl ((dTst da e).bind κ) x Z X := by
  have h0 : (dTst da e).bind κ = (da e).bind fun a e1 => (Res.of (asBl a.t) e1).bind κ := by
    unfold dTst; rw [Res.bind_assoc]
  rw [h0]; exact h
theorem u_tru {κ : Bool → List Slot → Res γ} (h : Rl ((da e).bind fun a e1 => (Res.of (truthT a.t) e1).bind κ) x Z X) : Rl ((dTru da e).bind κ) x Z X := by
  have h0 : (dTru da e).bind κ = (da e).bind fun a e1 => (Res.of (truthT a.t) e1).bind κ := by
    unfold dTru; rw [Res.bind_assoc]
  rw [h0]; exact h
theorem u_not {κ : Bool → List Slot → Res γ} (h : Rl ((c1 e).bind fun b e1 => κ (!b) e1) x Z X) : Rl ((dNot c1 e).bind κ) x Z X := by
  have h0 : (dNot c1 e).bind κ = (c1 e).bind fun b e1 => κ (!b) e1 := by
    unfold dNot; rw [Res.bind_assoc]; rfl
  rw [h0]; exact h
theorem u_and {κ : Bool → List Slot → Res γ} (h : Rl ((c1 e).bind fun b e1 => (if b = true then c2 e1 else .ok false e1).bind κ) x Z X) : Rl ((dAnd c1 c2 e).bind κ) x Z X := by
  have h0 : (dAnd c1 c2 e).bind κ = (c1 e).bind fun b e1 => (if b = true then c2 e1 else .ok false e1).bind κ := by
    unfold dAnd; rw [Res.bind_assoc]
  rw [h0]; exact h
theorem u_or {κ : Bool → List Slot → Res γ} (h : Rl ((c1 e).bind fun b e1 => (if b = true then .ok true e1 else c2 e1).bind κ) x Z X) : Rl ((dOr c1 c2 e).bind κ) x Z X := by
  have h0 : (dOr c1 c2 e).bind κ = (c1 e).bind fun b e1 => (if b = true then .ok true e1 else c2 e1).bind κ := by
    unfold dOr; rw [Res.bind_assoc]
  rw [h0]; exact h
theorem u_if (h : Rl ((c1 e).bind fun b e1 => (if b = true then da e1 else db e1).bind κ) x Z X) : Rl ((dIf c1 da db e).bind κ) x Z X := by
  have h0 : (dIf c1 da db e).bind κ = (c1 e).bind fun b e1 => (if b = true then da e1 else db e1).bind κ := by
    unfold dIf; rw [Res.bind_assoc]
  rw [h0]; exact h
theorem u_andV (h : Rl ((da e).bind fun a e1 => (Res.of (truthT a.t) e1).bind fun b e2 => (if b = true then db e2 else .ok (.sh a.t) e2).bind κ) x Z X) : Rl ((dAndV da db e).bind κ) x Z X := by
  have h0 : (dAndV da db e).bind κ = (da e).bind fun a e1 => (Res.of (truthT a.t) e1).bind fun b e2 => (if b = true then db e2 else .ok (.sh a.t) e2).bind κ := by
    unfold dAndV; rw [Res.bind_assoc]; congr 1; funext a e1; rw [Res.bind_assoc]
  rw [h0]; exact h
theorem u_notV (h : Rl ((da e).bind fun a e1 => (Res.of (truthT a.t) e1).bind fun b e2 => κ (.sh (.bl (!b))) e2) x Z X) : Rl ((dNotV da e).bind κ) x Z X := by
  have h0 : (dNotV da e).bind κ = (da e).bind fun a e1 => (Res.of (truthT a.t) e1).bind fun b e2 => κ (.sh (.bl (!b))) e2 := by
    unfold dNotV; rw [Res.bind_assoc]; congr 1; funext a e1; rw [Res.bind_assoc]; rfl
  rw [h0]; exact h
theorem rl_andm {b : Bool} {κ : Bool → List Slot → Res γ} {w : M ρ} {k : ρ → Bool} {E : ρ → List Slot} {a0 : ρ} (h : Rl (c2 e) w (Zk k E) X) (K : ∀ a, Rl (κ (k a) (E a)) (y a) Z X) (hk : k a0 = false := by rfl) (hE : E a0 = e := by rfl) : Rl ((if b = true then c2 e else .ok false e).bind κ) ((if b = true then w else .ok a0).bind y) Z X :=
  rl_itek h (rl_ok ⟨hk.symm, hE.symm⟩) K
theorem rl_orm {b : Bool} {κ : Bool → List Slot → Res γ} {w : M ρ} {k : ρ → Bool} {E : ρ → List Slot} {a0 : ρ} (h : Rl (c2 e) w (Zk k E) X) (K : ∀ a, Rl (κ (k a) (E a)) (y a) Z X) (hk : k a0 = true := by rfl) (hE : E a0 = e := by rfl) : Rl ((if b = true then .ok true e else c2 e).bind κ) ((if b = true then .ok a0 else w).bind y) Z X :=
  rl_itek (rl_ok ⟨hk.symm, hE.symm⟩) h K
theorem rl_andVm {b : Bool} {w : M ρ} {k : ρ → Bool} {E : ρ → List Slot} {a0 : ρ} (h : Rl (db e) w (Zk (fun a => .sh (.bl (k a))) E) X) (K : ∀ a, Rl (κ (.sh (.bl (k a))) (E a)) (y a) Z X) (hk : k a0 = false := by rfl) (hE : E a0 = e := by rfl) : Rl ((if b = true then db e else .ok (.sh (.bl b)) e).bind κ) ((if b = true then w else .ok a0).bind y) Z X := by
  cases b
  · show Rl (κ (.sh (.bl false)) e) (y a0) Z X
    have := K a0
    rw [hk, hE] at this
    exact this
  · exact rl_bk h K
theorem u_nil {κ : List T → List Slot → Res γ} (h : Rl (κ [] e) x Z X) : Rl ((dNil e).bind κ) x Z X := h
theorem u_cons {κ : List T → List Slot → Res γ} (h : Rl ((da e).bind fun a e1 => (dA e1).bind fun ts e2 => κ (a.t :: ts) e2) x Z X) : Rl ((dCons da dA e).bind κ) x Z X := by
  have h0 : (dCons da dA e).bind κ = (da e).bind fun a e1 => (dA e1).bind fun ts e2 => κ (a.t :: ts) e2 := by
    unfold dCons; rw [Res.bind_assoc]; congr 1; funext a e1; rw [Res.bind_assoc]; rfl
  rw [h0]; exact h
theorem u_tup (h : Rl ((dA e).bind fun ts e1 => (if fits ts.length = true then Res.ok (.sh (.tup ts)) e1 else .bad).bind κ) x Z X) : Rl ((dTup dA e).bind κ) x Z X := by
  have h0 : (dTup dA e).bind κ = (dA e).bind fun ts e1 => (if fits ts.length = true then Res.ok (.sh (.tup ts)) e1 else .bad).bind κ := by
    unfold dTup; rw [Res.bind_assoc]
  rw [h0]; exact h
theorem u_lst (h : Rl ((dA e).bind fun ts e1 => (if fits ts.length = true then Res.ok (.fr ts) e1 else .bad).bind κ) x Z X) : Rl ((dLst dA e).bind κ) x Z X := by
  have h0 : (dLst dA e).bind κ = (dA e).bind fun ts e1 => (if fits ts.length = true then Res.ok (.fr ts) e1 else .bad).bind κ := by
    unfold dLst; rw [Res.bind_assoc]
  rw [h0]; exact h
theorem rl_fits {n : Nat} {r : Res δ} {κ : δ → List Slot → Res γ} (h : fits n = true) (K : Rl (r.bind κ) x Z X) : Rl ((if fits n = true then r else .bad).bind κ) x Z X := by rw [if_pos h]; exact K
theorem u_idxN {t : T} (h0 : e[i]? = some (.sh t)) (h : Rl ((db e).bind fun b e1 => (Res.of (fIdx t b.t) e1).bind κ) x Z X) : Rl ((dIdxN i db e).bind κ) x Z X := by
  have h1 : (dIdxN i db e).bind κ = (db e).bind fun b e1 => (Res.of (fIdx t b.t) e1).bind κ := by
    unfold dIdxN; rw [h0]; show ((db e).bind _).bind κ = _; rw [Res.bind_assoc]
  rw [h1]; exact h
def idxOl (i : Nat) (b : T) (e : List Slot) : Res Out := match e[i]? with
  | some (.ol _ ts) => Res.of (fIdx (.lst ts) b) e
  | _ => .bad
theorem u_idxO {p : Bool} {ts : List T} (h0 : e[i]? = some (.ol p ts)) (h : Rl ((db e).bind fun b e1 => (idxOl i b.t e1).bind κ) x Z X) : Rl ((dIdxN i db e).bind κ) x Z X := by
  have h1 : (dIdxN i db e).bind κ = (db e).bind fun b e1 => (idxOl i b.t e1).bind κ := by
    unfold dIdxN; rw [h0]; show ((db e).bind _).bind κ = _; rw [Res.bind_assoc]; rfl
  rw [h1]; exact h
theorem rl_ol {p : Bool} {ts : List T} {b : T} (h0 : e[i]? = some (.ol p ts)) (h : Rl ((Res.of (fIdx (.lst ts) b) e).bind κ) x Z X) : Rl ((idxOl i b e).bind κ) x Z X := by unfold idxOl; rw [h0]; exact h
theorem u_sl {dl du : DO} (h : Rl ((da e).bind fun a e1 => (dl e1).bind fun l e2 => (du e2).bind fun u e3 => (Res.of (fSl a.t l u) e3).bind κ) x Z X) : Rl ((dSl da dl du e).bind κ) x Z X := by
  have h0 : (dSl da dl du e).bind κ = (da e).bind fun a e1 => (dl e1).bind fun l e2 => (du e2).bind fun u e3 => (Res.of (fSl a.t l u) e3).bind κ := by
    unfold dSl; rw [Res.bind_assoc]; congr 1; funext a e1; rw [Res.bind_assoc]; congr 1; funext b e2; rw [Res.bind_assoc]
  rw [h0]; exact h
theorem u_noPart {κ : Option Int → List Slot → Res γ} (h : Rl (κ none e) x Z X) : Rl ((dNoPart e).bind κ) x Z X := h
theorem u_part {κ : Option Int → List Slot → Res γ} (h : Rl ((da e).bind fun a e1 => (Res.of (asInt a.t) e1).bind fun i e2 => κ (some i) e2) x Z X) : Rl ((dPart da e).bind κ) x Z X := by
  have h0 : (dPart da e).bind κ = (da e).bind fun a e1 => (Res.of (asInt a.t) e1).bind fun i e2 => κ (some i) e2 := by
    unfold dPart; rw [Res.bind_assoc]; congr 1; funext a e1; rw [Res.bind_assoc]; rfl
  rw [h0]; exact h
theorem u_cb {f : List T → Option Out} (h : Rl ((dA e).bind fun ts e1 => (Res.of (f ts) e1).bind κ) x Z X) : Rl ((dCB f dA e).bind κ) x Z X := by
  have h0 : (dCB f dA e).bind κ = (dA e).bind fun ts e1 => (Res.of (f ts) e1).bind κ := by
    unfold dCB; rw [Res.bind_assoc]
  rw [h0]; exact h
theorem u_isi {tbl : Nat → Option Bool} (h : Rl ((da e).bind fun a e1 => (Res.of (tbl a.t.kind) e1).bind fun b e2 => κ (.sh (.bl b)) e2) x Z X) : Rl ((dIsi tbl da e).bind κ) x Z X := by
  have h0 : (dIsi tbl da e).bind κ = (da e).bind fun a e1 => (Res.of (tbl a.t.kind) e1).bind fun b e2 => κ (.sh (.bl b)) e2 := by
    unfold dIsi; rw [Res.bind_assoc]; congr 1; funext a e1; cases tbl a.t.kind <;> rfl
  rw [h0]; exact h
def fldT (fi : Nat → Option Nat) (t : T) : Option Out := match t with
  | .obj c ts => ((fi c).bind fun k => ts[k]?).map .sh
  | _ => none
theorem u_fld {fi : Nat → Option Nat} (h : Rl ((da e).bind fun a e1 => (Res.of (fldT fi a.t) e1).bind κ) x Z X) : Rl ((dFld fi da e).bind κ) x Z X := by
  have h0 : (dFld fi da e).bind κ = (da e).bind fun a e1 => (Res.of (fldT fi a.t) e1).bind κ := by
    unfold dFld; rw [Res.bind_assoc]; congr 1; funext a e1; cases a.t <;> rfl
  rw [h0]; exact h
theorem u_items {κ : List T → List Slot → Res γ} (h : Rl ((da e).bind fun o e1 => (Res.of (itemsT o.t) e1).bind κ) x Z X) : Rl ((dItems da e).bind κ) x Z X := by
  have h0 : (dItems da e).bind κ = (da e).bind fun o e1 => (Res.of (itemsT o.t) e1).bind κ := by
    unfold dItems; rw [Res.bind_assoc]
  rw [h0]; exact h
theorem u_rng {κ : List T → List Slot → Res γ} (h : Rl ((dA e).bind fun ts e1 => (Res.of (asRng ts) e1).bind κ) x Z X) : Rl ((dRng dA e).bind κ) x Z X := by
  have h0 : (dRng dA e).bind κ = (dA e).bind fun ts e1 => (Res.of (asRng ts) e1).bind κ := by
    unfold dRng; rw [Res.bind_assoc]
  rw [h0]; exact h
theorem u_zip {κ : List T → List Slot → Res γ} (h : Rl ((dA e).bind fun ts e1 => (Res.of (asZip ts) e1).bind κ) x Z X) : Rl ((dZip dA e).bind κ) x Z X := by
  have h0 : (dZip dA e).bind κ = (dA e).bind fun ts e1 => (Res.of (asZip ts) e1).bind κ := by
    unfold dZip; rw [Res.bind_assoc]
  rw [h0]; exact h
theorem u_cnil {κ : List AV → List Slot → Res γ} (h : Rl (κ [] e) x Z X) : Rl ((cNil e).bind κ) x Z X := h
theorem u_cval {dr : DC} {κ : List AV → List Slot → Res γ} (h : Rl ((da e).bind fun a e1 => (dr e1).bind fun avs e2 => κ (.v a.t :: avs) e2) x Z X) : Rl ((cVal da dr e).bind κ) x Z X := by
  have h0 : (cVal da dr e).bind κ = (da e).bind fun a e1 => (dr e1).bind fun avs e2 => κ (.v a.t :: avs) e2 := by
    unfold cVal; rw [Res.bind_assoc]; congr 1; funext a e1; rw [Res.bind_assoc]; rfl
  rw [h0]; exact h
theorem u_clend {dr : DC} {p : Bool} {ts : List T} {κ : List AV → List Slot → Res γ} (h1 : e[i]? = some (.ol p ts)) (h : Rl ((dr e).bind fun avs e2 => κ (.l i :: avs) e2) x Z X) : Rl ((cLend i dr e).bind κ) x Z X := by
  have h0 : (cLend i dr e).bind κ = (dr e).bind fun avs e2 => κ (.l i :: avs) e2 := by
    unfold cLend; rw [h1]; show ((dr e).bind _).bind κ = _; rw [Res.bind_assoc]; rfl
  rw [h0]; exact h
theorem u_call {np : Nat} {F : DF} {ds : List T} {dc : DC} (h : Rl ((dc e).bind fun avs e1 => (runN np F (avs ++ ds.map AV.v) e1).bind κ) x Z X) : Rl ((dCall np F ds dc e).bind κ) x Z X := by
  have h0 : (dCall np F ds dc e).bind κ = (dc e).bind fun avs e1 => (runN np F (avs ++ ds.map AV.v) e1).bind κ := by
    unfold dCall; rw [Res.bind_assoc]; rfl
  rw [h0]; exact h
def FnR (r : Res Out) (w : M ρ) (k : ρ → Out) : Prop := match w with
  | .ok v => ∃ e', r = .ok (k v) e'
  | .ex n => ∃ e', r = .ex n e'
  | .bad => True
def FnL (j : Nat) (r : Res Out) (w : M (ρ × σ)) (k : ρ → Out) (L : σ → List T) : Prop := match w with
  | .ok v => ∃ e', r = .ok (k v.1) e' ∧ e'[j]? = some (.ol true (L v.2))
  | .ex n => ∃ e', r = .ex n e'
  | .bad => True
def FnI (c : Nat) (r : Res Out) (w : M ρ) (fs : ρ → List T) : Prop := match w with
  | .ok v => ∃ e', r = .ok (.sh .non) e' ∧ e'[0]? = some (.oi c (fs v))
  | .ex n => ∃ e', r = .ex n e'
  | .bad => True
theorem rl_run {np : Nat} {F : DF} {avs : List AV} {ss : List Slot} {w : M ρ} {k : ρ → Out} (h : FnR (F ss) w k) (hX : ∀ n, X n e) (K : ∀ a, Rl (κ (k a) e) (y a) Z X) (hn : Nat.beq avs.length np = true := by rfl) (hs : slotsOf e avs = some ss := by rfl) (hd : nodupB (lentOf avs) = true := by rfl) (hp : ∀ e', putBack e' 0 avs e = e := by exact fun _ => rfl) : Rl ((runN np F avs e).bind κ) (w.bind y) Z X := by
  have h0 : runN np F avs e = mapE (fun _ => e) (F ss) := by
    unfold runN runF
    rw [if_pos hn, hs]
    show (if nodupB (lentOf avs) = true then _ else _) = _
    rw [if_pos hd]
    cases F ss with
    | ok a e' => exact congrArg (Res.ok a) (hp e')
    | ex n e' => exact congrArg (Res.ex n) (hp e')
    | bad => rfl
  rw [h0]
  cases w with
  | ok v => obtain ⟨e', h⟩ := h; rw [h]; exact K v
  | ex n => obtain ⟨e', h⟩ := h; rw [h]; exact ⟨e, rfl, hX n⟩
  | bad => trivial
theorem putBack_v : ∀ (ts : List T) (e' : List Slot) (k : Nat) (e : List Slot), putBack e' k (ts.map .v) e = e
  | [], _, _, _ => rfl
  | _ :: ts, e', k, e => putBack_v ts e' (k + 1) e
theorem rl_runL {np : Nat} {F : DF} {us : List T} {ss : List Slot} {w : M (ρ × σ)} {y : ρ × σ → M β} {k : ρ → Out} {L : σ → List T} {p : Bool} {ts : List T} {E : σ → List Slot} (h : FnL 0 (F ss) w k L) (hi : e[i]? = some (.ol p ts)) (hE : ∀ s, e.set i (.ol p (L s)) = E s) (K : ∀ a, Rl (κ (k a.1) (E a.2)) (y a) Z XT) (hn : Nat.beq (AV.l i :: us.map .v).length np = true := by rfl) (hs : slotsOf e (AV.l i :: us.map .v) = some ss := by rfl) (hd : nodupB (lentOf (AV.l i :: us.map .v)) = true := by rfl) : Rl ((runN np F (AV.l i :: us.map .v) e).bind κ) (w.bind y) Z XT := by
  have h0 : runN np F (AV.l i :: us.map .v) e = mapE (fun e' => putBack e' 0 (AV.l i :: us.map .v) e) (F ss) := by
    unfold runN runF
    rw [if_pos hn, hs]
    show (if nodupB (lentOf (AV.l i :: us.map .v)) = true then _ else _) = _
    rw [if_pos hd]
  rw [h0]
  cases w with
  | ok v =>
    obtain ⟨e', h, h1⟩ := h
    rw [h]
    have h2 : putBack e' 0 (AV.l i :: us.map .v) e = E v.2 := by
      show putBack e' 1 (us.map .v) (match e'[0]? with | some sl => back1 e i sl | none => e) = _
      rw [h1, putBack_v]
      show (match e[i]? with | some (.ol p _) => e.set i (.ol p (L v.2)) | _ => e) = _
      rw [hi]
      exact hE v.2
    show Rl (κ (k v.1) (putBack e' 0 (AV.l i :: us.map .v) e)) (y v) Z XT
    rw [h2]
    exact K v
  | ex n => obtain ⟨e', h⟩ := h; rw [h]; exact ⟨_, rfl, trivial⟩
  | bad => trivial
theorem u_make {c nf np : Nat} {F : DF} {ds : List T} (h : Rl ((dA e).bind fun ts e1 => (if Nat.beq ((ts ++ ds).length + 1) np = true then mkEnd c nf e1 (F (.oi c [] :: (ts ++ ds).map .sh)) else .bad).bind κ) x Z X) : Rl ((dMake c nf np F ds dA e).bind κ) x Z X := by
  have h0 : (dMake c nf np F ds dA e).bind κ = (dA e).bind fun ts e1 => (if Nat.beq ((ts ++ ds).length + 1) np = true then mkEnd c nf e1 (F (.oi c [] :: (ts ++ ds).map .sh)) else .bad).bind κ := by
    unfold dMake; rw [Res.bind_assoc]
  rw [h0]; exact h
theorem rl_make {b : Bool} {c nf : Nat} {r : Res Out} {w : M ρ} {fs : ρ → List T} {em : ρ → T} (h : FnI c r w fs) (hX : ∀ n, X n e) (K : ∀ a, Rl (κ (.sh (em a)) e) (y a) Z X) (hb : b = true := by rfl) (hf : ∀ v, Nat.beq (fs v).length nf = true := by exact fun _ => rfl) (hm : ∀ v, T.obj c (fs v) = em v := by exact fun _ => rfl) : Rl ((if b = true then mkEnd c nf e r else .bad).bind κ) (w.bind y) Z X := by
  subst hb
  rw [if_pos rfl]
  cases w with
  | ok v =>
    obtain ⟨e', h, h1⟩ := h
    rw [h]
    show Rl ((match (e'[0]? : Option Slot) with | some (Slot.oi _ fs) => if Nat.beq fs.length nf = true then Res.ok (Out.sh (.obj c fs)) e else .bad | _ => .bad).bind κ) (y v) Z X
    rw [h1]
    show Rl ((if Nat.beq (fs v).length nf = true then Res.ok (Out.sh (.obj c (fs v))) e else .bad).bind κ) (y v) Z X
    rw [if_pos (hf v), hm v]
    exact K v
  | ex n => obtain ⟨e', h⟩ := h; rw [h]; exact ⟨e, rfl, hX n⟩
  | bad => trivial
def methR (tbl : Nat → Option ME) (dc : DC) (t : T) (e : List Slot) : Res Out := match t with
  | .obj c ts => match tbl c with
    | some me => (dc e).bind fun avs e2 => runN me.np me.F (.v (.obj c ts) :: (avs ++ me.ds.map AV.v)) e2
    | none => .bad
  | _ => .bad
theorem u_meth {tbl : Nat → Option ME} {dc : DC} (h : Rl ((da e).bind fun o e1 => (methR tbl dc o.t e1).bind κ) x Z X) : Rl ((dMeth tbl da dc e).bind κ) x Z X := by
  have h0 : (dMeth tbl da dc e).bind κ = (da e).bind fun o e1 => (methR tbl dc o.t e1).bind κ := by
    unfold dMeth; rw [Res.bind_assoc]; rfl
  rw [h0]; exact h
theorem rl_meth {tbl : Nat → Option ME} {dc : DC} {t : T} {c : Nat} {ts : List T} {me : ME} (ht : t = .obj c ts) (hm : tbl c = some me) (h : Rl ((dc e).bind fun avs e2 => (runN me.np me.F (.v (.obj c ts) :: (avs ++ me.ds.map AV.v)) e2).bind κ) x Z X) : Rl ((methR tbl dc t e).bind κ) x Z X := by
  subst ht
  unfold methR
  show Rl ((match tbl c with | some me => (dc e).bind fun avs e2 => runN me.np me.F (.v (.obj c ts) :: (avs ++ me.ds.map AV.v)) e2 | none => .bad).bind κ) x Z X
  rw [hm]
  show Rl (((dc e).bind fun avs e2 => runN me.np me.F (.v (.obj c ts) :: (avs ++ me.ds.map AV.v)) e2).bind κ) x Z X
  rw [Res.bind_assoc]
  exact h
theorem u_opO {f : T → T → Option Out} {tbl : Nat → Option DF} (h : Rl ((da e).bind fun a e1 => (db e1).bind fun b e2 => (opO f tbl a.t b.t e2).bind κ) x Z X) : Rl ((dOpO f tbl da db e).bind κ) x Z X := by
  have h0 : (dOpO f tbl da db e).bind κ = (da e).bind fun a e1 => (db e1).bind fun b e2 => (opO f tbl a.t b.t e2).bind κ := by
    unfold dOpO; rw [Res.bind_assoc]; congr 1; funext a e1; rw [Res.bind_assoc]
  rw [h0]; exact h
theorem rl_opO {f : T → T → Option Out} {tbl : Nat → Option DF} {t u : T} {c : Nat} {ts us : List T} {F : DF} (ht : t = .obj c ts) (hu : u = .obj c us) (hF : tbl c = some F) (h : Rl ((runN 2 F [.v (.obj c ts), .v (.obj c us)] e).bind κ) x Z X) : Rl ((opO f tbl t u e).bind κ) x Z X := by
  subst ht hu
  have h0 : opO f tbl (.obj c ts) (.obj c us) e = runN 2 F [.v (.obj c ts), .v (.obj c us)] e := by
    show (if Nat.beq c c = true then (match tbl c with | some F => runN 2 F [.v (.obj c ts), .v (.obj c us)] e | none => .bad) else .bad) = _
    rw [if_pos (Nat.beq_refl c), hF]
  rw [h0]; exact h
@[irreducible] def lenM (w : M Int) : M Int := w.nox.bind fun n => if decide (0 ≤ n) && decide (n < 1000000) then .ok n else .bad
theorem opm_lenO {tbl : Nat → Option DF} {F : DF} {t : T} {c : Nat} {ts : List T} {w : M Int} (ht : t = .obj c ts) (hF : tbl c = some F) (h : FnR (F [.sh t]) w (fun n => .sh (.int n))) : OpM (fLenO tbl [t]) (lenM w) (fun n => .sh (.int n)) := by
  subst ht
  show OpM ((tbl c).bind fun F => (fOwn1 F (.obj c ts)).bind lenO) _ _
  rw [hF]
  show OpM ((fOwn1 F (.obj c ts)).bind lenO) _ _
  unfold fOwn1
  unfold lenM
  cases w with
  | ok v =>
    obtain ⟨e', h⟩ := h
    rw [h]
    show OpM (if (decide (0 ≤ v) && decide (v < 1000000)) = true then some (Out.sh (.int v)) else none) (if (decide (0 ≤ v) && decide (v < 1000000)) = true then .ok v else .bad) _
    by_cases hb : (decide (0 ≤ v) && decide (v < 1000000)) = true
    · rw [if_pos hb, if_pos hb]; rfl
    · rw [if_neg hb, if_neg hb]; trivial
  | ex n => trivial
  | bad => trivial
theorem u_lc {di : DI} {g : DG} {tt : DT} {vs : List Nat} (h : Rl ((di e).bind fun ts e1 => (endLc e1 vs (lcL g tt da vs ts [] (wipeE e1 vs))).bind κ) x Z X) : Rl ((dLc di g tt da vs e).bind κ) x Z X := by
  have h0 : (dLc di g tt da vs e).bind κ = (di e).bind fun ts e1 => (endLc e1 vs (lcL g tt da vs ts [] (wipeE e1 vs))).bind κ := by
    unfold dLc; rw [Res.bind_assoc]
  rw [h0]; exact h
theorem fits_dn {n m : Nat} (h : fits m = true) (hl : n ≤ m) : fits n = true := Nat.ble_eq_true_of_le (Nat.le_trans hl (Nat.le_of_ble_eq_true h))
theorem lcL_M {g : DG} {vs : List Nat} {f : α → T} {w : α → M δ} {kb : δ → T} {k : δ → Out} {eg : α → List Slot} {E : α → δ → List Slot} (hg : ∀ a, g (f a) e2 = .ok .nx (eg a)) (hb : ∀ a, Rl (da (eg a)) (w a) (Zk k (E a)) W) (hk : ∀ b, (k b).t = kb b) (hw : ∀ a b, wipeE (E a b) vs = e2) : ∀ (xs : List α) (acc : List T), fits (acc.length + xs.length) = true → OpM (lcL g dYes da vs (xs.map f) acc e2) (lcR w xs) (fun ys => (acc ++ ys.map kb, e2))
  | [], acc, _ => by show some (acc, e2) = some (acc ++ [], e2); rw [List.append_nil]
  | a :: as, acc, hf => by
    have h1 : lcL g dYes da vs ((a :: as).map f) acc e2 = match da (eg a) with | .ok o e3 => if fits (acc.length + 1) then lcL g dYes da vs (as.map f) (acc ++ [o.t]) (wipeE e3 vs) else none | _ => none := by
      show (match g (f a) e2 with | .ok .nx e1 => (match dYes e1 with | .ok true e2 => (match da e2 with | .ok o e3 => if fits (acc.length + 1) then lcL g dYes da vs (as.map f) (acc ++ [o.t]) (wipeE e3 vs) else none | _ => none) | .ok false e2 => lcL g dYes da vs (as.map f) acc (wipeE e2 vs) | _ => none) | _ => none) = _
      rw [hg a]
      rfl
    rw [h1]
    have hba := hb a
    show OpM _ (match w a with | .ok b => (match lcR w as with | .ok bs => .ok (b :: bs) | _ => .bad) | _ => .bad) _
    cases hw' : w a with
    | ok b =>
      rw [hw'] at hba
      rw [rl_eq hba]
      show OpM (if fits (acc.length + 1) then lcL g dYes da vs (as.map f) (acc ++ [(k b).t]) (wipeE (E a b) vs) else none) _ _
      rw [if_pos (fits_dn hf (by rw [List.length_cons]; omega)), hk, hw]
      have ih := lcL_M hg hb hk hw as (acc ++ [kb b]) (by rw [List.length_append, List.length_singleton]; rw [List.length_cons] at hf; exact fits_dn hf (by omega))
      cases hr : lcR w as with
      | ok bs =>
        rw [hr] at ih
        have ih : lcL g dYes da vs (as.map f) (acc ++ [kb b]) e2 = some (acc ++ [kb b] ++ bs.map kb, e2) := ih
        rw [ih]
        show some _ = some _
        rw [List.append_assoc]
        rfl
      | ex n => trivial
      | bad => trivial
    | ex n => trivial
    | bad => trivial
theorem lcR_nx {w : α → M δ} (n : Exn) : ∀ xs, lcR w xs ≠ .ex n
  | [] => fun h => nomatch h
  | a :: as => by
    show (match w a with | .ok b => (match lcR w as with | .ok bs => M.ok (b :: bs) | _ => .bad) | _ => .bad) ≠ .ex n
    cases w a with
    | ok b =>
      cases lcR w as with
      | ok bs => exact fun h => nomatch h
      | ex n => exact fun h => nomatch h
      | bad => exact fun h => nomatch h
    | ex n => exact fun h => nomatch h
    | bad => exact fun h => nomatch h
theorem rl_lc {g : DG} {vs : List Nat} {xs : List α} {f : α → T} {w : α → M δ} {kb : δ → T} {k : δ → Out} {y : List δ → M β} (eg : α → List Slot) (E : α → δ → List Slot) (hg : ∀ a, g (f a) e2 = .ok .nx (eg a)) (hb : ∀ a, Rl (da (eg a)) (w a) (Zk k (E a)) XT) (K : ∀ ys, Rl (κ (.fr (ys.map kb)) e1) (y ys) Z X)
    (hw : wipeE e1 vs = e2 := by rfl) (hwe : ∀ a b, wipeE (E a b) vs = e2 := by exact fun _ _ => rfl) (hk : ∀ b, (k b).t = kb b := by exact fun _ => rfl) (hbk : backE e1 e2 vs = e1 := by rfl) : Rl ((endLc e1 vs (lcL g dYes da vs (xs.map f) [] (wipeE e1 vs))).bind κ) ((lcM xs w).bind y) Z X := by
  rw [hw]
  unfold lcM
  by_cases hf : fits xs.length = true
  · rw [if_pos hf]
    have h := lcL_M hg hb hk hwe xs [] (by rw [List.length_nil, Nat.zero_add]; exact hf)
    cases hr : lcR w xs with
    | ok ys =>
      rw [hr] at h
      have h : lcL g dYes da vs (xs.map f) [] e2 = some ([] ++ ys.map kb, e2) := h
      rw [h, List.nil_append]
      show Rl (κ (.fr (ys.map kb)) (backE e1 e2 vs)) (y ys) Z X
      rw [hbk]
      exact K ys
    | ex n => exact absurd hr (lcR_nx n xs)
    | bad => trivial
  · rw [if_neg hf]; trivial
end
end L2.VD

namespace L2.VD
open PySem PySem.Spec PyProof.Rows
section
variable {α β γ δ ρ σ : Type} {x : M β} {Z : β → γ → List Slot → Prop} {X W : XS} {e e1 e2 : List Slot} {da db dc : DE} {c1 c2 : DT} {dA : DA} {κ : Out → List Slot → Res γ} {i : Nat} {y : ρ → M β}
theorem lcfR_nx {c : α → M Bool} {w : α → M δ} (n : Exn) : ∀ xs, lcfR c w xs ≠ .ex n
  | [] => fun h => nomatch h
  | a :: as => by
    show (match c a with | .ok true => (match w a with | .ok b => (match lcfR c w as with | .ok bs => M.ok (b :: bs) | _ => .bad) | _ => .bad) | .ok false => lcfR c w as | _ => .bad) ≠ .ex n
    cases c a with
    | ok b =>
      cases b with
      | true =>
        cases w a with
        | ok b =>
          cases lcfR c w as with
          | ok bs => exact fun h => nomatch h
          | ex n => exact fun h => nomatch h
          | bad => exact fun h => nomatch h
        | ex n => exact fun h => nomatch h
        | bad => exact fun h => nomatch h
      | false => exact lcfR_nx n as
    | ex n => exact fun h => nomatch h
    | bad => exact fun h => nomatch h
theorem lcL_MF {g : DG} {tt : DT} {vs : List Nat} {f : α → T} {c : α → M Bool} {w : α → M δ} {kb : δ → T} {k : δ → Out} {eg : α → List Slot} {E : α → δ → List Slot} (hg : ∀ a, g (f a) e2 = .ok .nx (eg a)) (ht : ∀ a, Rl (tt (eg a)) (c a) (Zk id fun _ => eg a) W) (hb : ∀ a, Rl (da (eg a)) (w a) (Zk k (E a)) W) (hk : ∀ b, (k b).t = kb b) (hw : ∀ a b, wipeE (E a b) vs = e2) (hw0 : ∀ a, wipeE (eg a) vs = e2) : ∀ (xs : List α) (acc : List T), fits (acc.length + xs.length) = true → OpM (lcL g tt da vs (xs.map f) acc e2) (lcfR c w xs) (fun ys => (acc ++ ys.map kb, e2))
  | [], acc, _ => by show some (acc, e2) = some (acc ++ [], e2); rw [List.append_nil]
  | a :: as, acc, hf => by
    have h1 : lcL g tt da vs ((a :: as).map f) acc e2 = match tt (eg a) with | .ok true e2 => (match da e2 with | .ok o e3 => if fits (acc.length + 1) then lcL g tt da vs (as.map f) (acc ++ [o.t]) (wipeE e3 vs) else none | _ => none) | .ok false e2 => lcL g tt da vs (as.map f) acc (wipeE e2 vs) | _ => none := by
      show (match g (f a) e2 with | .ok .nx e1 => (match tt e1 with | .ok true e2 => (match da e2 with | .ok o e3 => if fits (acc.length + 1) then lcL g tt da vs (as.map f) (acc ++ [o.t]) (wipeE e3 vs) else none | _ => none) | .ok false e2 => lcL g tt da vs (as.map f) acc (wipeE e2 vs) | _ => none) | _ => none) = _
      rw [hg a]
    rw [h1]
    have hta := ht a
    have hba := hb a
    show OpM _ (match c a with | .ok true => (match w a with | .ok b => (match lcfR c w as with | .ok bs => M.ok (b :: bs) | _ => .bad) | _ => .bad) | .ok false => lcfR c w as | _ => .bad) _
    cases hc' : c a with
    | ok b =>
      rw [hc'] at hta
      rw [rl_eq hta]
      cases b with
      | true =>
        show OpM (match da (eg a) with | .ok o e3 => if fits (acc.length + 1) then lcL g tt da vs (as.map f) (acc ++ [o.t]) (wipeE e3 vs) else none | _ => none) (match w a with | .ok b => (match lcfR c w as with | .ok bs => M.ok (b :: bs) | _ => .bad) | _ => .bad) _
        cases hw' : w a with
        | ok b =>
          rw [hw'] at hba
          rw [rl_eq hba]
          show OpM (if fits (acc.length + 1) then lcL g tt da vs (as.map f) (acc ++ [(k b).t]) (wipeE (E a b) vs) else none) _ _
          rw [if_pos (fits_dn hf (by rw [List.length_cons]; omega)), hk, hw]
          have ih := lcL_MF hg ht hb hk hw hw0 as (acc ++ [kb b]) (by rw [List.length_append, List.length_singleton]; rw [List.length_cons] at hf; exact fits_dn hf (by omega))
          cases hr : lcfR c w as with
          | ok bs =>
            rw [hr] at ih
            have ih : lcL g tt da vs (as.map f) (acc ++ [kb b]) e2 = some (acc ++ [kb b] ++ bs.map kb, e2) := ih
            rw [ih]
            show some _ = some _
            rw [List.append_assoc]
            rfl
          | ex n => trivial
          | bad => trivial
        | ex n => trivial
        | bad => trivial
      | false =>
        show OpM (lcL g tt da vs (as.map f) acc (wipeE (eg a) vs)) (lcfR c w as) _
        rw [hw0]
        exact lcL_MF hg ht hb hk hw hw0 as acc (fits_dn hf (by rw [List.length_cons]; omega))
    | ex n => trivial
    | bad => trivial
theorem rl_lcf {g : DG} {tt : DT} {vs : List Nat} {xs : List α} {f : α → T} {c : α → M Bool} {w : α → M δ} {kb : δ → T} {k : δ → Out} {y : List δ → M β} (eg : α → List Slot) (E : α → δ → List Slot) (hg : ∀ a, g (f a) e2 = .ok .nx (eg a)) (ht : ∀ a, Rl (tt (eg a)) (c a) (Zk id fun _ => eg a) XT) (hb : ∀ a, Rl (da (eg a)) (w a) (Zk k (E a)) XT) (K : ∀ ys, Rl (κ (.fr (ys.map kb)) e1) (y ys) Z X)
    (hw : wipeE e1 vs = e2 := by rfl) (hwe : ∀ a b, wipeE (E a b) vs = e2 := by exact fun _ _ => rfl) (hw0 : ∀ a, wipeE (eg a) vs = e2 := by exact fun _ => rfl) (hk : ∀ b, (k b).t = kb b := by exact fun _ => rfl) (hbk : backE e1 e2 vs = e1 := by rfl) : Rl ((endLc e1 vs (lcL g tt da vs (xs.map f) [] (wipeE e1 vs))).bind κ) ((lcfM xs c w).bind y) Z X := by
  rw [hw]
  unfold lcfM
  by_cases hf : fits xs.length = true
  · rw [if_pos hf]
    have h := lcL_MF hg ht hb hk hwe hw0 xs [] (by rw [List.length_nil, Nat.zero_add]; exact hf)
    cases hr : lcfR c w xs with
    | ok ys =>
      rw [hr] at h
      have h : lcL g tt da vs (xs.map f) [] e2 = some ([] ++ ys.map kb, e2) := h
      rw [h, List.nil_append]
      show Rl (κ (.fr (ys.map kb)) (backE e1 e2 vs)) (y ys) Z X
      rw [hbk]
      exact K ys
    | ex n => exact absurd hr (lcfR_nx n xs)
    | bad => trivial
  · rw [if_neg hf]; trivial
theorem lcsR_nx {w : σ → α → M (δ × σ)} (n : Exn) : ∀ xs s, lcsR w xs s ≠ .ex n
  | [], s => fun h => nomatch h
  | a :: as, s => by
    show (match w s a with | .ok b => (match lcsR w as b.2 with | .ok bs => M.ok (b.1 :: bs.1, bs.2) | _ => .bad) | _ => .bad) ≠ .ex n
    cases w s a with
    | ok b =>
      cases h : lcsR w as b.2 with
      | ok bs => intro z; dsimp only at z; rw [h] at z; nomatch z
      | ex n => intro z; dsimp only at z; rw [h] at z; nomatch z
      | bad => intro z; dsimp only at z; rw [h] at z; nomatch z
    | ex n => exact fun h => nomatch h
    | bad => exact fun h => nomatch h
theorem lcL_MS {g : DG} {vs : List Nat} {f : α → T} {w : σ → α → M (δ × σ)} {kb : δ → T} {k : δ × σ → Out} {Ew : σ → List Slot} {eg : σ → α → List Slot} {E : σ → α → δ × σ → List Slot} (hg : ∀ s a, g (f a) (Ew s) = .ok .nx (eg s a)) (hb : ∀ s a, Rl (da (eg s a)) (w s a) (Zk k (E s a)) W) (hk : ∀ b, (k b).t = kb b.1) (hw : ∀ s a b, wipeE (E s a b) vs = Ew b.2) : ∀ (xs : List α) (s : σ) (acc : List T), fits (acc.length + xs.length) = true → OpM (lcL g dYes da vs (xs.map f) acc (Ew s)) (lcsR w xs s) (fun ys => (acc ++ ys.1.map kb, Ew ys.2))
  | [], s, acc, _ => by show some (acc, Ew s) = some (acc ++ [], Ew s); rw [List.append_nil]
  | a :: as, s, acc, hf => by
    have h1 : lcL g dYes da vs ((a :: as).map f) acc (Ew s) = match da (eg s a) with | .ok o e3 => if fits (acc.length + 1) then lcL g dYes da vs (as.map f) (acc ++ [o.t]) (wipeE e3 vs) else none | _ => none := by
      show (match g (f a) (Ew s) with | .ok .nx e1 => (match dYes e1 with | .ok true e2 => (match da e2 with | .ok o e3 => if fits (acc.length + 1) then lcL g dYes da vs (as.map f) (acc ++ [o.t]) (wipeE e3 vs) else none | _ => none) | .ok false e2 => lcL g dYes da vs (as.map f) acc (wipeE e2 vs) | _ => none) | _ => none) = _
      rw [hg s a]
      rfl
    rw [h1]
    have hba := hb s a
    show OpM _ (match w s a with | .ok b => (match lcsR w as b.2 with | .ok bs => .ok (b.1 :: bs.1, bs.2) | _ => .bad) | _ => .bad) _
    cases hw' : w s a with
    | ok b =>
      rw [hw'] at hba
      rw [rl_eq hba]
      show OpM (if fits (acc.length + 1) then lcL g dYes da vs (as.map f) (acc ++ [(k b).t]) (wipeE (E s a b) vs) else none) (match lcsR w as b.2 with | .ok bs => .ok (b.1 :: bs.1, bs.2) | _ => .bad) _
      rw [if_pos (fits_dn hf (by rw [List.length_cons]; omega)), hk, hw]
      have ih := lcL_MS hg hb hk hw as b.2 (acc ++ [kb b.1]) (by rw [List.length_append, List.length_singleton]; rw [List.length_cons] at hf; exact fits_dn hf (by omega))
      cases hr : lcsR w as b.2 with
      | ok bs =>
        rw [hr] at ih
        have ih : lcL g dYes da vs (as.map f) (acc ++ [kb b.1]) (Ew b.2) = some (acc ++ [kb b.1] ++ bs.1.map kb, Ew bs.2) := ih
        rw [ih]
        show some _ = some _
        rw [List.append_assoc]
        rfl
      | ex n => trivial
      | bad => trivial
    | ex n => trivial
    | bad => trivial
theorem rl_lcs {g : DG} {vs : List Nat} {xs : List α} {f : α → T} {s0 : σ} {w : σ → α → M (δ × σ)} {kb : δ → T} {k : δ × σ → Out} {y : List δ × σ → M β} (Ew : σ → List Slot) (eg : σ → α → List Slot) (E : σ → α → δ × σ → List Slot) (E' : σ → List Slot) (hg : ∀ s a, g (f a) (Ew s) = .ok .nx (eg s a)) (hb : ∀ s a, Rl (da (eg s a)) (w s a) (Zk k (E s a)) XT) (K : ∀ r : List δ × σ, Rl (κ (.fr (r.1.map kb)) (E' r.2)) (y r) Z X)
    (hw : wipeE e1 vs = Ew s0 := by rfl) (hwe : ∀ s a b, wipeE (E s a b) vs = Ew b.2 := by exact fun _ _ _ => rfl) (hk : ∀ b, (k b).t = kb b.1 := by exact fun _ => rfl) (hbk : ∀ s, backE e1 (Ew s) vs = E' s := by exact fun _ => rfl) : Rl ((endLc e1 vs (lcL g dYes da vs (xs.map f) [] (wipeE e1 vs))).bind κ) ((lcsM xs s0 w).bind y) Z X := by
  rw [hw]
  unfold lcsM
  by_cases hf : fits xs.length = true
  · rw [if_pos hf]
    have h := lcL_MS hg hb hk hwe xs s0 [] (by rw [List.length_nil, Nat.zero_add]; exact hf)
    cases hr : lcsR w xs s0 with
    | ok ys =>
      rw [hr] at h
      have h : lcL g dYes da vs (xs.map f) [] (Ew s0) = some ([] ++ ys.1.map kb, Ew ys.2) := h
      rw [h, List.nil_append]
      show Rl (κ (.fr (ys.1.map kb)) (backE e1 (Ew ys.2) vs)) (y ys) Z X
      rw [hbk]
      exact K ys
    | ex n => exact absurd hr (lcsR_nx n xs s0)
    | bad => trivial
  · rw [if_neg hf]; trivial
end
section
variable {α β γ δ ρ σ : Type} {x : M β} {Z : β → Fl → List Slot → Prop} {X W : XS} {e e1 e2 : List Slot} {da db dc : DE} {c1 c2 : DT} {dA : DA} {i : Nat} {d1 d2 d3 R : DS}
theorem rl_seqE {w : M ρ} {y : ρ → M β} {E : ρ → List Slot} (h : Rl (d1 e) w (ZE E) X) (h2 : ∀ a, Rl (d2 (E a)) (y a) Z X) : Rl (dSeq d1 d2 e) (w.bind y) Z X := rl_b h fun a o e1 z => by
  obtain ⟨rfl, rfl⟩ := z
  exact h2 a
theorem rl_seqP {w : M ρ} {y : ρ → M β} {P : ρ → List Slot → Prop} (h : Rl (d1 e) w (ZP P) X) (h2 : ∀ a e', P a e' → Rl (d2 e') (y a) Z X) : Rl (dSeq d1 d2 e) (w.bind y) Z X := rl_b h fun a o e1 z => by
  obtain ⟨rfl, z⟩ := z
  exact h2 a e1 z
theorem dSeq_nx (e : List Slot) : dSeq d1 dNx e = d1 e := by
  unfold dSeq
  cases h : d1 e with
  | ok f e1 => cases f <;> rfl
  | ex n e1 => rfl
  | bad => rfl
theorem rl_last (h : Rl (dSeq d1 dNx e) x Z X) : Rl (d1 e) x Z X := by rw [dSeq_nx] at h; exact h
theorem rl_nx0 (h : Rl (R e) x Z X) : Rl (dSeq dNx R e) x Z X := h
theorem rl_nx {b : β} (h : Z b .nx e) : Rl (dNx e) (.ok b) Z X := ⟨_, _, rfl, h⟩
theorem rl_seqa (h : Rl (dSeq d1 (dSeq d2 R) e) x Z X) : Rl (dSeq (dSeq d1 d2) R e) x Z X := by
  have h0 : dSeq (dSeq d1 d2) R e = dSeq d1 (dSeq d2 R) e := by
    unfold dSeq
    rw [Res.bind_assoc]
    congr 1
    funext f e1
    cases f <;> rfl
  rw [h0]; exact h
theorem rl_ret {k : ρ → Out} {w : M ρ} (E : ρ → List Slot) (h : Rl (da e) w (Zk k E) X) : Rl (dRet da e) w (ZR k) X := by
  unfold dRet
  cases w with
  | ok a => obtain ⟨o, e', h, rfl, rfl⟩ := h; rw [h]; exact ⟨_, _, rfl, rfl⟩
  | ex n => obtain ⟨e', h, z⟩ := h; rw [h]; exact ⟨e', rfl, z⟩
  | bad => trivial
theorem rl_retG {k : ρ → Out} {w : M ρ} {E : ρ → List Slot} {g : ρ → β} (h : Rl (da e) w (Zk k E) X) (hz : ∀ a, Z (g a) (.rt (k a)) (E a)) : Rl (dRet da e) (w.bind fun a => .ok (g a)) Z X := by
  unfold dRet
  exact rl_bk h fun a => rl_ok (hz a)
theorem rl_rts (h : Rl (dRet da e) x Z X) : Rl (dSeq (dRet da) R e) x Z X := by
  have h0 : dSeq (dRet da) R e = dRet da e := by
    unfold dSeq dRet
    rw [Res.bind_assoc]
    rfl
  rw [h0]; exact h
theorem rl_raises {c : Nat} (h : X ⟨c, []⟩ e) : Rl (dSeq (dRaise c) R e) (.ex ⟨c, []⟩) Z X := ⟨e, rfl, h⟩
theorem u_set (h : Rl ((da e).bind fun o e1 => setSlot i o.slot e1) x Z X) : Rl (dSet i da e) x Z X := h
theorem rl_setS {a : ρ} {sl : Slot} {E : ρ → List Slot} (h : setSlot i sl e = .ok .nx (E a)) : Rl (setSlot i sl e) (.ok a) (ZE E) X := ⟨_, _, h, rfl, rfl⟩
theorem u_drop (h : Rl ((da e).bind fun _ e1 => .ok .nx e1) x Z X) : Rl (dDrop da e) x Z X := h
theorem rl_e {a : ρ} {E : ρ → List Slot} (h : e = E a := by rfl) : Rl (.ok .nx e) (.ok a) (ZE E) X := ⟨_, _, rfl, rfl, h⟩
theorem u_asg {g : DG} (h : Rl ((da e).bind fun o e1 => onNx (g o.t e1) fun e2 => .ok .nx e2) x Z X) : Rl (dAsg da g e) x Z X := h
theorem rl_onNx {r : Res Fl} {k : List Slot → Res Fl} (h : r = .ok .nx e1) (K : Rl (k e1) x Z X) : Rl (onNx r k) x Z X := by rw [h]; exact K
theorem u_par {is : List Nat} (h : Rl ((dA e).bind fun ts e1 => if Nat.beq ts.length is.length = true then dPar.parE is ts e1 else .bad) x Z X) : Rl (dPar is dA e) x Z X := h
theorem rl_par {a : ρ} {b : Bool} {is : List Nat} {ts : List T} {E : ρ → List Slot} (h : dPar.parE is ts e = .ok .nx (E a)) (hb : b = true := by rfl) : Rl (if b = true then dPar.parE is ts e else .bad) (.ok a) (ZE E) X := by subst hb; exact ⟨_, _, h, rfl, rfl⟩
theorem par_cons {t : T} {is : List Nat} {ts : List T} (h : setSlot i (.sh t) e = .ok .nx e1) (h2 : dPar.parE is ts e1 = .ok .nx e2) : dPar.parE (i :: is) (t :: ts) e = .ok .nx e2 := by
  show onNx (setSlot i (.sh t) e) (fun e1 => dPar.parE is ts e1) = _
  rw [h]; exact h2
theorem par_nil : dPar.parE [] [] e = .ok .nx e := rfl
theorem gN_ok {t : T} {s0 : Slot} (h : e[i]? = some s0) (hp : s0.pk = none) : gN i t e = .ok .nx (e.set i (.sh t)) := r_store h hp
theorem gT_ok {t : T} {n : Nat} {gs : DGs} {ts : List T} (ht : t = .tup ts) (h : gs ts e = .ok .nx e1) (hn : Nat.beq ts.length n = true := by rfl) : gT n gs t e = .ok .nx e1 := by
  subst ht
  show (if Nat.beq ts.length n = true then gs ts e else .bad) = _
  rw [if_pos hn]; exact h
theorem gsn_ok : gsNil [] e = .ok .nx e := rfl
theorem gsc_ok {g : DG} {gs : DGs} {t : T} {ts : List T} (h : g t e = .ok .nx e1) (h2 : gs ts e1 = .ok .nx e2) : gsCons g gs (t :: ts) e = .ok .nx e2 := by
  show onNx (g t e) (fun e1 => gs ts e1) = _
  rw [h]; exact h2
theorem u_ifS (h : Rl ((c1 e).bind fun b e1 => if b = true then d1 e1 else d2 e1) x Z X) : Rl (dIfS c1 d1 d2 e) x Z X := h
theorem u_ifR (h : Rl ((c1 e).bind fun b e1 => if b = true then dSeq d1 R e1 else dSeq d2 R e1) x Z X) : Rl (dSeq (dIfS c1 d1 d2) R e) x Z X := by
  have h0 : dSeq (dIfS c1 d1 d2) R e = (c1 e).bind fun b e1 => if b = true then dSeq d1 R e1 else dSeq d2 R e1 := by
    unfold dIfS
    unfold dSeq
    rw [Res.bind_assoc]
    congr 1
    funext b e1
    cases b <;> rfl
  rw [h0]; exact h
theorem u_app {p : Bool} {ts : List T} (h0 : e[i]? = some (.ol p ts)) (h : Rl ((da e).bind fun o e1 => onOl i e1 fun p ts => if fits (ts.length + 1) = true then .ok .nx (e1.set i (.ol p (ts ++ [o.t]))) else .bad) x Z X) : Rl (dApp i da e) x Z X := by
  unfold dApp onOl
  rw [h0]
  exact h
theorem rl_app {p : Bool} {xs : List α} {v : α} {t : T} {f : α → T} {r : List α → β} (h0 : e[i]? = some (.ol p (xs.map f))) (ht : t = f v) (hz : ∀ zs, Z (r zs) .nx (e.set i (.ol p (zs.map f)))) : Rl (onOl i e fun p ts => if fits (ts.length + 1) = true then .ok .nx (e.set i (.ol p (ts ++ [t]))) else .bad) ((appM xs v).bind fun zs => .ok (r zs)) Z X := by
  subst ht
  unfold onOl
  rw [h0]
  show Rl (if fits ((xs.map f).length + 1) = true then Res.ok Fl.nx (e.set i (.ol p (xs.map f ++ [f v]))) else .bad) _ Z X
  rw [List.length_map]
  unfold appM
  by_cases hf : fits (xs.length + 1) = true
  · rw [if_pos hf, if_pos hf]
    have := hz (xs ++ [v])
    rw [List.map_append] at this
    exact ⟨_, _, rfl, this⟩
  · rw [if_neg hf, if_neg hf]; trivial
theorem u_setI (h : Rl ((da e).bind fun o e1 => onOl i e1 fun _ _ => (db e1).bind fun b e2 => onOl i e2 fun p ts => putOl i p e2 (setAt ts b.t o.t)) x Z X) : Rl (dSetI i db da e) x Z X := h
theorem rl_onOl {p : Bool} {ts : List T} {k : Bool → List T → Res Fl} (h0 : e[i]? = some (.ol p ts)) (K : Rl (k p ts) x Z X) : Rl (onOl i e k) x Z X := by unfold onOl; rw [h0]; exact K
theorem rl_put {p : Bool} {xs : List α} {v : α} {j : Int} {t u : T} {f : α → T} {r : List α → β} (h0 : e[i]? = some (.ol p (xs.map f))) (ht : t = f v) (hu : u = .int j) (hz : ∀ zs, Z (r zs) .nx (e.set i (.ol p (zs.map f)))) : Rl (onOl i e fun p ts => putOl i p e (setAt ts u t)) ((setM xs j v).bind fun zs => .ok (r zs)) Z X := by
  subst ht hu
  unfold onOl
  rw [h0]
  show Rl (putOl i p e (setAt (xs.map f) (.int j) (f v))) _ Z X
  rw [op_setAt]
  unfold setM
  cases ixN xs.length j with
  | none => trivial
  | some n => exact ⟨_, _, rfl, hz _⟩
def setFr (i : Nat) (fi : Nat → Option Nat) (t : T) (e : List Slot) : Res Fl := match e[i]? with
  | some (.oi c ts) => match fi c with
    | some k => if Nat.beq ts.length k && decide (k < 900) then .ok .nx (e.set i (.oi c (ts ++ [t]))) else .bad
    | none => .bad
  | _ => .bad
theorem u_setF {fi : Nat → Option Nat} (h : Rl ((da e).bind fun o e1 => setFr i fi o.t e1) x Z X) : Rl (dSetF i fi da e) x Z X := h
theorem rl_setF {fi : Nat → Option Nat} {c k : Nat} {ts : List T} {t : T} {a : ρ} {E : ρ → List Slot} (h0 : e[i]? = some (.oi c ts)) (hf : fi c = some k) (hb : (Nat.beq ts.length k && decide (k < 900)) = true) (hE : e.set i (.oi c (ts ++ [t])) = E a) : Rl (setFr i fi t e) (.ok a) (ZE E) X := by
  unfold setFr
  rw [h0]
  show Rl (match fi c with | some k => if (Nat.beq ts.length k && decide (k < 900)) = true then Res.ok Fl.nx (e.set i (.oi c (ts ++ [t]))) else .bad | none => .bad) _ _ _
  rw [hf]
  show Rl (if (Nat.beq ts.length k && decide (k < 900)) = true then Res.ok Fl.nx (e.set i (.oi c (ts ++ [t]))) else .bad) _ _ _
  rw [if_pos hb]
  exact ⟨_, _, rfl, rfl, hE⟩
theorem u_for {di : DI} {g : DG} (h : Rl ((di e).bind fun ts e1 => forL g d1 ts e1) x Z X) : Rl (dFor di g d1 e) x Z X := h
theorem rl_forL {g : DG} {f : α → T} {step : σ → α → M σ} {P : σ → List Slot → Prop} (hs : ∀ s a e', P s e' → ∃ e2, g (f a) e' = .ok .nx e2 ∧ Rl (d1 e2) (step s a) (ZL P) X) : ∀ (xs : List α) (s0 : σ) (e : List Slot), P s0 e → Rl (forL g d1 (xs.map f) e) (foldM step xs s0) (ZP P) X
  | [], s0, e, h0 => ⟨.nx, e, rfl, rfl, h0⟩
  | a :: as, s0, e, h0 => by
    obtain ⟨e2, h1, h2⟩ := hs s0 a e h0
    have h3 : forL g d1 ((a :: as).map f) e = dLoop d1 (forL g d1 (as.map f)) e2 := by
      show onNx (g (f a) e) (dLoop d1 (forL g d1 (as.map f))) = _
      rw [h1]; rfl
    rw [h3]
    show Rl (Res.bind (d1 e2) _) ((step s0 a).bind (foldM step as)) (ZP P) X
    refine rl_b h2 fun s fl e3 z => ?_
    obtain ⟨z1, z2⟩ := z
    rcases z1 with rfl | rfl
    · exact rl_forL hs as s e3 z2
    · exact rl_forL hs as s e3 z2
theorem rl_forF {g : DG} {f : α → T} {step : σ → α → M (F σ ρ)} {P : σ → List Slot → Prop} {k : ρ → Out} (hs : ∀ s a e', P s e' → ∃ e2, g (f a) e' = .ok .nx e2 ∧ Rl (d1 e2) (step s a) (ZF P k) X) : ∀ (xs : List α) (s0 : σ) (e : List Slot), P s0 e → Rl (forL g d1 (xs.map f) e) (foldF step xs s0) (ZG P k) X
  | [], s0, e, h0 => ⟨.nx, e, rfl, rfl, h0⟩
  | a :: as, s0, e, h0 => by
    obtain ⟨e2, h1, h2⟩ := hs s0 a e h0
    have h3 : forL g d1 ((a :: as).map f) e = dLoop d1 (forL g d1 (as.map f)) e2 := by
      show onNx (g (f a) e) (dLoop d1 (forL g d1 (as.map f))) = _
      rw [h1]; rfl
    rw [h3]
    show Rl (Res.bind (d1 e2) _) (M.bind (step s0 a) _) (ZG P k) X
    refine rl_b h2 fun s fl e3 z => ?_
    cases s with
    | nx s =>
      obtain ⟨z1, z2⟩ := z
      rcases z1 with rfl | rfl
      · exact rl_forF hs as s e3 z2
      · exact rl_forF hs as s e3 z2
    | bk s =>
      obtain ⟨rfl, z2⟩ := z
      exact ⟨_, _, rfl, rfl, z2⟩
    | rt v =>
      have z : fl = .rt (k v) := z
      subst z
      exact ⟨_, _, rfl, rfl⟩
theorem rl_goM {τ : Type} {w : M (F σ ρ)} {P : σ → List Slot → Prop} {k : ρ → Out} {g : ρ → τ} {y : σ → M τ} {Z : τ → Fl → List Slot → Prop} (h : Rl (d1 e) w (ZG P k) X) (hr : ∀ v e', Z (g v) (.rt (k v)) e') (h2 : ∀ s e', P s e' → Rl (d2 e') (y s) Z X) : Rl (dSeq d1 d2 e) (goM w g y) Z X := rl_b h fun a o e1 z => by
  cases a with
  | nx s => obtain ⟨rfl, z⟩ := z; exact h2 s e1 z
  | bk s => exact z.elim
  | rt v =>
    have z : o = .rt (k v) := z
    subst z
    exact ⟨_, _, rfl, hr v e1⟩
theorem rl_try {tbl : Nat → Option Bool} {ds : DS} {y : Exn → M β} {Y : XS} (h : Rl (d1 e) x Z Y) (hh : ∀ n e', Y n e' → Rl (ds e') (y n) Z X) (hX : ∀ n e', Y n e' → X n e') : Rl (dTry d1 tbl ds e) (tryM x tbl y) Z X := by
  unfold dTry
  cases x with
  | ok a => obtain ⟨o, e', h, z⟩ := h; rw [h]; exact ⟨_, _, rfl, z⟩
  | ex n =>
    obtain ⟨e', h, z⟩ := h
    rw [h]
    show Rl (catchE tbl ds n e') (match tbl n.c with | some true => (y n).nox | some false => .ex n | none => .bad) Z X
    unfold catchE
    cases tbl n.c with
    | none => trivial
    | some b =>
      cases b with
      | false => exact ⟨_, rfl, hX n e' z⟩
      | true =>
        have h1 := hh n e' z
        show Rl (noEx (ds e')) (y n).nox Z X
        cases hy : y n with
        | ok a => rw [hy] at h1; obtain ⟨o, e2, h1, z⟩ := h1; rw [h1]; exact ⟨_, _, rfl, z⟩
        | ex n => trivial
        | bad => trivial
  | bad => trivial
theorem fn_R {nl : Nat} {ss : List Slot} {k : ρ → Out} {w : M ρ} (h : Rl (d1 e) w (ZR k) XT) (he : ss ++ List.replicate nl .un = e := by rfl) : FnR (fnD nl d1 ss) w k := by
  unfold fnD
  rw [he]
  cases w with
  | ok v => obtain ⟨fl, e', h, rfl⟩ := h; rw [h]; exact ⟨_, rfl⟩
  | ex n => obtain ⟨e', h, _⟩ := h; rw [h]; exact ⟨_, rfl⟩
  | bad => trivial
def ZJ {σ : Type} (j : Nat) (k : ρ → Out) (L : σ → List T) : ρ × σ → Fl → List Slot → Prop := fun v fl e' => fl = .rt (k v.1) ∧ e'[j]? = some (.ol true (L v.2))
theorem fn_L {j nl : Nat} {ss : List Slot} {k : ρ → Out} {L : σ → List T} {w : M (ρ × σ)} (h : Rl (d1 e) w (ZJ j k L) XT) (he : ss ++ List.replicate nl .un = e := by rfl) : FnL j (fnD nl d1 ss) w k L := by
  unfold fnD
  rw [he]
  cases w with
  | ok v => obtain ⟨fl, e', h, rfl, h1⟩ := h; rw [h]; exact ⟨_, rfl, h1⟩
  | ex n => obtain ⟨e', h, _⟩ := h; rw [h]; exact ⟨_, rfl⟩
  | bad => trivial
def ZI (c : Nat) (fs : ρ → List T) : ρ → Fl → List Slot → Prop := fun v fl e' => fl = .nx ∧ e'[0]? = some (.oi c (fs v))
theorem fn_I {c nl : Nat} {ss : List Slot} {fs : ρ → List T} {w : M ρ} (h : Rl (d1 e) w (ZI c fs) XT) (he : ss ++ List.replicate nl .un = e := by rfl) : FnI c (fnD nl d1 ss) w fs := by
  unfold fnD
  rw [he]
  cases w with
  | ok v => obtain ⟨fl, e', h, rfl, h1⟩ := h; rw [h]; exact ⟨_, rfl, h1⟩
  | ex n => obtain ⟨e', h, _⟩ := h; rw [h]; exact ⟨_, rfl⟩
  | bad => trivial
end
end L2.VD

namespace L2.VD
open PySem PySem.Spec PyProof.Rows
section
variable {α β γ : Type} {e : List Slot} {i : Nat}
def absI (i : Int) : Int := if i < 0 then -i else i
def sfz (b : Bool) (f : α → T) (xs : List α) : Slot := match b with
  | true => .sh (eL f xs)
  | false => .ol false (xs.map f)
theorem r_varZ {b : Bool} {f : α → T} {xs : List α} (h : e[i]? = some (sfz b f xs)) : dVar i e = .ok (.sh (eL f xs)) (e.set i (.sh (eL f xs))) := by
  cases b with
  | true =>
    have h : e[i]? = some (.sh (eL f xs)) := h
    rw [r_var h]
    congr 1
    obtain ⟨hi, hx⟩ := List.getElem?_eq_some_iff.mp h
    rw [← hx, List.set_getElem_self]
  | false =>
    have h : e[i]? = some (.ol false (xs.map f)) := h
    exact r_varO h
theorem op_isN {f : α → T} (hf : ∀ a, isN (f a) = false) (o : Option α) : fIsN (eN f o) .non = some (.sh (.bl o.isNone)) := by
  cases o with
  | none => rfl
  | some a => show some (Out.sh (.bl (isN (f a)))) = _; rw [hf]; rfl
theorem rl_itebT {δ : Type} {d1 d2 : Res δ} {κ : δ → List Slot → Res γ} {x : M β} {Z : β → γ → List Slot → Prop} {X : XS} (h : Rl (d1.bind κ) x Z X) : Rl ((if true = true then d1 else d2).bind κ) x Z X := h
theorem rl_itebF {δ : Type} {d1 d2 : Res δ} {κ : δ → List Slot → Res γ} {x : M β} {Z : β → γ → List Slot → Prop} {X : XS} (h : Rl (d2.bind κ) x Z X) : Rl ((if false = true then d1 else d2).bind κ) x Z X := h
theorem u_enum {dA : DA} {κ : List T → List Slot → Res γ} {x : M β} {Z : β → γ → List Slot → Prop} {X : XS} (h : Rl ((dA e).bind fun ts e1 => (Res.of (asEnum ts) e1).bind κ) x Z X) : Rl ((dEnum dA e).bind κ) x Z X := by
  have h0 : (dEnum dA e).bind κ = (dA e).bind fun ts e1 => (Res.of (asEnum ts) e1).bind κ := by
    unfold dEnum; rw [Res.bind_assoc]
  rw [h0]; exact h
def enumN (n : Nat) : List α → List (Int × α)
  | [] => []
  | a :: as => ((n : Int), a) :: enumN (n + 1) as
def enumL (xs : List α) : List (Int × α) := enumN 0 xs
theorem enum_map {f : α → T} : ∀ (n : Nat) (xs : List α), enumT n (xs.map f) = (enumN n xs).map (e2 T.int f)
  | _, [] => rfl
  | n, x :: xs => by
    show T.tup [.int (n : Int), f x] :: enumT (n + 1) (xs.map f) = _
    rw [enum_map (n + 1) xs]; rfl
theorem op_enum {t : T} {f : α → T} {xs : List α} (h : seqT t = some (xs.map f)) : asEnum [t] = some ((enumL xs).map (e2 T.int f)) := by
  show (seqT t).map (enumT 0) = _
  rw [h]
  show some (enumT 0 (xs.map f)) = _
  rw [enum_map]; rfl
end
section
variable {α β σ ρ : Type} {X : XS} {e : List Slot} {d1 : DS}
theorem rl_for1 {g : DG} {f : α → T} {step : σ → α → M σ} {P : σ → List Slot → Prop} {xs : List α} {s0 : σ} (hs : ∀ s a e', P s e' → ∃ e2, g (f a) e' = .ok .nx e2 ∧ Rl (d1 e2) (step s a) (ZL P) X) (h0 : P s0 e) : Rl (forL g d1 (xs.map f) e) (foldM step xs s0) (ZP P) X := rl_forL hs xs s0 e h0
theorem rl_for2 {g : DG} {f : α → T} {step : σ → α → M (F σ ρ)} {P : σ → List Slot → Prop} {k : ρ → Out} {xs : List α} {s0 : σ} (hs : ∀ s a e', P s e' → ∃ e2, g (f a) e' = .ok .nx e2 ∧ Rl (d1 e2) (step s a) (ZF P k) X) (h0 : P s0 e) : Rl (forL g d1 (xs.map f) e) (foldF step xs s0) (ZG P k) X := rl_forF hs xs s0 e h0
end
section
variable {α β γ δ : Type} {x : M β} {Z : β → γ → List Slot → Prop} {X W : XS} {e1 : List Slot} {da : DE} {κ : Out → List Slot → Res γ}
theorem lcL_Z {g : DG} {vs : List Nat} {f : α → T} {w : α → M δ} {kb : δ → T} {k : δ → Out} {Ew : Bool → List Slot} {eg : Bool → α → List Slot} {E : Bool → α → δ → List Slot} (hg : ∀ b a, g (f a) (Ew b) = .ok .nx (eg b a)) (hb : ∀ b a, Rl (da (eg b a)) (w a) (Zk k (E b a)) W) (hk : ∀ r, (k r).t = kb r) (hw : ∀ b a r, wipeE (E b a r) vs = Ew true) : ∀ (xs : List α) (b : Bool) (acc : List T), fits (acc.length + xs.length) = true → OpM (lcL g dYes da vs (xs.map f) acc (Ew b)) (lcR w xs) (fun ys => (acc ++ ys.map kb, Ew (b || !xs.isEmpty)))
  | [], b, acc, _ => by
    show some (acc, Ew b) = some (acc ++ [], Ew (b || false))
    rw [List.append_nil, Bool.or_false]
  | a :: as, b, acc, hf => by
    have h1 : lcL g dYes da vs ((a :: as).map f) acc (Ew b) = match da (eg b a) with | .ok o e3 => if fits (acc.length + 1) then lcL g dYes da vs (as.map f) (acc ++ [o.t]) (wipeE e3 vs) else none | _ => none := by
      show (match g (f a) (Ew b) with | .ok .nx e1 => (match dYes e1 with | .ok true e2 => (match da e2 with | .ok o e3 => if fits (acc.length + 1) then lcL g dYes da vs (as.map f) (acc ++ [o.t]) (wipeE e3 vs) else none | _ => none) | .ok false e2 => lcL g dYes da vs (as.map f) acc (wipeE e2 vs) | _ => none) | _ => none) = _
      rw [hg b a]
      rfl
    rw [h1]
    have hba := hb b a
    show OpM _ (match w a with | .ok r => (match lcR w as with | .ok bs => .ok (r :: bs) | _ => .bad) | _ => .bad) _
    cases hw' : w a with
    | ok r =>
      rw [hw'] at hba
      rw [rl_eq hba]
      show OpM (if fits (acc.length + 1) then lcL g dYes da vs (as.map f) (acc ++ [(k r).t]) (wipeE (E b a r) vs) else none) _ _
      rw [if_pos (fits_dn hf (by rw [List.length_cons]; omega)), hk, hw]
      have ih := lcL_Z hg hb hk hw as true (acc ++ [kb r]) (by rw [List.length_append, List.length_singleton]; rw [List.length_cons] at hf; exact fits_dn hf (by omega))
      cases hr : lcR w as with
      | ok bs =>
        rw [hr] at ih
        have ih : lcL g dYes da vs (as.map f) (acc ++ [kb r]) (Ew true) = some (acc ++ [kb r] ++ bs.map kb, Ew (true || !as.isEmpty)) := ih
        rw [ih]
        show some (acc ++ [kb r] ++ bs.map kb, Ew true) = some (acc ++ (kb r :: bs.map kb), Ew (b || true))
        rw [List.append_assoc, Bool.or_true]
        rfl
      | ex n => trivial
      | bad => trivial
    | ex n => trivial
    | bad => trivial
theorem rl_lcZ {g : DG} {vs : List Nat} {xs : List α} {f : α → T} {w : α → M δ} {kb : δ → T} {k : δ → Out} {y : List δ → M β} (Ew : Bool → List Slot) (eg : Bool → α → List Slot) (E : Bool → α → δ → List Slot) (E' : Bool → List Slot) (hg : ∀ b a, g (f a) (Ew b) = .ok .nx (eg b a)) (hb : ∀ b a, Rl (da (eg b a)) (w a) (Zk k (E b a)) XT) (K : ∀ ys, Rl (κ (.fr (ys.map kb)) (E' (!xs.isEmpty))) (y ys) Z X)
    (hw : wipeE e1 vs = Ew false := by rfl) (hwe : ∀ b a r, wipeE (E b a r) vs = Ew true := by exact fun _ _ _ => rfl) (hk : ∀ r, (k r).t = kb r := by exact fun _ => rfl) (hbk : ∀ b, backE e1 (Ew b) vs = E' b := by exact fun _ => rfl) : Rl ((endLc e1 vs (lcL g dYes da vs (xs.map f) [] (wipeE e1 vs))).bind κ) ((lcM xs w).bind y) Z X := by
  rw [hw]
  unfold lcM
  by_cases hf : fits xs.length = true
  · rw [if_pos hf]
    have h := lcL_Z hg hb hk hwe xs false [] (by rw [List.length_nil, Nat.zero_add]; exact hf)
    cases hr : lcR w xs with
    | ok ys =>
      rw [hr] at h
      have h : lcL g dYes da vs (xs.map f) [] (Ew false) = some ([] ++ ys.map kb, Ew (false || !xs.isEmpty)) := h
      rw [h, List.nil_append, Bool.false_or]
      show Rl (κ (.fr (ys.map kb)) (backE e1 (Ew (!xs.isEmpty)) vs)) (y ys) Z X
      rw [hbk]
      exact K ys
    | ex n => exact absurd hr (lcR_nx n xs)
    | bad => trivial
  · rw [if_neg hf]; trivial
end
end L2.VD

namespace L2.VD
open PySem PySem.Spec PyProof.Rows
section
variable {α β γ δ ρ : Type} {x : M β} {X : XS} {e e1 e2 : List Slot} {da : DE} {i k : Nat} {y : ρ → M β}
def setLM (xs : List (List α)) (i j : Int) (v : α) : M (List (List α)) := M.of ((ixN xs.length i).bind fun m => (xs[m]?).bind fun ys => (ixN ys.length j).map fun l => xs.set m (ys.set l v))
end
end L2.VD
namespace L2.VD
open PySem PySem.Spec PyProof.Rows
end L2.VD

namespace L2.VD
open PySem PySem.Spec PyProof.Rows
end L2.VD

namespace L2.VD
open PySem PySem.Spec PyProof.Rows PySem.W
class AlE {α : Type} (n : outParam Nat) (f : α → T) : Prop where
  sh : ∀ a, (f a).p.canLay0 = true ∧ (f a).p.depth ≤ n
  al : ∀ a b, alike (f a).p (f b).p = true
class SoE {α : Type} (f : α → T) (ok : outParam (α → Bool)) : Prop where
  so : (∀ a, ok a = true → ∃ x r, (f a).p = .tuple (x :: r)) ∨ ∀ a, (f a).p ≠ .none ∧ ∀ xs, (f a).p ≠ .tuple xs
section
variable {α β γ δ : Type}
theorem alikeAll_map {f : α → T} (h : ∀ a b, alike (f a).p (f b).p = true) : ∀ xs ys : List α, alikeAll (T.ps (xs.map f)) (T.ps (ys.map f)) = true
  | [], ys => by
    cases ys <;> (show alikeAll [] _ = true) <;> rw [alikeAll]
  | x :: xs, [] => by
    show alikeAll ((f x).p :: T.ps (xs.map f)) [] = true
    rw [alikeAll]
  | x :: xs, y :: ys => by
    show alikeAll ((f x).p :: T.ps (xs.map f)) ((f y).p :: T.ps (ys.map f)) = true
    rw [alikeAll, h x y, alikeAll_map h xs ys]; rfl
instance ale_int : AlE 0 T.int where
  sh _ := ⟨rfl, Nat.le_refl _⟩
  al a b := by show alike (.int a) (.int b) = true; rw [alike]
instance ale_T {f : α → T} {n : Nat} [h : AlE n f] : AlE (n + 1) (eT f) where
  sh xs := ⟨layAll_map (fun a => (h.sh a).1) xs, Nat.succ_le_succ (depthAll_map (fun a => (h.sh a).2) xs)⟩
  al xs ys := by
    show alike (.tuple (T.ps (xs.map f))) (.tuple (T.ps (ys.map f))) = true
    rw [alike]; exact alikeAll_map h.al xs ys
instance ale_L {f : α → T} {n : Nat} [h : AlE n f] : AlE (n + 1) (eL f) where
  sh xs := ⟨layAll_map (fun a => (h.sh a).1) xs, Nat.succ_le_succ (depthAll_map (fun a => (h.sh a).2) xs)⟩
  al xs ys := by
    show alike (.list (T.ps (xs.map f))) (.list (T.ps (ys.map f))) = true
    rw [alike]; exact alikeAll_map h.al xs ys
instance ale_2 {f : α → T} {g : β → T} {n m : Nat} [h : AlE n f] [h' : AlE m g] : AlE (max n m + 1) (e2 f g) where
  sh p := by
    constructor
    · show (PyData.canLay0 (f p.1).p && (PyData.canLay0 (g p.2).p && true)) = true
      rw [(h.sh _).1, (h'.sh _).1]; rfl
    · show max (PyData.depth (f p.1).p) (max (PyData.depth (g p.2).p) 0) + 1 ≤ max n m + 1
      have := (h.sh p.1).2
      have := (h'.sh p.2).2
      omega
  al p q := by
    show alike (.tuple [(f p.1).p, (g p.2).p]) (.tuple [(f q.1).p, (g q.2).p]) = true
    rw [alike, alikeAll, alikeAll, h.al, h'.al]; rfl
instance soe_int : SoE T.int (fun _ => true) where
  so := .inr fun a => ⟨(fun z => nomatch z), (fun xs z => nomatch z)⟩
instance soe_str : SoE T.str (fun _ => true) where
  so := .inr fun a => ⟨(fun z => nomatch z), (fun xs z => nomatch z)⟩
instance soe_T {f : α → T} : SoE (eT f) (fun xs => !xs.isEmpty) where
  so := .inl fun xs h => by
    cases xs with
    | nil => exact nomatch h
    | cons x xs => exact ⟨(f x).p, T.ps (xs.map f), rfl⟩
instance soe_L {f : α → T} : SoE (eL f) (fun _ => true) where
  so := .inr fun a => ⟨(fun z => nomatch z), (fun xs z => nomatch z)⟩
instance soe_2 {f : α → T} {g : β → T} : SoE (e2 f g) (fun _ => true) where
  so := .inl fun p _ => ⟨(f p.1).p, [(g p.2).p], rfl⟩
end

end L2.VD

namespace L2.VD
open PySem PySem.Spec PyProof.Rows
section
variable {α β : Type}
@[irreducible] def repTM (xs : List α) (j : Int) : M (List α) := if j = 1 then .ok xs else if decide (xs.length ≠ 0) && decide (2 ≤ j) && decide (j ≤ 1000) && Nat.ble xs.length 1000 then .ok ((List.replicate j.toNat xs).flatten) else .bad
theorem op_repT {f : α → T} {xs : List α} {j : Int} : OpM (fMulT (eT f xs) (.int j)) (repTM xs j) (fun zs => .sh (eT f zs)) := by
  unfold repTM
  by_cases h1 : j = 1
  · subst h1
    rw [if_pos rfl]
    rfl
  · rw [if_neg h1]
    have h0 : fMulT (eT f xs) (.int j) = if decide (xs.map f ≠ []) && decide (2 ≤ j) && decide (j ≤ 1000) && Nat.ble (xs.map f).length 1000 then some (.sh (.tup (rep j.toNat (xs.map f)))) else none := by
      show (match T.tup (xs.map f), T.int j with
        | .tup a, .int 1 => some (Out.sh (.tup a))
        | t, u => fMul t u) = _
      split
      · rename_i a h2 h3
        cases h3
        exact absurd rfl h1
      · rename_i h2
        rfl
    rw [h0, List.length_map]
    have h2 : decide (xs.map f ≠ []) = decide (xs.length ≠ 0) := by
      cases xs <;> simp
    rw [h2]
    by_cases h3 : (decide (xs.length ≠ 0) && decide (2 ≤ j) && decide (j ≤ 1000) && Nat.ble xs.length 1000) = true
    · rw [if_pos h3, if_pos h3]
      show some (Out.sh (T.tup (rep j.toNat (xs.map f)))) = some (Out.sh (T.tup (List.map f (List.replicate j.toNat xs).flatten)))
      unfold rep
      rw [List.map_flatten, List.map_replicate]
    · rw [if_neg h3, if_neg h3]; trivial
class NoN (f : α → T) : Prop where
  nn : ∀ a, isN (f a) = false
  l : ∀ a, PyData.eqv .none (f a).p = false
  r : ∀ a, PyData.eqv (f a).p .none = false
instance non_2 {f : α → T} {g : β → T} : NoN (e2 f g) where
  nn _ := rfl
  l a := by show PyData.eqv .none (.tuple _) = false; simp [PyData.eqv]
  r a := by show PyData.eqv (.tuple _) .none = false; simp [PyData.eqv]
instance non_T {f : α → T} : NoN (eT f) where
  nn _ := rfl
  l a := by show PyData.eqv .none (.tuple _) = false; simp [PyData.eqv]
  r a := by show PyData.eqv (.tuple _) .none = false; simp [PyData.eqv]
instance eqe_N [DecidableEq α] {f : α → T} {n : Nat} [h : EqE n f] [h' : NoN f] : EqE n (eN f) where
  sh a := by
    cases a with
    | none => exact ⟨rfl, Nat.zero_le _⟩
    | some a => exact h.sh a
  eq a b := by
    cases a with
    | none =>
      cases b with
      | none => show PyData.eqv .none .none = _; simp [PyData.eqv]
      | some b => show PyData.eqv .none (f b).p = _; rw [h'.l]; simp
    | some a =>
      cases b with
      | none => show PyData.eqv (f a).p .none = _; rw [h'.r]; simp
      | some b => show PyData.eqv (f a).p (f b).p = _; rw [h.eq]; simp
end
end L2.VD

namespace L2.VD
open PySem PySem.Spec PyProof.Rows
section
variable {α β γ δ ε : Type}
variable {x : M β} {Z : β → γ → List Slot → Prop} {X : XS} {e e1 e2 : List Slot} {da : DE} {κ : Out → List Slot → Res γ}
end
end L2.VD

namespace L2.VD
open PySem PySem.Spec PyProof.Rows
end L2.VD

namespace L2.VD
open PySem PySem.Spec PyProof.Rows
end L2.VD

namespace L2.VD
open PySem PySem.Spec PyProof.Rows
class KeyN {α : Type} (n : outParam Nat) (f : α → T) : Prop where
  ok : ∀ a, kokT n (f a) = true
  inj : ∀ a b, nkT (f a) = nkT (f b) → a = b
class KeyE {α : Type} (f : α → T) : Prop where
  ok : ∀ a, kOk (f a) = true
  inj : ∀ a b, nkT (f a) = nkT (f b) → a = b
section
variable {α β : Type}
instance keyn_int : KeyN 0 T.int where
  ok _ := rfl
  inj a b h := by
    have h : NestedKey.num a = NestedKey.num b := h
    cases h; rfl
theorem koks_map {f : α → T} {n : Nat} (h : ∀ a, kokT n (f a) = true) : ∀ xs : List α, kokTs n (xs.map f) = true
  | [] => by simp [kokTs]
  | x :: xs => by
    rw [List.map_cons, kokTs, h x, koks_map h xs]; rfl
theorem nks_inj {f : α → T} (h : ∀ a b, nkT (f a) = nkT (f b) → a = b) : ∀ xs ys : List α, nkTs (xs.map f) = nkTs (ys.map f) → xs = ys
  | [], [], _ => rfl
  | [], _ :: _, e => by simp [nkTs] at e
  | _ :: _, [], e => by simp [nkTs] at e
  | x :: xs, y :: ys, e => by
    simp only [List.map_cons, nkTs, List.cons.injEq] at e
    rw [h x y e.1, nks_inj h xs ys e.2]
instance keyn_T {f : α → T} {n : Nat} [h : KeyN n f] : KeyN (n + 1) (eT f) where
  ok xs := by
    show kokT (n + 1) (.tup (xs.map f)) = true
    rw [kokT]; exact koks_map h.ok xs
  inj xs ys e := by
    have e : NestedKey.tup (nkTs (xs.map f)) = NestedKey.tup (nkTs (ys.map f)) := by simpa [eT, nkT] using e
    injection e with e
    exact nks_inj h.inj xs ys e
theorem kok_mono : ∀ {n m : Nat} (t : T), n ≤ m → kokT n t = true → kokT m t = true := by
  have go : ∀ (m n : Nat), n ≤ m → (∀ t, kokT n t = true → kokT m t = true) ∧ (∀ ts, kokTs n ts = true → kokTs m ts = true) := by
    intro m
    induction m with
    | zero => intro n hn; obtain rfl : n = 0 := by omega
              exact ⟨fun _ h => h, fun _ h => h⟩
    | succ m ih =>
      intro n hn
      have one : ∀ t, kokT n t = true → kokT (m + 1) t = true := by
        intro t h
        cases t with
        | int i => rfl
        | tup ts =>
          cases n with
          | zero => simp [kokT] at h
          | succ n =>
            have h : kokTs n ts = true := by simpa [kokT] using h
            rw [kokT]
            exact (ih n (by omega)).2 ts h
        | non => cases n <;> simp [kokT] at h
        | bl _ => cases n <;> simp [kokT] at h
        | str _ => cases n <;> simp [kokT] at h
        | lst _ => cases n <;> simp [kokT] at h
        | sq _ => cases n <;> simp [kokT] at h
        | obj _ _ => cases n <;> simp [kokT] at h
      refine ⟨one, fun ts => ?_⟩
      induction ts with
      | nil => intro _; simp [kokTs]
      | cons t ts ih2 =>
        intro h
        rw [kokTs, Bool.and_eq_true] at h
        rw [kokTs, one t h.1, ih2 h.2]; rfl
  exact fun {n m} t hn h => (go m n hn).1 t h
theorem koks_mono {n m : Nat} (hn : n ≤ m) : ∀ ts, kokTs n ts = true → kokTs m ts = true
  | [], _ => by simp [kokTs]
  | t :: ts, h => by
    rw [kokTs, Bool.and_eq_true] at h
    rw [kokTs, kok_mono t hn h.1, koks_mono hn ts h.2]; rfl
instance keye_T {f : α → T} [h : KeyN 0 f] : KeyE (eT f) where
  ok xs := koks_mono (by decide) _ (koks_map h.ok xs)
  inj := (keyn_T (f := f) (n := 0)).inj
instance keye_TT {f : α → T} [h : KeyN 0 f] : KeyE (eT (eT f)) where
  ok xs := koks_mono (n := 1) (by decide) _ (koks_map (keyn_T (f := f) (n := 0)).ok xs)
  inj := (keyn_T (f := eT f) (n := 1)).inj
end
end L2.VD

namespace L2.VD
open PySem PySem.Spec PyProof.Rows
section
variable {α β γ σ ρ : Type} {e : List Slot} {Z : β → Fl → List Slot → Prop} {X Y : XS} {d1 : DS} {x : M β} {i : Nat} {ds : Exn → DS} {y : Exn → M β}
variable {P : σ → List Slot → Prop} {c0 : Nat} {n : Exn} {db : DE} {wb : M Bool} {E : Bool → List Slot}
end
end L2.VD

namespace L2.VD
open PySem PySem.Spec PyProof.Rows
open AutoSeq1 (wpAny_loadPart')
open MeetsSeq MeetsSeq2 MeetsSeq3 SeqRoads2

mutual
def canT : T → Bool
  | .non => true
  | .bl _ => true
  | .int _ => true
  | .str _ => true
  | .tup ts => canTs ts
  | .lst _ => false
  | .sq _ => false
  | .obj _ _ => false
def canTs : List T → Bool
  | [] => true
  | t :: ts => canT t && canTs ts
end
def SqInj (K : PySem.W.Frag) (G : Hp) : Prop := ∀ a xs ys, SqT K G a xs → SqT K G a ys → xs = ys
section
variable {C : VX} {G : Hp}
mutual
theorem can_inj (j : SqInj C.K G) : ∀ (t u : T) (v : V), canT t = true → canT u = true → Rp C G t v → Rp C G u v → t = u
  | .non, u, v, _, cu, r, r' => by
    have r : v = .non := r
    subst r
    cases u with
    | non => rfl
    | bl b => exact nomatch (show V.non = V.bl b from r')
    | int i => exact nomatch (show V.non = V.int i from r')
    | str z => exact nomatch (show V.non = V.str z from r')
    | tup us => obtain ⟨a, xs, e, _⟩ := r'; exact nomatch e
    | lst us => exact nomatch cu
    | sq us => exact nomatch cu
    | obj d us => exact nomatch cu
  | .bl b, u, v, _, cu, r, r' => by
    have r : v = .bl b := r
    subst r
    cases u with
    | non => exact nomatch (show V.bl b = V.non from r')
    | bl b' => have e : V.bl b = V.bl b' := r'; cases e; rfl
    | int i => exact nomatch (show V.bl b = V.int i from r')
    | str z => exact nomatch (show V.bl b = V.str z from r')
    | tup us => obtain ⟨a, xs, e, _⟩ := r'; exact nomatch e
    | lst us => exact nomatch cu
    | sq us => exact nomatch cu
    | obj d us => exact nomatch cu
  | .int i, u, v, _, cu, r, r' => by
    have r : v = .int i := r
    subst r
    cases u with
    | non => exact nomatch (show V.int i = V.non from r')
    | bl b' => exact nomatch (show V.int i = V.bl b' from r')
    | int i' => have e : V.int i = V.int i' := r'; cases e; rfl
    | str z => exact nomatch (show V.int i = V.str z from r')
    | tup us => obtain ⟨a, xs, e, _⟩ := r'; exact nomatch e
    | lst us => exact nomatch cu
    | sq us => exact nomatch cu
    | obj d us => exact nomatch cu
  | .str x, u, v, _, cu, r, r' => by
    have r : v = .str x := r
    subst r
    cases u with
    | non => exact nomatch (show V.str x = V.non from r')
    | bl b' => exact nomatch (show V.str x = V.bl b' from r')
    | int i' => exact nomatch (show V.str x = V.int i' from r')
    | str z => have e : V.str x = V.str z := r'; cases e; rfl
    | tup us => obtain ⟨a, xs, e, _⟩ := r'; exact nomatch e
    | lst us => exact nomatch cu
    | sq us => exact nomatch cu
    | obj d us => exact nomatch cu
  | .tup ts, u, v, ct, cu, r, r' => by
    obtain ⟨a, xs, rfl, h1, h2⟩ := r
    cases u with
    | non => exact nomatch (show V.ref a = V.non from r')
    | bl b' => exact nomatch (show V.ref a = V.bl b' from r')
    | int i' => exact nomatch (show V.ref a = V.int i' from r')
    | str z => exact nomatch (show V.ref a = V.str z from r')
    | tup us =>
      obtain ⟨a', xs', e, h1', h2'⟩ := r'
      cases e
      have e := j _ _ _ h1 h1'
      subst e
      rw [can_injs j ts us xs ct cu h2 h2']
    | lst us => exact nomatch cu
    | sq us => exact nomatch cu
    | obj d us => exact nomatch cu
  | .lst _, _, _, ct, _, _, _ => nomatch ct
  | .sq _, _, _, ct, _, _, _ => nomatch ct
  | .obj _ _, _, _, ct, _, _, _ => nomatch ct
theorem can_injs (j : SqInj C.K G) : ∀ (ts us : List T) (xs : List V), canTs ts = true → canTs us = true → Rps C G ts xs → Rps C G us xs → ts = us
  | [], [], _, _, _, _, _ => rfl
  | [], u :: us, xs, _, _, r, r' => by
    have r : xs = [] := r
    obtain ⟨x, q, e, _⟩ := r'
    rw [r] at e; exact nomatch e
  | t :: ts, [], xs, _, _, r, r' => by
    have r' : xs = [] := r'
    obtain ⟨x, q, e, _⟩ := r
    rw [r'] at e; exact nomatch e
  | t :: ts, u :: us, xs, ct, cu, r, r' => by
    obtain ⟨x, q, rfl, r1, r2⟩ := r
    obtain ⟨x', q', e, r1', r2'⟩ := r'
    cases e
    have ct := Bool.and_eq_true_iff.mp (show (canT t && canTs ts) = true from ct)
    have cu := Bool.and_eq_true_iff.mp (show (canT u && canTs us) = true from cu)
    rw [can_inj j t u x ct.1 cu.1 r1 r1', can_injs j ts us q ct.2 cu.2 r2 r2']
end
end

section
variable {X : Cx} {C : VX} {W : WX} {tbl : Nat → Option DF}
variable {a b : Expr} {da db : DE} {pos : Pos}
end
end L2.VD

namespace L2.VD
open PySem PySem.Spec PyProof.Rows

class CanE (f : α → T) : Prop where
  can : ∀ a, canT (f a) = true
theorem canTs_map {f : α → T} [h : CanE f] (xs : List α) : canTs (xs.map f) = true := by
  induction xs with
  | nil => rfl
  | cons x r ih => show (canT (f x) && canTs (r.map f)) = true; rw [h.can, ih]; rfl
instance can_int : CanE T.int := ⟨fun _ => rfl⟩
instance can_bl : CanE T.bl := ⟨fun _ => rfl⟩
instance can_T {f : α → T} [h : CanE f] : CanE (eT f) := ⟨fun xs => canTs_map xs⟩
instance can_2 {f : α → T} {g : β → T} [h : CanE f] [h' : CanE g] : CanE (e2 f g) := ⟨fun p => by show (canT (f p.1) && (canT (g p.2) && true)) = true; rw [h.can, h'.can]; rfl⟩
class ObE (c : outParam Nat) (f : α → T) : Prop where
  ob : ∀ a, ∃ ts, f a = .obj c ts ∧ canTs ts = true
instance ob_1 {c : Nat} {f : α → T} [h : CanE f] : ObE c (o1 c f) := ⟨fun p => ⟨[f p], rfl, by show (canT (f p) && true) = true; rw [h.can]; rfl⟩⟩
instance ob_2 {c : Nat} {f : α → T} {g : β → T} [h : CanE f] [h' : CanE g] : ObE c (o2 c f g) := ⟨fun p => ⟨[f p.1, g p.2], rfl, by show (canT (f p.1) && (canT (g p.2) && true)) = true; rw [h.can, h'.can]; rfl⟩⟩

end L2.VD

namespace L2.VD
open PySem PySem.Spec PyProof.Rows
end L2.VD

namespace L2.VD
open PySem PySem.Spec PyProof.Rows
end L2.VD

namespace L2.VD
open PySem PySem.Spec PyProof.Rows
theorem Sl3R.or {X : Cx} {r r' : R2} (h : Sl3R X r) (h' : Sl3R X r') : Sl3R X (fun x y H Q => r x y H Q ∨ r' x y H Q) := fun pins s σ H x y v u sl Q I rx ry hs q => q.elim (h pins s σ H x y v u sl Q I rx ry hs) (h' pins s σ H x y v u sl Q I rx ry hs)
end L2.VD

namespace L2.VD
open PySem PySem.Spec PyProof.Rows
end L2.VD

namespace L2.VD
open PySem PySem.Spec PyProof.Rows
def StkOk (X : Cx) : Prop := ∃ e l, X.stack = e :: l ∧ e.scope.isGenerator = false ∧ e.scope.isCoroutine = false ∧ e.builtins = builtinsNs ∧ e.globals = mainGlobals
structure BigD (X : Cx) : Prop where
  seer : L2.Mod X.K X.mg X.base → X.base.NoSeer
  tree : X.prog.given.tree = none
  stk : StkOk X
  room : Room 32 X.A
theorem big_room {X : Cx} (h : BigD X) {pins : List (Addr × Obj)} {σ : L2.St} {H : Hp} {s : Shared} (I : Inv X pins σ H s) : PySem.PylongRoom (model X.prog X.w) X.A s := by
  obtain ⟨e, l, hs, g1, g2, g3, g4⟩ := h.stk
  have hf : X.A.frames = some (e :: l) := by rw [I.ok.frames, hs]
  refine PySem.PylongRoom.of I.nolimit ?_ (PySem.SeerAt.of ((h.seer I.ok.mod).keeps I.bk) h.tree hf g1 g2 g3 g4)
  have := h.room.dp
  show X.A.depth + 100 < _
  omega
theorem op_fdivG {X : Cx} (h : BigD X) : OpR X (binaryOp .FloorDiv) (rI (fun _ j => j ≠ 0) fun i j => .int (i.fdiv j)) := by
  intro pins s σ H x y v u Q I rx ry hq
  obtain ⟨i, j, rfl, rfl, hc, q⟩ := hq
  obtain ⟨t, rfl⟩ := rx
  obtain ⟨t', rfl⟩ := ry
  exact floordiv_int hc ⟨.int (i.fdiv j), H, I.tok _, ⟨_, rfl⟩, q⟩ (.inr (big_room h I))
def fDivG : T → T → Option Out
  | .int i, .int j => if decide (j ≠ 0) then some (.sh (.int (i.fdiv j))) else none
  | _, _ => none
section
variable {C : VX}
theorem os_divG : OpS C (rI (fun _ j => j ≠ 0) fun i j => .int (i.fdiv j)) fDivG := by
  refine ⟨fun s x y t u o Q hs rx ry ho q => ?_⟩
  unfold fDivG at ho
  split at ho
  · split at ho
    · rename_i h
      cases ho
      cases rx; cases ry
      exact ⟨_, _, rfl, rfl, of_decide_eq_true h, out_sh hs q rfl⟩
    · cases ho
  · cases ho
end
section
variable {X : Cx} {C : VX} {W : WX} {a b : Expr} {da db : DE} {pos : Pos}
theorem e_divG (h : BigD X) (ha : PE X a (tD C W da)) (hb : PE X b (tD C W db)) : PE X (.BinOp a .FloorDiv b pos) (tD C W (dOp fDivG da db)) := e_op (op_fdivG h) os_divG ha hb
end
end L2.VD

namespace L2.VD
open PySem PySem.Spec PyProof.Rows
@[irreducible] def divGM (i j : Int) : M Int := if decide (j ≠ 0) then .ok (i.fdiv j) else .bad
theorem op_divG {i j : Int} : OpM (fDivG (.int i) (.int j)) (divGM i j) (fun c => .sh (.int c)) := by
  unfold divGM fDivG
  by_cases h : j ≠ 0
  · rw [if_pos (decide_eq_true h)]
    simp only [decide_eq_true h, if_true]
    rfl
  · simp only [decide_eq_false h, if_false, Bool.false_eq_true]
    trivial
theorem divG_ok {i j : Int} (h : j ≠ 0) : divGM i j = .ok (i.fdiv j) := by unfold divGM; rw [if_pos (decide_eq_true h)]
end L2.VD

namespace L2.VD
open PySem PySem.Spec PyProof.Rows
theorem hid_same {g : Heap} {T : Hp} {l : Addr} {ol : Obj} (hl : g.get? l = some ol) (one : ∀ p, T p ≠ none → p = l) {p : Addr} {q : Obj} (hp : g.get? p = some q) (ne : q.data ≠ ol.data) : (hidT g T).get? p = some q := by
  refine hidT_get hp ?_
  rcases h : T p with _ | u
  · rfl
  · have := one p (by rw [h]; exact fun z => nomatch z)
    rw [this, hl] at hp
    exact absurd (congrArg Obj.data (Option.some.inj hp)).symm ne
theorem hid_ns {g : Heap} {T : Hp} {l : Addr} {ol : Obj} (hl : g.get? l = some ol) (hd : ∃ v n, ol.data = .seq v n) (one : ∀ p, T p ≠ none → p = l) {p : Addr} {m : Str → Option Value} (hp : g.Ns p m) : (hidT g T).Ns p m := by
  obtain ⟨q, es, ep, e1, e2, e3⟩ := hp
  obtain ⟨v, n, hd⟩ := hd
  exact ⟨q, es, ep, hid_same hl one e1 (by rw [e2, hd]; exact fun z => nomatch z), e2, e3⟩
theorem hid_seer {g : Heap} {T : Hp} {l : Addr} {ol : Obj} (hl : g.get? l = some ol) (hd : ∃ v n, ol.data = .seq v n) (hc : ol.cls = .type "list") (one : ∀ p, T p ≠ none → p = l) (hs : g.NoSeer) : (hidT g T).NoSeer := by
  obtain ⟨⟨c1, n1, p1, p2⟩, ⟨c2, n2, p3⟩, ⟨c3, n3, p4⟩, ⟨c4, bm, ob, n4, p5, p6, p7, p8⟩⟩ := hs
  refine ⟨⟨c1, hid_ns hl hd one n1, p1, p2⟩, ⟨c2, hid_ns hl hd one n2, p3⟩, ⟨c3, hid_ns hl hd one n3, p4⟩, ⟨c4, bm, ob, hid_ns hl hd one n4, p5, hidT_get p6 ?_, p7, p8⟩⟩
  rcases h : T bm with _ | u
  · rfl
  · have := one bm (by rw [h]; exact fun z => nomatch z)
    rw [this, hl] at p6
    rw [← Option.some.inj p6, hc] at p7
    exact absurd p7 (by decide)
theorem followed {P : Program} {w : World} {K : PySem.W.Frag} {g : Heap} {l : Addr} {us : List Value} {zs : List Int} (hK : K.In g) (hl : g.get? l = some { cls := .type "list", data := .seq us.toArray }) (hz : IntsAre us zs) (hn : zs.length ≤ sizeLine) :
    ∃ T : Hp, Only T ∧ SqL K T l (zs.map V.int) ∧ HOk P w T g ∧ (∀ p, T p ≠ none → p = l) ∧ (T l ≠ none → K.lookup l = none) := by
  have hv := vals_ints hz
  have hs : us.toArray.size ≤ sizeLine := by rw [List.size_toArray, hz.length]; exact hn
  rcases hq : K.lookup l with _ | q
  · refine ⟨fun p => if p = l then some (.frz { cls := .type "list", data := .seq us.toArray } (.lst (zs.map V.int))) else none, fun p => ?_, .inl (.inr ⟨_, if_pos rfl⟩), fun p u hu => ?_, fun p hp => ?_, fun _ => rfl⟩
    · by_cases e : p = l
      · exact .inr ⟨_, _, if_pos e⟩
      · exact .inl (if_neg e)
    · by_cases e : p = l
      · subst e
        cases (if_pos rfl).symm.trans hu
        exact ⟨hl, by rw [List.length_map]; exact hn, us, _, hv, hl⟩
      · exact nomatch (if_neg e).symm.trans hu
    · by_cases e : p = l
      · exact e
      · exact absurd (if_neg e) hp
  · have e := (hK l q hq).symm.trans hl
    cases e
    exact ⟨fun _ => none, fun _ => .inl rfl, .inr ⟨_, us.toArray, _, hq, rfl, rfl, rfl, hs, by simpa using hv⟩, fun _ _ hu => (nomatch hu), fun _ hp => absurd rfl hp, fun hp => absurd rfl hp⟩
theorem call_big {P : Program} {w : World} {K : PySem.W.Frag} {mg mb : Str → Option Value} {CX : CXT} {k : Nat} {fa l : Addr} {fd : FuncData} {x : Str} {sp : Sp} {g : Shared} {us : List Value} {zs : List Int}
    (hK : K.In g.heap) (n1 : g.heap.Ns mainGlobals mg) (n2 : g.heap.Ns builtinsNs mb) (n3 : ∀ y : Str, y ≠ "__name__" → mb y = bootBuiltins y) (n4 : g.heap.NoLimit) (n5 : g.heap.NoSeer) (hg : g.gens = #[])
    (hl : g.heap.get? l = some { cls := .type "list", data := .seq us.toArray }) (hz : IntsAre us zs) (hn : zs.length ≤ sizeLine) (hr : Room k callerA)
    (F : ∀ base : Heap, K.In base → base.Ns mainGlobals mg → base.NoSeer → FnOk P w K mg base CX k fa fd [x] sp) (hb : ∀ (s : Shared) (u : Value), BindsTo s fd ⟨[u], []⟩ [(x, u)])
    (hsp : ∀ T : Hp, Only T → SqL K T l (zs.map V.int) → sp [.ref l] T (fun v _ => v = .bl true) fun _ _ _ => False)
    (hx : ∀ T e s', CX [] T g (fun _ _ _ => False) e s' → False) :
    codeAny (model P w) callerA (.call (.ref fa) ⟨[.ref l], []⟩) (fun r s' => r = .ok (.ret (.bool true)) ∧ OldK g.heap s'.heap ∧ s'.os = g.os ∧ AllBare s'.gens) g := by
  obtain ⟨T, t1, t2, t3, t4, t5⟩ := followed (P := P) (w := w) hK hl hz hn
  have hd : ∃ v n, ({ cls := .type "list", data := .seq us.toArray } : Obj).data = .seq v n := ⟨_, _, rfl⟩
  have b1 : K.In (hidT g.heap T) := fun p q hq => hidT_get (hK p q hq) (by
    rcases h : T p with _ | u
    · rfl
    · have e := t4 p (by rw [h]; exact fun z => nomatch z)
      rw [e] at h hq
      rw [t5 (by rw [h]; exact fun z => nomatch z)] at hq
      exact nomatch hq)
  have b2 := hid_ns hl hd t4 n1
  have b3 := hid_seer hl hd rfl t4 n5
  have b4 : L2.Mod K mg (hidT g.heap T) := by
    obtain ⟨mc, l1, l2⟩ := n4
    exact ⟨b1, b2, ⟨mb, hid_ns hl hd t4 n2, n3⟩, ⟨mc, hid_ns hl hd t4 l1, l2⟩⟩
  have b5 : Env0 P w K mg (hidT g.heap T) callerA [] g T := ⟨rfl, b4, fun _ _ => of_hidT, by rw [hidT_size]; exact Nat.le_refl _, trivial, fun p hp => (nomatch hp), t3, .of_eq hg⟩
  have go := (F _ b1 b2 b3).run callerA [] g T ⟨[.ref l], []⟩ [.ref l] [.ref l] _ _ hr b5 (hb g _) (.cons rfl .nil) (hsp T t1 t2)
  refine codeAny_mono go fun r s' hr' => ?_
  match r, hr' with
  | .error e, hr' => exact (hx T e s' hr').elim
  | .ok (.ret u), hr' =>
    obtain ⟨v, T', o1, o2, o3, o4, o5, o6⟩ := hr'
    have o6 : v = .bl true := o6
    rw [o6] at o5
    have o5 : u = Value.bool true := o5
    refine ⟨by rw [o5], OldK.of_keep fun p q hq => ?_, o1, o2⟩
    rcases t1 p with e | ⟨ob, xs, e⟩
    · exact o3.keep p q hq e (fun z => nomatch z) (fun z => nomatch z)
    · have e' := o3.frzs p ob _ e
      obtain ⟨f1, _⟩ := t3 p _ e
      obtain ⟨f2, _⟩ := o4 p _ e'
      rw [hq] at f1
      cases f1
      exact f2
theorem walk_big {l : PySem.W.OpenLaw} {n k : Nat} {q : Program} {loose : List Str} {XP : (Str → Option Value) → Heap → Prop} {YP : World → Heap → Prop} {d : DefRec} {K : Params → PySem.W.Frag} {CX : World → CXT} {sp : World → Sp} {x : Str}
    (imp : importsNone q = true) (h1 : l.most = some n) (h2 : n ≤ sizeLine) (h3 : d.params.defaults = []) (hr : Room k callerA) (hY : ∀ (w : World) (h : Heap), YP w h → (K w.params).In h)
    (F : ∀ (w : World) (mg : Str → Option Value) (fa : Addr) (h : Heap), (K w.params).In h → h.Ns mainGlobals mg → mg d.name = some (.ref fa) →
      ∃ fd : FuncData, (∀ (s : Shared) (u : Value), BindsTo s fd ⟨[u], []⟩ [(x, u)]) ∧ ∀ base : Heap, (K w.params).In base → base.Ns mainGlobals mg → base.NoSeer → FnOk l.prog w (K w.params) mg base (CX w) k fa fd [x] (sp w))
    (hsp : ∀ (w : World) (T : Hp) (a : Addr) (zs : List Int), zs.length ≤ n → (∀ z ∈ zs, Builtin.Int.intBits z ≤ 1048576) → Only T → SqL (K w.params) T a (zs.map V.int) → sp w [.ref a] T (fun v _ => v = .bl true) fun _ _ _ => False)
    (hx : ∀ (w : World) (T : Hp) (s : Shared) (e : Value) (s' : Shared), CX w [] T s (fun _ _ _ => False) e s' → False) :
    PySem.W.WalkO q loose XP YP l.row.toRowW d [] (fun f vs => PySem.call f vs) := by
  refine Att.attach_callB h1 h3 fun w s0 g mg mb fa o pm cd doc a us zs G Y ho hd hcd hmg hobj hints hlen hbits hg => ?_
  obtain ⟨fd, hb, hF⟩ := F w mg fa _ (hY w _ Y) G.T.g hmg
  exact call_big (hY w _ Y) G.T.g G.T.b G.T.builtins G.T.nolimit (G.T.seer imp) hg hobj hints (Nat.le_trans hlen h2) hr hF hb (fun T t1 t2 => hsp w T a zs hlen hbits t1 t2) fun T e s' => hx w T g e s'
end L2.VD

namespace L2.VD.K02
open PySem PySem.Spec PyProof.Rows
def topS (i : Nat) : Stmt := PySem.Challenge.pw_gridmetric_k02_determinants.main.body.getD i (.Pass ⟨0, 0, 0, 0⟩)
abbrev s_is_integer : Stmt := topS 5
abbrev s_dot : Stmt := topS 6
abbrev s_checked : Stmt := topS 8
abbrev s_determinant : Stmt := topS 9
abbrev s_minor : Stmt := topS 10
abbrev s_Grid_init : Stmt := inClass (topS 11) 0
abbrev s_Grid_len : Stmt := inClass (topS 11) 1
abbrev s_Grid_iter : Stmt := inClass (topS 11) 2
abbrev s_Grid_eq : Stmt := inClass (topS 11) 3
abbrev s_Grid_add : Stmt := inClass (topS 11) 4
abbrev s_Grid_sub : Stmt := inClass (topS 11) 5
abbrev s_Grid_mul : Stmt := inClass (topS 11) 6
abbrev s_Grid_neg : Stmt := inClass (topS 11) 7
abbrev s_Grid_transposed : Stmt := inClass (topS 11) 9
abbrev s_Grid_before : Stmt := inClass (topS 11) 11
abbrev s_Grid_is_square : Stmt := inClass (topS 11) 13
abbrev s_Grid_determinant : Stmt := inClass (topS 11) 14
abbrev s_Grid_adjugate : Stmt := inClass (topS 11) 15
abbrev s_Grid_is_unimodular : Stmt := inClass (topS 11) 16
abbrev s_law_cell : Stmt := topS 13
abbrev s_law_state : Stmt := topS 14
abbrev s_law_take : Stmt := topS 15
abbrev s_law_rows : Stmt := topS 16
abbrev s_law_product : Stmt := topS 17
abbrev s_law_determinant : Stmt := topS 18
abbrev s_law_is_rows : Stmt := topS 19
abbrev s_law_refused : Stmt := topS 20
abbrev s_law : Stmt := topS 21
noncomputable def b_is_integer : DS := (dRet (dAndV (dIsi (tab [(0, false), (1, true), (2, true), (3, false), (4, false), (5, false), (8, false)]) (dVar 0)) (dNotV (dIsi (tab [(0, false), (1, true), (2, false), (3, false), (4, false), (5, false), (8, false)]) (dVar 0)))))
noncomputable def f_is_integer : DF := fnD 0 b_is_integer
noncomputable def b_dot : DS := (dRet (dCB fSum (dCons (dLc (dZip (dCons (dVar 0) (dCons (dVar 1) dNil))) (gT 2 (gsCons (gN 2) (gsCons (gN 3) gsNil))) dYes (dOp fMul (dVar 2) (dVar 3)) [2, 3]) dNil)))
noncomputable def f_dot : DF := fnD 2 b_dot
noncomputable def b_checked : DS := (dSeq (dSet 2 (dLst dNil)) (dSeq (dFor (dItems (dVar 0)) (gN 3) (dSeq (dIfS (dOr (dNot (dTru (dIsi (tab [(0, false), (1, false), (2, false), (3, false), (4, true), (5, true), (8, false)]) (dVar 3)))) (dTst (dOp fNe (dLenN 3) (dVar 1)))) (dRaise 1) dNx) (dSeq (dFor (dItems (dVar 3)) (gN 4) (dIfS (dNot (dTru (dCall 1 f_is_integer [] (cVal (dVar 4) cNil)))) (dRaise 1) dNx)) (dApp 2 (dCB fTuple (dCons (dVar 3) dNil)))))) (dRet (dCB fTuple (dCons (dVar 2) dNil)))))
noncomputable def f_checked : DF := fnD 3 b_checked
noncomputable def b_determinant : DS := (dSeq (dSet 1 (dLc (dItems (dVar 0)) (gN 7) dYes (dCB fList (dCons (dVar 7) dNil)) [7])) (dSeq (dSet 2 (dLenN 1)) (dSeq (dAsg (dTup (dCons (dC (.int 1)) (dCons (dC (.int 1)) dNil))) (gT 2 (gsCons (gN 3) (gsCons (gN 4) gsNil)))) (dSeq (dFor (dRng (dCons (dVar 2) dNil)) (gN 5) (dSeq (dSet 6 (dLc (dRng (dCons (dVar 5) (dCons (dVar 2) dNil))) (gN 9) (dTst (dOp fNe (dIdx (dIdxN 1 (dVar 9)) (dVar 5)) (dC (.int 0)))) (dVar 9) [9])) (dSeq (dIfS (dTst (dOp fEq (dLenN 6) (dC (.int 0)))) (dRet (dC (.int 0))) dNx) (dSeq (dIfS (dTst (dOp fNe (dIdxN 6 (dC (.int 0))) (dVar 5))) (dSeq (dSet 7 (dIdxN 1 (dVar 5))) (dSeq (dSetI 1 (dVar 5) (dIdxN 1 (dIdxN 6 (dC (.int 0))))) (dSeq (dSetI 1 (dIdxN 6 (dC (.int 0))) (dVar 7)) (dSet 3 (dUn fNeg (dVar 3)))))) dNx) (dSeq (dSet 8 (dIdxN 1 (dVar 5))) (dSeq (dFor (dRng (dCons (dOp fAdd (dVar 5) (dC (.int 1))) (dCons (dVar 2) dNil))) (gN 9) (dSeq (dSet 10 (dIdx (dIdxN 1 (dVar 9)) (dVar 5))) (dSetI 1 (dVar 9) (dLc (dZip (dCons (dIdxN 1 (dVar 9)) (dCons (dVar 8) dNil))) (gT 2 (gsCons (gN 11) (gsCons (gN 12) gsNil))) dYes (dOp fDivG (dOp fSub (dOp fMul (dIdxN 8 (dVar 5)) (dVar 11)) (dOp fMul (dVar 10) (dVar 12))) (dVar 4)) [11, 12])))) (dSet 4 (dIdxN 8 (dVar 5))))))))) (dRet (dOp fMul (dVar 3) (dVar 4)))))))
noncomputable def f_determinant : DF := fnD 12 b_determinant
noncomputable def b_minor : DS := (dRet (dLc (dEnum (dCons (dVar 0) dNil)) (gT 2 (gsCons (gN 3) (gsCons (gN 4) gsNil))) (dTst (dOp fNe (dVar 3) (dVar 1))) (dOp fAdd (dSl (dVar 4) dNoPart (dPart (dVar 2))) (dSl (dVar 4) (dPart (dOp fAdd (dVar 2) (dC (.int 1)))) dNoPart)) [3, 4]))
noncomputable def f_minor : DF := fnD 2 b_minor
noncomputable def b_Grid_init : DS := (dSeq (dIfS (dNot (dTru (dIsi (tab [(0, false), (1, false), (2, false), (3, false), (4, true), (5, true), (8, false)]) (dVar 1)))) (dRaise 1) dNx) (dSeq (dIfS (dTst (dOp fIsN (dVar 2) (dC .non))) (dSeq (dSet 2 (dC (.int 0))) (dIfS (dAnd (dTst (dOp fGt (dLenN 1) (dC (.int 0)))) (dTru (dIsi (tab [(0, false), (1, false), (2, false), (3, false), (4, true), (5, true), (8, false)]) (dIdxN 1 (dC (.int 0)))))) (dSet 2 (dCB fLen (dCons (dIdxN 1 (dC (.int 0))) dNil))) dNx)) dNx) (dSeq (dSetF 0 (tab [(2, 0)]) (dCall 2 f_checked [] (cVal (dVar 1) (cVal (dVar 2) cNil)))) (dSetF 0 (tab [(2, 1)]) (dVar 2)))))
noncomputable def f_Grid_init : DF := fnD 0 b_Grid_init
noncomputable def b_Grid_len : DS := (dRet (dCB fLen (dCons (dFld (tab [(2, 0)]) (dVar 0)) dNil)))
noncomputable def f_Grid_len : DF := fnD 0 b_Grid_len
noncomputable def b_Grid_mul : DS := (dSeq (dIfS (dTst (dOp fNe (dFld (tab [(2, 1)]) (dVar 0)) (dCB fLen (dCons (dFld (tab [(2, 0)]) (dVar 1)) dNil)))) (dRaise 1) dNx) (dSeq (dSet 2 (dLc (dRng (dCons (dFld (tab [(2, 1)]) (dVar 1)) dNil)) (gN 3) dYes (dLc (dItems (dFld (tab [(2, 0)]) (dVar 1))) (gN 4) dYes (dIdxN 4 (dVar 3)) [4]) [3])) (dRet (dMake 2 2 3 f_Grid_init [] (dCons (dLc (dItems (dFld (tab [(2, 0)]) (dVar 0))) (gN 4) dYes (dLc (dItems (dVar 2)) (gN 5) dYes (dCall 2 f_dot [] (cVal (dVar 4) (cVal (dVar 5) cNil))) [5]) [4]) (dCons (dFld (tab [(2, 1)]) (dVar 1)) dNil))))))
noncomputable def f_Grid_mul : DF := fnD 4 b_Grid_mul
noncomputable def b_Grid_transposed : DS := (dRet (dMake 2 2 3 f_Grid_init [] (dCons (dLc (dRng (dCons (dFld (tab [(2, 1)]) (dVar 0)) dNil)) (gN 1) dYes (dLc (dItems (dFld (tab [(2, 0)]) (dVar 0))) (gN 2) dYes (dIdxN 2 (dVar 1)) [2]) [1]) (dCons (dCB fLen (dCons (dFld (tab [(2, 0)]) (dVar 0)) dNil)) dNil))))
noncomputable def f_Grid_transposed : DF := fnD 2 b_Grid_transposed
noncomputable def b_Grid_is_square : DS := (dRet (dOp fEq (dCB fLen (dCons (dFld (tab [(2, 0)]) (dVar 0)) dNil)) (dFld (tab [(2, 1)]) (dVar 0))))
noncomputable def f_Grid_is_square : DF := fnD 0 b_Grid_is_square
noncomputable def b_Grid_determinant : DS := (dSeq (dIfS (dNot (dTru (dMeth (tab [(2, ⟨1, f_Grid_is_square, []⟩)]) (dVar 0) cNil))) (dRaise 1) dNx) (dRet (dCall 1 f_determinant [] (cVal (dFld (tab [(2, 0)]) (dVar 0)) cNil))))
noncomputable def f_Grid_determinant : DF := fnD 0 b_Grid_determinant
noncomputable def b_Grid_adjugate : DS := (dSeq (dIfS (dNot (dTru (dMeth (tab [(2, ⟨1, f_Grid_is_square, []⟩)]) (dVar 0) cNil))) (dRaise 1) dNx) (dSeq (dSet 1 (dLst dNil)) (dSeq (dFor (dRng (dCons (dFld (tab [(2, 1)]) (dVar 0)) dNil)) (gN 2) (dSeq (dSet 3 (dLst dNil)) (dSeq (dFor (dRng (dCons (dFld (tab [(2, 1)]) (dVar 0)) dNil)) (gN 4) (dSeq (dSet 5 (dCall 1 f_determinant [] (cVal (dCall 3 f_minor [] (cVal (dFld (tab [(2, 0)]) (dVar 0)) (cVal (dVar 4) (cVal (dVar 2) cNil)))) cNil))) (dApp 3 (dIf (dTst (dOp fEq (dOp fMod (dOp fAdd (dVar 2) (dVar 4)) (dC (.int 2))) (dC (.int 1)))) (dUn fNeg (dVar 5)) (dVar 5))))) (dApp 1 (dVar 3))))) (dRet (dMake 2 2 3 f_Grid_init [] (dCons (dVar 1) (dCons (dFld (tab [(2, 1)]) (dVar 0)) dNil)))))))
noncomputable def f_Grid_adjugate : DF := fnD 5 b_Grid_adjugate
noncomputable def b_Grid_is_unimodular : DS := (dRet (dAndV (dMeth (tab [(2, ⟨1, f_Grid_is_square, []⟩)]) (dVar 0) cNil) (dOp fEq (dCB fAbs (dCons (dCall 1 f_determinant [] (cVal (dFld (tab [(2, 0)]) (dVar 0)) cNil)) dNil)) (dC (.int 1)))))
noncomputable def f_Grid_is_unimodular : DF := fnD 0 b_Grid_is_unimodular
noncomputable def b_law_cell : DS := (dSeq (dIfS (dTst (dOp fLt (dVar 1) (dLenN 0))) (dRet (dIdxN 0 (dVar 1))) dNx) (dRet (dC (.int 0))))
noncomputable def f_law_cell : DF := fnD 0 b_law_cell
noncomputable def b_law_state : DS := (dSeq (dSet 1 (dC (.int 0))) (dSeq (dSet 2 (dC (.int 1))) (dSeq (dFor (dItems (dSl (dVar 0) dNoPart (dPart (dC (.int 63))))) (gN 3) (dSeq (dSet 1 (dOp fAdd (dOp fMul (dVar 1) (dC (.int 1000003))) (dCB fAbs (dCons (dVar 3) dNil)))) (dSet 2 (dOp fMod (dCB fInt (dCons (dOp fAdd (dOp fMul (dVar 2) (dC (.int 48271))) (dVar 3)) dNil)) (dC (.int 2147483647)))))) (dRet (dLst (dCons (dVar 1) (dCons (dVar 2) dNil)))))))
noncomputable def f_law_state : DF := fnD 3 b_law_state
noncomputable def b_law_take : DS := (dSeq (dIfS (dTst (dOp fGt (dIdxN 0 (dC (.int 0))) (dC (.int 0)))) (dSeq (dSet 2 (dOp fMod (dCB fInt (dCons (dIdxN 0 (dC (.int 0))) dNil)) (dVar 1))) (dSeq (dSetI 0 (dC (.int 0)) (dOp fDiv (dIdxN 0 (dC (.int 0))) (dVar 1))) (dRet (dVar 2)))) dNx) (dSeq (dSetI 0 (dC (.int 1)) (dOp fMod (dCB fInt (dCons (dOp fAdd (dOp fMul (dIdxN 0 (dC (.int 1))) (dC (.int 48271))) (dC (.int 11))) dNil)) (dC (.int 2147483647)))) (dRet (dOp fMod (dCB fInt (dCons (dOp fDiv (dIdxN 0 (dC (.int 1))) (dC (.int 7))) dNil)) (dVar 1)))))
noncomputable def f_law_take : DF := fnD 1 b_law_take
noncomputable def b_law_rows : DS := (dSeq (dSet 4 (dLst dNil)) (dSeq (dFor (dRng (dCons (dVar 1) dNil)) (gN 5) (dApp 4 (dCB fTuple (dCons (dLc (dRng (dCons (dVar 2) dNil)) (gN 6) dYes (dOp fSub (dCall 2 f_law_take [] (cLend 0 (cVal (dOp fAdd (dOp fMul (dC (.int 2)) (dVar 3)) (dC (.int 1))) cNil))) (dVar 3)) [6]) dNil)))) (dSeq (dIfS (dAnd (dTst (dOp fGt (dVar 1) (dC (.int 1)))) (dTst (dOp fEq (dCall 2 f_law_take [] (cLend 0 (cVal (dC (.int 5)) cNil))) (dC (.int 0))))) (dSetI 4 (dOp fSub (dVar 1) (dC (.int 1))) (dCB fTuple (dCons (dLc (dRng (dCons (dVar 2) dNil)) (gN 6) dYes (dOp fMul (dIdx (dIdxN 4 (dC (.int 0))) (dVar 6)) (dC (.int 2))) [6]) dNil))) dNx) (dRet (dCB fTuple (dCons (dVar 4) dNil))))))
noncomputable def f_law_rows : DF := fnD 3 b_law_rows
noncomputable def b_law_product : DS := (dSeq (dSet 3 (dLst dNil)) (dSeq (dFor (dItems (dVar 0)) (gN 4) (dSeq (dSet 5 (dLst dNil)) (dSeq (dFor (dRng (dCons (dVar 2) dNil)) (gN 6) (dSeq (dSet 7 (dC (.int 0))) (dSeq (dFor (dRng (dCons (dLenN 1) dNil)) (gN 8) (dSet 7 (dOp fAdd (dVar 7) (dOp fMul (dIdxN 4 (dVar 8)) (dIdx (dIdxN 1 (dVar 8)) (dVar 6)))))) (dApp 5 (dVar 7))))) (dApp 3 (dCB fTuple (dCons (dVar 5) dNil)))))) (dRet (dCB fTuple (dCons (dVar 3) dNil)))))
noncomputable def f_law_product : DF := fnD 6 b_law_product
noncomputable def b_law_determinant (fr : DF) : DS := (dSeq (dIfS (dTst (dOp fEq (dLenN 0) (dC (.int 0)))) (dRet (dC (.int 1))) dNx) (dSeq (dSet 1 (dC (.int 0))) (dSeq (dFor (dRng (dCons (dLenN 0) dNil)) (gN 2) (dIfS (dTst (dOp fNe (dIdx (dIdxN 0 (dC (.int 0))) (dVar 2)) (dC (.int 0)))) (dSeq (dSet 3 (dLc (dItems (dSl (dVar 0) (dPart (dC (.int 1))) dNoPart)) (gN 4) dYes (dOp fAdd (dSl (dVar 4) dNoPart (dPart (dVar 2))) (dSl (dVar 4) (dPart (dOp fAdd (dVar 2) (dC (.int 1)))) dNoPart)) [4])) (dSet 1 (dOp fAdd (dVar 1) (dOp fMul (dOp fMul (dOp fSub (dC (.int 1)) (dOp fMul (dC (.int 2)) (dOp fMod (dVar 2) (dC (.int 2))))) (dIdx (dIdxN 0 (dC (.int 0))) (dVar 2))) (dCall 1 fr [] (cVal (dVar 3) cNil)))))) dNx)) (dRet (dVar 1)))))
noncomputable def f_law_determinant : Nat → DF
  | 0 => fun _ => .bad
  | n + 1 => fnD 4 (b_law_determinant (f_law_determinant n))
noncomputable def b_law_is_rows : DS := (dSeq (dIfS (dOr (dNot (dTru (dIsi (tab [(0, false), (1, false), (2, false), (3, false), (4, false), (5, false), (8, true)]) (dVar 0)))) (dOr (dNot (dTru (dIsi (tab [(0, false), (1, false), (2, false), (3, false), (4, true), (5, false), (8, false)]) (dFld (tab [(2, 0)]) (dVar 0))))) (dOr (dTst (dOp fNe (dFld (tab [(2, 1)]) (dVar 0)) (dVar 2))) (dTst (dOp fNe (dCB (fLenO (tab [(2, f_Grid_len)])) (dCons (dVar 0) dNil)) (dVar 1)))))) (dRet (dC (.bl false))) dNx) (dSeq (dFor (dItems (dFld (tab [(2, 0)]) (dVar 0))) (gN 3) (dSeq (dIfS (dOr (dNot (dTru (dIsi (tab [(0, false), (1, false), (2, false), (3, false), (4, true), (5, false), (8, false)]) (dVar 3)))) (dTst (dOp fNe (dLenN 3) (dVar 2)))) (dRet (dC (.bl false))) dNx) (dFor (dItems (dVar 3)) (gN 4) (dIfS (dOr (dNot (dTru (dIsi (tab [(0, false), (1, true), (2, true), (3, false), (4, false), (5, false), (8, false)]) (dVar 4)))) (dTru (dIsi (tab [(0, false), (1, true), (2, false), (3, false), (4, false), (5, false), (8, false)]) (dVar 4)))) (dRet (dC (.bl false))) dNx)))) (dRet (dC (.bl true)))))
noncomputable def f_law_is_rows : DF := fnD 2 b_law_is_rows
noncomputable def b_law_refused : DS := (dSeq (dSet 1 (dC (.int 0))) (dSeq (dTry (dDrop (dMeth (tab [(2, ⟨1, f_Grid_determinant, []⟩)]) (dVar 0) cNil)) (tab [(1, true)]) (dSet 1 (dOp fAdd (dVar 1) (dC (.int 1))))) (dSeq (dTry (dDrop (dMeth (tab [(2, ⟨1, f_Grid_adjugate, []⟩)]) (dVar 0) cNil)) (tab [(1, true)]) (dSet 1 (dOp fAdd (dVar 1) (dC (.int 1))))) (dRet (dAndV (dOp fEq (dVar 1) (dC (.int 2))) (dOp fIsN (dMeth (tab [(2, ⟨1, f_Grid_is_unimodular, []⟩)]) (dVar 0) cNil) (dC (.bl false))))))))
noncomputable def f_law_refused : DF := fnD 1 b_law_refused
noncomputable def b_law : DS := (dSeq (dSet 1 (dCall 1 f_law_state [] (cVal (dVar 0) cNil))) (dSeq (dSet 2 (dCall 2 f_law_take [] (cLend 1 (cVal (dC (.int 5)) cNil)))) (dSeq (dSet 3 (dCall 4 f_law_rows [] (cLend 1 (cVal (dVar 2) (cVal (dVar 2) (cVal (dC (.int 9)) cNil)))))) (dSeq (dSet 4 (dCall 4 f_law_rows [] (cLend 1 (cVal (dVar 2) (cVal (dVar 2) (cVal (dC (.int 5)) cNil)))))) (dSeq (dIfS (dAnd (dTst (dOp fGt (dVar 2) (dC (.int 0)))) (dTst (dOp fEq (dCall 2 f_law_take [] (cLend 1 (cVal (dC (.int 4)) cNil))) (dC (.int 0))))) (dSet 3 (dOp fAdd (dTup (dCons (dOp fAdd (dTup (dCons (dCall 2 f_law_cell [] (cVal (dVar 0) (cVal (dC (.int 0)) cNil))) dNil)) (dSl (dIdxN 3 (dC (.int 0))) (dPart (dC (.int 1))) dNoPart)) dNil)) (dSl (dVar 3) (dPart (dC (.int 1))) dNoPart))) dNx) (dSeq (dPar [5, 6] (dCons (dMake 2 2 3 f_Grid_init [] (dCons (dVar 3) (dCons (dVar 2) dNil))) (dCons (dMake 2 2 3 f_Grid_init [] (dCons (dVar 4) (dCons (dVar 2) dNil))) dNil))) (dSeq (dAsg (dTup (dCons (dCall 1 (f_law_determinant 6) [] (cVal (dVar 3) cNil)) (dCons (dCall 1 (f_law_determinant 6) [] (cVal (dVar 4) cNil)) dNil))) (gT 2 (gsCons (gN 7) (gsCons (gN 8) gsNil)))) (dSeq (dIfS (dOr (dTst (dOp fNe (dMeth (tab [(2, ⟨1, f_Grid_determinant, []⟩)]) (dVar 5) cNil) (dVar 7))) (dOr (dTru (dIsi (tab [(0, false), (1, true), (2, false), (3, false), (4, false), (5, false), (8, false)]) (dMeth (tab [(2, ⟨1, f_Grid_determinant, []⟩)]) (dVar 5) cNil))) (dOr (dTst (dOp fNe (dMeth (tab [(2, ⟨1, f_Grid_determinant, []⟩)]) (dOpO fMul (tab [(2, f_Grid_mul)]) (dVar 5) (dVar 6)) cNil) (dOp fMul (dVar 7) (dVar 8)))) (dTst (dOp fNe (dMeth (tab [(2, ⟨1, f_Grid_determinant, []⟩)]) (dMeth (tab [(2, ⟨1, f_Grid_transposed, []⟩)]) (dVar 5) cNil) cNil) (dVar 7)))))) (dRet (dC (.bl false))) dNx) (dSeq (dSet 9 (dMeth (tab [(2, ⟨1, f_Grid_adjugate, []⟩)]) (dVar 5) cNil)) (dSeq (dIfS (dNot (dTru (dCall 3 f_law_is_rows [] (cVal (dVar 9) (cVal (dVar 2) (cVal (dVar 2) cNil)))))) (dRet (dC (.bl false))) dNx) (dSeq (dSet 10 (dLst dNil)) (dSeq (dFor (dRng (dCons (dVar 2) dNil)) (gN 11) (dSeq (dSet 12 (dLst dNil)) (dSeq (dFor (dRng (dCons (dVar 2) dNil)) (gN 13) (dSeq (dSet 14 (dLc (dItems (dOp fAdd (dSl (dVar 3) dNoPart (dPart (dVar 13))) (dSl (dVar 3) (dPart (dOp fAdd (dVar 13) (dC (.int 1)))) dNoPart))) (gN 16) dYes (dOp fAdd (dSl (dVar 16) dNoPart (dPart (dVar 11))) (dSl (dVar 16) (dPart (dOp fAdd (dVar 11) (dC (.int 1)))) dNoPart)) [16])) (dApp 12 (dOp fMul (dOp fSub (dC (.int 1)) (dOp fMul (dC (.int 2)) (dOp fMod (dOp fAdd (dVar 11) (dVar 13)) (dC (.int 2))))) (dCall 1 (f_law_determinant 6) [] (cVal (dVar 14) cNil)))))) (dApp 10 (dCB fTuple (dCons (dVar 12) dNil)))))) (dSeq (dIfS (dTst (dOp fNe (dFld (tab [(2, 0)]) (dVar 9)) (dCB fTuple (dCons (dVar 10) dNil)))) (dRet (dC (.bl false))) dNx) (dSeq (dSet 15 (dCB fTuple (dCons (dLc (dRng (dCons (dVar 2) dNil)) (gN 11) dYes (dCB fTuple (dCons (dLc (dRng (dCons (dVar 2) dNil)) (gN 13) dYes (dOp fMul (dVar 7) (dCB fInt (dCons (dOp fEq (dVar 11) (dVar 13)) dNil))) [13]) dNil)) [11]) dNil))) (dSeq (dIfS (dOr (dTst (dOp fNe (dCall 3 f_law_product [] (cVal (dVar 3) (cVal (dFld (tab [(2, 0)]) (dVar 9)) (cVal (dVar 2) cNil)))) (dVar 15))) (dTst (dOp fNe (dCall 3 f_law_product [] (cVal (dFld (tab [(2, 0)]) (dVar 9)) (cVal (dVar 3) (cVal (dVar 2) cNil)))) (dVar 15)))) (dRet (dC (.bl false))) dNx) (dSeq (dIfS (dTst (dOp fNe (dMeth (tab [(2, ⟨1, f_Grid_is_unimodular, []⟩)]) (dVar 5) cNil) (dOp fEq (dCB fAbs (dCons (dVar 7) dNil)) (dC (.int 1))))) (dRet (dC (.bl false))) dNx) (dRet (dCall 1 f_law_refused [] (cVal (dMake 2 2 3 f_Grid_init [] (dCons (dLc (dRng (dCons (dVar 2) dNil)) (gN 11) dYes (dLc (dRng (dCons (dOp fAdd (dVar 2) (dC (.int 1))) dNil)) (gN 13) dYes (dC (.int 1)) [13]) [11]) (dCons (dOp fAdd (dVar 2) (dC (.int 1))) dNil))) cNil)))))))))))))))))))
noncomputable def f_law : DF := fnD 16 b_law
theorem sc_is_integer : FnScope ["value"] ["value"] (defScope s_is_integer) := ⟨rfl, rfl, rfl, by decide +kernel, rfl, by decide +kernel, by decide +kernel⟩
theorem sc_dot : FnScope ["a", "b", "x", "y"] ["a", "b"] (defScope s_dot) := ⟨rfl, rfl, rfl, by decide +kernel, rfl, by decide +kernel, by decide +kernel⟩
theorem sc_checked : FnScope ["rows", "width", "out", "row", "item"] ["rows", "width"] (defScope s_checked) := ⟨rfl, rfl, rfl, by decide +kernel, rfl, by decide +kernel, by decide +kernel⟩
theorem sc_determinant : FnScope ["rows", "table", "size", "sign", "before", "k", "chosen", "row", "head", "i", "factor", "x", "y"] ["rows"] (defScope s_determinant) := ⟨rfl, rfl, rfl, by decide +kernel, rfl, by decide +kernel, by decide +kernel⟩
theorem sc_minor : FnScope ["rows", "i", "k", "at", "row"] ["rows", "i", "k"] (defScope s_minor) := ⟨rfl, rfl, rfl, by decide +kernel, rfl, by decide +kernel, by decide +kernel⟩
theorem sc_Grid_init : FnScope ["self", "rows", "width"] ["self", "rows", "width"] (defScope s_Grid_init) := ⟨rfl, rfl, rfl, by decide +kernel, rfl, by decide +kernel, by decide +kernel⟩
theorem sc_Grid_len : FnScope ["self"] ["self"] (defScope s_Grid_len) := ⟨rfl, rfl, rfl, by decide +kernel, rfl, by decide +kernel, by decide +kernel⟩
theorem sc_Grid_mul : FnScope ["self", "other", "columns", "k", "row", "column"] ["self", "other"] (defScope s_Grid_mul) := ⟨rfl, rfl, rfl, by decide +kernel, rfl, by decide +kernel, by decide +kernel⟩
theorem sc_Grid_transposed : FnScope ["self", "k", "row"] ["self"] (defScope s_Grid_transposed) := ⟨rfl, rfl, rfl, by decide +kernel, rfl, by decide +kernel, by decide +kernel⟩
theorem sc_Grid_is_square : FnScope ["self"] ["self"] (defScope s_Grid_is_square) := ⟨rfl, rfl, rfl, by decide +kernel, rfl, by decide +kernel, by decide +kernel⟩
theorem sc_Grid_determinant : FnScope ["self"] ["self"] (defScope s_Grid_determinant) := ⟨rfl, rfl, rfl, by decide +kernel, rfl, by decide +kernel, by decide +kernel⟩
theorem sc_Grid_adjugate : FnScope ["self", "out", "i", "line", "k", "minor"] ["self"] (defScope s_Grid_adjugate) := ⟨rfl, rfl, rfl, by decide +kernel, rfl, by decide +kernel, by decide +kernel⟩
theorem sc_Grid_is_unimodular : FnScope ["self"] ["self"] (defScope s_Grid_is_unimodular) := ⟨rfl, rfl, rfl, by decide +kernel, rfl, by decide +kernel, by decide +kernel⟩
theorem sc_law_cell : FnScope ["_law_script", "_law_k"] ["_law_script", "_law_k"] (defScope s_law_cell) := ⟨rfl, rfl, rfl, by decide +kernel, rfl, by decide +kernel, by decide +kernel⟩
theorem sc_law_state : FnScope ["_law_script", "_law_seed", "_law_total", "_law_cell_here"] ["_law_script"] (defScope s_law_state) := ⟨rfl, rfl, rfl, by decide +kernel, rfl, by decide +kernel, by decide +kernel⟩
theorem sc_law_take : FnScope ["_law_state_here", "_law_m", "_law_value"] ["_law_state_here", "_law_m"] (defScope s_law_take) := ⟨rfl, rfl, rfl, by decide +kernel, rfl, by decide +kernel, by decide +kernel⟩
theorem sc_law_rows : FnScope ["_law_state_here", "_law_height", "_law_width", "_law_most", "_law_rows_here", "_law_i", "_law_k"] ["_law_state_here", "_law_height", "_law_width", "_law_most"] (defScope s_law_rows) := ⟨rfl, rfl, rfl, by decide +kernel, rfl, by decide +kernel, by decide +kernel⟩
theorem sc_law_product : FnScope ["_law_a", "_law_b", "_law_width", "_law_out", "_law_row", "_law_line", "_law_k", "_law_total", "_law_j"] ["_law_a", "_law_b", "_law_width"] (defScope s_law_product) := ⟨rfl, rfl, rfl, by decide +kernel, rfl, by decide +kernel, by decide +kernel⟩
theorem sc_law_determinant : FnScope ["_law_rows_here", "_law_total", "_law_k", "_law_minor", "_law_row"] ["_law_rows_here"] (defScope s_law_determinant) := ⟨rfl, rfl, rfl, by decide +kernel, rfl, by decide +kernel, by decide +kernel⟩
theorem sc_law_is_rows : FnScope ["_law_value", "_law_height", "_law_width", "_law_row", "_law_x"] ["_law_value", "_law_height", "_law_width"] (defScope s_law_is_rows) := ⟨rfl, rfl, rfl, by decide +kernel, rfl, by decide +kernel, by decide +kernel⟩
theorem sc_law_refused : FnScope ["_law_grid", "_law_count"] ["_law_grid"] (defScope s_law_refused) := ⟨rfl, rfl, rfl, by decide +kernel, rfl, by decide +kernel, by decide +kernel⟩
theorem sc_law : FnScope ["_law_script", "_law_state_here", "_law_n", "_law_a", "_law_b", "_law_x", "_law_y", "_law_d", "_law_e", "_law_adjugate", "_law_due", "_law_i", "_law_line", "_law_k", "_law_minor", "_law_scalar", "_law_row"] ["_law_script"] (defScope s_law) := ⟨rfl, rfl, rfl, by decide +kernel, rfl, by decide +kernel, by decide +kernel⟩
def P : Program := PySem.Challenge.pw_gridmetric_k02_determinants
def cf : Nat → List Str := fun | 2 => ["rows", "width"] | _ => []
structure Tx (K : PySem.W.Frag) (mg : Str → Option Value) where
  a : Nat → Addr
  fd : Nat → FuncData
  ca : Nat → Addr
  F0 : Fun K "is_integer" "is_integer" s_is_integer (a 0) (fd 0)
  b0 : Binds K (fd 0) ["value"] []
  m0 : mg "is_integer" = some (.ref (a 0))
  F1 : Fun K "dot" "dot" s_dot (a 1) (fd 1)
  b1 : Binds K (fd 1) ["a", "b"] []
  m1 : mg "dot" = some (.ref (a 1))
  F2 : Fun K "_checked" "_checked" s_checked (a 2) (fd 2)
  b2 : Binds K (fd 2) ["rows", "width"] []
  m2 : mg "_checked" = some (.ref (a 2))
  F3 : Fun K "_determinant" "_determinant" s_determinant (a 3) (fd 3)
  b3 : Binds K (fd 3) ["rows"] []
  m3 : mg "_determinant" = some (.ref (a 3))
  F4 : Fun K "_minor" "_minor" s_minor (a 4) (fd 4)
  b4 : Binds K (fd 4) ["rows", "i", "k"] []
  m4 : mg "_minor" = some (.ref (a 4))
  F5 : FunD K "__init__" "Grid.__init__" (defArgs s_Grid_init) (defBody s_Grid_init) (defScope s_Grid_init) [V.non] [] (a 5) (fd 5)
  bd5us : List Value
  bd5 : Vals [V.non] bd5us ∧ Binds K (fd 5) ["self", "rows", "width"] bd5us
  b5 : Binds K (fd 5) ["self", "rows", "width"] []
  mk2 : Mk K (ca 2) (a 5)
  F6 : Fun K "__len__" "Grid.__len__" s_Grid_len (a 6) (fd 6)
  b6 : Binds K (fd 6) ["self"] []
  h6 : PySem.W.findIn K (.ref (ca 2)) "__len__" = some (some (.ref (a 6)))
  g6 : PySem.W.isFn K (.ref (a 6)) = true
  F8 : Fun K "__eq__" "Grid.__eq__" s_Grid_eq (a 8) (fd 8)
  b8 : Binds K (fd 8) ["self", "other"] []
  h8 : PySem.W.findIn K (.ref (ca 2)) "__eq__" = some (some (.ref (a 8)))
  g8 : PySem.W.isFn K (.ref (a 8)) = true
  F9 : Fun K "__add__" "Grid.__add__" s_Grid_add (a 9) (fd 9)
  b9 : Binds K (fd 9) ["self", "other"] []
  h9 : PySem.W.findIn K (.ref (ca 2)) "__add__" = some (some (.ref (a 9)))
  g9 : PySem.W.isFn K (.ref (a 9)) = true
  F10 : Fun K "__sub__" "Grid.__sub__" s_Grid_sub (a 10) (fd 10)
  b10 : Binds K (fd 10) ["self", "other"] []
  h10 : PySem.W.findIn K (.ref (ca 2)) "__sub__" = some (some (.ref (a 10)))
  g10 : PySem.W.isFn K (.ref (a 10)) = true
  F11 : Fun K "__mul__" "Grid.__mul__" s_Grid_mul (a 11) (fd 11)
  b11 : Binds K (fd 11) ["self", "other"] []
  h11 : PySem.W.findIn K (.ref (ca 2)) "__mul__" = some (some (.ref (a 11)))
  g11 : PySem.W.isFn K (.ref (a 11)) = true
  F12 : Fun K "__neg__" "Grid.__neg__" s_Grid_neg (a 12) (fd 12)
  b12 : Binds K (fd 12) ["self"] []
  h12 : PySem.W.findIn K (.ref (ca 2)) "__neg__" = some (some (.ref (a 12)))
  g12 : PySem.W.isFn K (.ref (a 12)) = true
  F13 : Fun K "transposed" "Grid.transposed" s_Grid_transposed (a 13) (fd 13)
  b13 : Binds K (fd 13) ["self"] []
  h13 : PySem.W.findIn K (.ref (ca 2)) "transposed" = some (some (.ref (a 13)))
  g13 : PySem.W.isFn K (.ref (a 13)) = true
  F14 : Fun K "before" "Grid.before" s_Grid_before (a 14) (fd 14)
  b14 : Binds K (fd 14) ["self", "row"] []
  h14 : PySem.W.findIn K (.ref (ca 2)) "before" = some (some (.ref (a 14)))
  g14 : PySem.W.isFn K (.ref (a 14)) = true
  F15 : Fun K "is_square" "Grid.is_square" s_Grid_is_square (a 15) (fd 15)
  b15 : Binds K (fd 15) ["self"] []
  h15 : PySem.W.findIn K (.ref (ca 2)) "is_square" = some (some (.ref (a 15)))
  g15 : PySem.W.isFn K (.ref (a 15)) = true
  F16 : Fun K "determinant" "Grid.determinant" s_Grid_determinant (a 16) (fd 16)
  b16 : Binds K (fd 16) ["self"] []
  h16 : PySem.W.findIn K (.ref (ca 2)) "determinant" = some (some (.ref (a 16)))
  g16 : PySem.W.isFn K (.ref (a 16)) = true
  F17 : Fun K "adjugate" "Grid.adjugate" s_Grid_adjugate (a 17) (fd 17)
  b17 : Binds K (fd 17) ["self"] []
  h17 : PySem.W.findIn K (.ref (ca 2)) "adjugate" = some (some (.ref (a 17)))
  g17 : PySem.W.isFn K (.ref (a 17)) = true
  F18 : Fun K "is_unimodular" "Grid.is_unimodular" s_Grid_is_unimodular (a 18) (fd 18)
  b18 : Binds K (fd 18) ["self"] []
  h18 : PySem.W.findIn K (.ref (ca 2)) "is_unimodular" = some (some (.ref (a 18)))
  g18 : PySem.W.isFn K (.ref (a 18)) = true
  F19 : Fun K "_law_cell" "_law_cell" s_law_cell (a 19) (fd 19)
  b19 : Binds K (fd 19) ["_law_script", "_law_k"] []
  m19 : mg "_law_cell" = some (.ref (a 19))
  F20 : Fun K "_law_state" "_law_state" s_law_state (a 20) (fd 20)
  b20 : Binds K (fd 20) ["_law_script"] []
  m20 : mg "_law_state" = some (.ref (a 20))
  F21 : Fun K "_law_take" "_law_take" s_law_take (a 21) (fd 21)
  b21 : Binds K (fd 21) ["_law_state_here", "_law_m"] []
  m21 : mg "_law_take" = some (.ref (a 21))
  F22 : Fun K "_law_rows" "_law_rows" s_law_rows (a 22) (fd 22)
  b22 : Binds K (fd 22) ["_law_state_here", "_law_height", "_law_width", "_law_most"] []
  m22 : mg "_law_rows" = some (.ref (a 22))
  F23 : Fun K "_law_product" "_law_product" s_law_product (a 23) (fd 23)
  b23 : Binds K (fd 23) ["_law_a", "_law_b", "_law_width"] []
  m23 : mg "_law_product" = some (.ref (a 23))
  F24 : Fun K "_law_determinant" "_law_determinant" s_law_determinant (a 24) (fd 24)
  b24 : Binds K (fd 24) ["_law_rows_here"] []
  m24 : mg "_law_determinant" = some (.ref (a 24))
  F25 : Fun K "_law_is_rows" "_law_is_rows" s_law_is_rows (a 25) (fd 25)
  b25 : Binds K (fd 25) ["_law_value", "_law_height", "_law_width"] []
  m25 : mg "_law_is_rows" = some (.ref (a 25))
  F26 : Fun K "_law_refused" "_law_refused" s_law_refused (a 26) (fd 26)
  b26 : Binds K (fd 26) ["_law_grid"] []
  m26 : mg "_law_refused" = some (.ref (a 26))
  F27 : Fun K "law" "law" s_law (a 27) (fd 27)
  b27 : Binds K (fd 27) ["_law_script"] []
  m27 : mg "law" = some (.ref (a 27))
  F7 : Fun K "__iter__" "Grid.__iter__" s_Grid_iter (a 7) (fd 7)
  b7 : Binds K (fd 7) ["self"] []
  h7 : PySem.W.findIn K (.ref (ca 2)) "__iter__" = some (some (.ref (a 7)))
  g7 : PySem.W.isFn K (.ref (a 7)) = true
  mc1 : mg "Malformed" = some (.ref (ca 1))
  mc2 : mg "Grid" = some (.ref (ca 2))
  cl2 : Cls K (ca 2)
  ins2 : InsTy K (ca 2)
  sf2 : PySem.W.selfFirst K (ca 2) = true
  eq2 : EqFacts K ⟨K, ca, cf⟩ 2
  kd2 : ∀ d, 2 ≠ d → PySem.W.subIn K (.ref (ca d)) (.ref (ca 2)) = some false ∨ ca d = ca 2
  na2_rows : NoAttr K (ca 2) "rows"
  na2_width : NoAttr K (ca 2) "width"
  ex1 : PySem.W.excIn K (ca 1) [.type "ValueError", .type "Exception", .type "BaseException", .type "object"] "ValueError.__new__" = true
  kp1 : PySem.W.keepIn K (.ref (ca 1)) = true
  ra1 : PySem.W.subIn K (.ref (ca 1)) (.type "BaseException") = some true
  rb1 : PySem.W.typeIn K (.ref (ca 1)) = some (.type "type")
  em1_1 : PySem.W.exmOne K (.ref (ca 1)) (.ref (ca 1)) = some true
  z_abs : mg "abs" = none
  z_bool : mg "bool" = none
  z_enumerate : mg "enumerate" = none
  z_int : mg "int" = none
  z_isinstance : mg "isinstance" = none
  z_iter : mg "iter" = none
  z_len : mg "len" = none
  z_list : mg "list" = none
  z_range : mg "range" = none
  z_sum : mg "sum" = none
  z_tuple : mg "tuple" = none
  z_zip : mg "zip" = none
  q_Grid_0 : PySem.W.kitOne K (.type "NoneType") (.ref (ca 2)) = some false
  q_Grid_1 : PySem.W.kitOne K (.type "bool") (.ref (ca 2)) = some false
  q_Grid_2 : PySem.W.kitOne K (.type "int") (.ref (ca 2)) = some false
  q_Grid_3 : PySem.W.kitOne K (.type "str") (.ref (ca 2)) = some false
  q_Grid_4 : PySem.W.kitOne K (.type "tuple") (.ref (ca 2)) = some false
  q_Grid_5 : PySem.W.kitOne K (.type "list") (.ref (ca 2)) = some false
  q_Grid_8 : PySem.W.kitOne K (.ref (ca 2)) (.ref (ca 2)) = some true
  q_bool_0 : PySem.W.kitOne K (.type "NoneType") (.type "bool") = some false
  q_bool_1 : PySem.W.kitOne K (.type "bool") (.type "bool") = some true
  q_bool_2 : PySem.W.kitOne K (.type "int") (.type "bool") = some false
  q_bool_3 : PySem.W.kitOne K (.type "str") (.type "bool") = some false
  q_bool_4 : PySem.W.kitOne K (.type "tuple") (.type "bool") = some false
  q_bool_5 : PySem.W.kitOne K (.type "list") (.type "bool") = some false
  q_bool_8 : PySem.W.kitOne K (.ref (ca 2)) (.type "bool") = some false
  q_int_0 : PySem.W.kitOne K (.type "NoneType") (.type "int") = some false
  q_int_1 : PySem.W.kitOne K (.type "bool") (.type "int") = some true
  q_int_2 : PySem.W.kitOne K (.type "int") (.type "int") = some true
  q_int_3 : PySem.W.kitOne K (.type "str") (.type "int") = some false
  q_int_4 : PySem.W.kitOne K (.type "tuple") (.type "int") = some false
  q_int_5 : PySem.W.kitOne K (.type "list") (.type "int") = some false
  q_int_8 : PySem.W.kitOne K (.ref (ca 2)) (.type "int") = some false
  q_list_tuple_0 : PySem.W.kitAny K (.type "NoneType") [(.type "list"), (.type "tuple")] = some false
  q_list_tuple_1 : PySem.W.kitAny K (.type "bool") [(.type "list"), (.type "tuple")] = some false
  q_list_tuple_2 : PySem.W.kitAny K (.type "int") [(.type "list"), (.type "tuple")] = some false
  q_list_tuple_3 : PySem.W.kitAny K (.type "str") [(.type "list"), (.type "tuple")] = some false
  q_list_tuple_4 : PySem.W.kitAny K (.type "tuple") [(.type "list"), (.type "tuple")] = some true
  q_list_tuple_5 : PySem.W.kitAny K (.type "list") [(.type "list"), (.type "tuple")] = some true
  q_list_tuple_8 : PySem.W.kitAny K (.ref (ca 2)) [(.type "list"), (.type "tuple")] = some false
  q_tuple_0 : PySem.W.kitOne K (.type "NoneType") (.type "tuple") = some false
  q_tuple_1 : PySem.W.kitOne K (.type "bool") (.type "tuple") = some false
  q_tuple_2 : PySem.W.kitOne K (.type "int") (.type "tuple") = some false
  q_tuple_3 : PySem.W.kitOne K (.type "str") (.type "tuple") = some false
  q_tuple_4 : PySem.W.kitOne K (.type "tuple") (.type "tuple") = some true
  q_tuple_5 : PySem.W.kitOne K (.type "list") (.type "tuple") = some false
  q_tuple_8 : PySem.W.kitOne K (.ref (ca 2)) (.type "tuple") = some false
abbrev Tx.C {K : PySem.W.Frag} {mg : Str → Option Value} (T : Tx K mg) : VX := ⟨K, T.ca, cf⟩
section
variable {w : World} {K : PySem.W.Frag} {mg : Str → Option Value} {base : Heap}
theorem ok_is_integer (T : Tx K mg) (hb : base.NoSeer) : FnOk P w K mg base (L2.CX P w) 1 (T.a 0) (T.fd 0) ["value"] (spD T.C 1 f_is_integer) := fn_D T.F0 sc_is_integer rfl (fun cdv A outer s H E hr => (s_one (s_ret (e_andV (e_isi (by rfl) T.z_isinstance (e_var 0) (pe_bltn (v := .ty "int") (by rfl) T.z_int boot_int' rfl) (.ty "int") (isi_mk (tab_cons ⟨T.q_int_0, lowk (by decide)⟩ (tab_cons ⟨T.q_int_1, lowk (by decide)⟩ (tab_cons ⟨T.q_int_2, lowk (by decide)⟩ (tab_cons ⟨T.q_int_3, lowk (by decide)⟩ (tab_cons ⟨T.q_int_4, lowk (by decide)⟩ (tab_cons ⟨T.q_int_5, lowk (by decide)⟩ (tab_cons ⟨T.q_int_8, insk T.ins2⟩ tab_nil))))))))) (e_one (e_notV (e_isi (by rfl) T.z_isinstance (e_var 0) (pe_bltn (v := .ty "bool") (by rfl) T.z_bool boot_bool' rfl) (.ty "bool") (isi_mk (tab_cons ⟨T.q_bool_0, lowk (by decide)⟩ (tab_cons ⟨T.q_bool_1, lowk (by decide)⟩ (tab_cons ⟨T.q_bool_2, lowk (by decide)⟩ (tab_cons ⟨T.q_bool_3, lowk (by decide)⟩ (tab_cons ⟨T.q_bool_4, lowk (by decide)⟩ (tab_cons ⟨T.q_bool_5, lowk (by decide)⟩ (tab_cons ⟨T.q_bool_8, insk T.ins2⟩ tab_nil)))))))))))))))
theorem ok_dot (T : Tx K mg) (hb : base.NoSeer) : FnOk P w K mg base (L2.CX P w) 1 (T.a 1) (T.fd 1) ["a", "b"] (spD T.C 2 f_dot) := fn_D T.F1 sc_dot rfl (fun cdv A outer s H E hr => (s_one (s_ret (e_callB (cr_sum (by rfl)) cs_sum (by rfl) T.z_sum boot_sum' (a_cons (e_lc (own := [("x", 2), ("y", 3)]) rfl sc_dot.nd (blkOk_by (by kernel_rfl)) (i_zip T.z_zip (a_cons (e_var 0) (a_cons (e_var 1) a_nil))) (fun _ _ _ _ _ => (g_tup rfl (gs_cons (g_name 2 sc_dot.nd) (gs_cons (g_name 3 sc_dot.nd) gs_nil)))) (fun _ _ _ _ _ => ts_nil) (fun _ _ _ _ _ => (e_mul (e_var 2) (e_var 3)))) a_nil)))))
theorem ok_checked (T : Tx K mg) (hb : base.NoSeer) : FnOk P w K mg base (L2.CX P w) 4 (T.a 2) (T.fd 2) ["rows", "width"] (spD T.C 2 f_checked) := fn_D T.F2 sc_checked rfl (fun cdv A outer s H E hr => (s_cons (s_set 2 sc_checked.nd (e_lst a_nil)) (s_cons (s_for (passes_of rfl) rfl (i_seq (e_var 0)) (g_name 3 sc_checked.nd) (s_cons (s_if ((w_or (t_not (t_tru (e_isiT (by rfl) T.z_isinstance (e_var 3) (pa_cons (pe_bltn (v := .ty "list") (by rfl) T.z_list boot_list' rfl) (pa_cons (pe_bltn (v := .ty "tuple") (by rfl) T.z_tuple boot_tuple' rfl) pa_nil)) (.cons (.ty "list") (.cons (.ty "tuple") .nil)) (by decide) (isis_mk (tab_cons ⟨T.q_list_tuple_0, lowk (by decide)⟩ (tab_cons ⟨T.q_list_tuple_1, lowk (by decide)⟩ (tab_cons ⟨T.q_list_tuple_2, lowk (by decide)⟩ (tab_cons ⟨T.q_list_tuple_3, lowk (by decide)⟩ (tab_cons ⟨T.q_list_tuple_4, lowk (by decide)⟩ (tab_cons ⟨T.q_list_tuple_5, lowk (by decide)⟩ (tab_cons ⟨T.q_list_tuple_8, insk T.ins2⟩ tab_nil))))))))))) (w_or1 (t_cmp (op_neD hr.units) (os_ne (by rfl)) (e_lenN 3 (by rfl) T.z_len) (e_var 1) (nomark _))))).pt (s_one (s_raise rfl (takes_of rfl rfl rfl rfl) PySem.F.excBase_ValueError T.ex1 T.mc1 T.kp1 (raises_own T.ra1 T.rb1))) s_nil) (s_cons (s_for (passes_of rfl) rfl (i_seq (e_var 3)) (g_name 4 sc_checked.nd) (s_one (s_if (t_not (t_tru (e_call (ok_is_integer T hb) (hr.mono (by decide)) T.m0 T.F0.kp T.b0 .nil (passAt (takes_of rfl rfl rfl rfl)) (c_cons (e_var 4) c_nil)))) (s_one (s_raise rfl (takes_of rfl rfl rfl rfl) PySem.F.excBase_ValueError T.ex1 T.mc1 T.kp1 (raises_own T.ra1 T.rb1))) s_nil))) (s_one (s_app 2 (e_callTy call_tuple_of (cs_tuple (by rfl)) (by rfl) T.z_tuple boot_tuple' (a_cons (e_var 3) a_nil))))))) (s_one (s_ret (e_callTy call_tuple_of (cs_tuple (by rfl)) (by rfl) T.z_tuple boot_tuple' (a_cons (e_var 2) a_nil)))))))
theorem ok_determinant (T : Tx K mg) (hb : base.NoSeer) : FnOk P w K mg base (L2.CX P w) 33 (T.a 3) (T.fd 3) ["rows"] (spD T.C 1 f_determinant) := fn_D T.F3 sc_determinant rfl (fun cdv A outer s H E hr => (s_cons (s_set 1 sc_determinant.nd (e_lc (own := [("row", 7)]) rfl sc_determinant.nd (blkOk_by (by kernel_rfl)) (i_seq (e_var 0)) (fun _ _ _ _ _ => (g_name 7 sc_determinant.nd)) (fun _ _ _ _ _ => ts_nil) (fun _ _ _ _ _ => (e_callTy call_list_of (cs_list (by rfl)) (by rfl) T.z_list boot_list' (a_cons (e_var 7) a_nil))))) (s_cons (s_set 2 sc_determinant.nd (e_lenN 1 (by rfl) T.z_len)) (s_cons (s_unp (e_tup (a_cons e_int (a_cons e_int a_nil))) (g_tup rfl (gs_cons (g_name 3 sc_determinant.nd) (gs_cons (g_name 4 sc_determinant.nd) gs_nil)))) (s_cons (s_for (passes_of rfl) rfl (i_rng1 (by rfl) T.z_range (a_cons (e_var 2) a_nil) (len_cons len_nil)) (g_name 5 sc_determinant.nd) (s_cons (s_setLc 6 (hsw := rfl) (own := [("i", 9)]) rfl sc_determinant.nd (blkOk_by (by kernel_rfl)) (i_rng2 (by rfl) T.z_range (a_cons (e_var 5) (a_cons (e_var 2) a_nil)) (len_cons (len_cons len_nil))) (fun _ _ _ _ _ => (g_name 9 sc_determinant.nd)) (fun _ _ _ _ _ => (ts_one (t_cmp (op_neD hr.units) (os_ne (by rfl)) (e_idx (e_idxN 1 (e_var 9)) (e_var 5)) e_int (nomark _)))) (fun _ _ _ _ _ => (e_var 9))) (s_cons (s_if (t_cmp (op_eqD hr.units) (os_eq (by rfl)) (e_lenN 6 (by rfl) T.z_len) e_int (nomark _)) (s_one (s_ret e_int)) s_nil) (s_cons (s_if (t_cmp (op_neD hr.units) (os_ne (by rfl)) (e_idxN 6 e_int) (e_var 5) (nomark _)) (s_cons (s_set 7 sc_determinant.nd (e_idxN 1 (e_var 5))) (s_cons (s_setI 1 (e_idxN 1 (e_idxN 6 e_int)) (e_var 5)) (s_cons (s_setI 1 (e_var 7) (e_idxN 6 e_int)) (s_one (s_set 3 sc_determinant.nd (e_neg (e_var 3))))))) s_nil) (s_cons (s_set 8 sc_determinant.nd (e_idxN 1 (e_var 5))) (s_cons (s_for (passes_of rfl) rfl (i_rng2 (by rfl) T.z_range (a_cons (e_add (e_var 5) e_int) (a_cons (e_var 2) a_nil)) (len_cons (len_cons len_nil))) (g_name 9 sc_determinant.nd) (s_cons (s_set 10 sc_determinant.nd (e_idx (e_idxN 1 (e_var 9)) (e_var 5))) (s_one (s_setI 1 (e_lc (own := [("x", 11), ("y", 12)]) rfl sc_determinant.nd (blkOk_by (by kernel_rfl)) (i_zip T.z_zip (a_cons (e_idxN 1 (e_var 9)) (a_cons (e_var 8) a_nil))) (fun _ _ _ _ _ => (g_tup rfl (gs_cons (g_name 11 sc_determinant.nd) (gs_cons (g_name 12 sc_determinant.nd) gs_nil)))) (fun _ _ _ _ _ => ts_nil) (fun _ _ _ _ _ => (e_divG ⟨fun _ => hb, rfl, ⟨_, _, rfl, rfl, rfl, rfl, rfl⟩, hr.mono (by decide)⟩ (e_sub (e_mul (e_idxN 8 (e_var 5)) (e_var 11)) (e_mul (e_var 10) (e_var 12))) (e_var 4)))) (e_var 9))))) (s_one (s_set 4 sc_determinant.nd (e_idxN 8 (e_var 5)))))))))) (s_one (s_ret (e_mul (e_var 3) (e_var 4)))))))))
theorem ok_minor (T : Tx K mg) (hb : base.NoSeer) : FnOk P w K mg base (L2.CX P w) 1 (T.a 4) (T.fd 4) ["rows", "i", "k"] (spD T.C 3 f_minor) := fn_D T.F4 sc_minor rfl (fun cdv A outer s H E hr => (s_one (s_ret (e_lc (own := [("at", 3), ("row", 4)]) rfl sc_minor.nd (blkOk_by (by kernel_rfl)) (i_enum T.z_enumerate (a_cons (e_var 0) a_nil)) (fun _ _ _ _ _ => (g_tup rfl (gs_cons (g_name 3 sc_minor.nd) (gs_cons (g_name 4 sc_minor.nd) gs_nil)))) (fun _ _ _ _ _ => (ts_one (t_cmp (op_neD hr.units) (os_ne (by rfl)) (e_var 3) (e_var 1) (nomark _)))) (fun _ _ _ _ _ => (e_add (e_sl (e_var 4) o_none (o_some (e_var 2))) (e_sl (e_var 4) (o_some (e_add (e_var 2) e_int)) o_none)))))))
theorem ok_Grid_init (T : Tx K mg) (hb : base.NoSeer) : FnOk P w K mg base (L2.CX P w) 7 (T.a 5) (T.fd 5) ["self", "rows", "width"] (spD T.C 3 f_Grid_init) := fn_DD T.F5 sc_Grid_init rfl (fun cdv A outer s H E hr => (s_cons (s_if (t_not (t_tru (e_isiT (by rfl) T.z_isinstance (e_var 1) (pa_cons (pe_bltn (v := .ty "list") (by rfl) T.z_list boot_list' rfl) (pa_cons (pe_bltn (v := .ty "tuple") (by rfl) T.z_tuple boot_tuple' rfl) pa_nil)) (.cons (.ty "list") (.cons (.ty "tuple") .nil)) (by decide) (isis_mk (tab_cons ⟨T.q_list_tuple_0, lowk (by decide)⟩ (tab_cons ⟨T.q_list_tuple_1, lowk (by decide)⟩ (tab_cons ⟨T.q_list_tuple_2, lowk (by decide)⟩ (tab_cons ⟨T.q_list_tuple_3, lowk (by decide)⟩ (tab_cons ⟨T.q_list_tuple_4, lowk (by decide)⟩ (tab_cons ⟨T.q_list_tuple_5, lowk (by decide)⟩ (tab_cons ⟨T.q_list_tuple_8, insk T.ins2⟩ tab_nil))))))))))) (s_one (s_raise rfl (takes_of rfl rfl rfl rfl) PySem.F.excBase_ValueError T.ex1 T.mc1 T.kp1 (raises_own T.ra1 T.rb1))) s_nil) (s_cons (s_if (t_cmp op_isV os_isN (e_var 2) e_non (nomark _)) (s_cons (s_set 2 sc_Grid_init.nd e_int) (s_one (s_if ((w_and (t_cmp op_gtV os_gt (e_lenN 1 (by rfl) T.z_len) e_int (nomark _)) (w_and1 (t_tru (e_isiT (by rfl) T.z_isinstance (e_idxN 1 e_int) (pa_cons (pe_bltn (v := .ty "list") (by rfl) T.z_list boot_list' rfl) (pa_cons (pe_bltn (v := .ty "tuple") (by rfl) T.z_tuple boot_tuple' rfl) pa_nil)) (.cons (.ty "list") (.cons (.ty "tuple") .nil)) (by decide) (isis_mk (tab_cons ⟨T.q_list_tuple_0, lowk (by decide)⟩ (tab_cons ⟨T.q_list_tuple_1, lowk (by decide)⟩ (tab_cons ⟨T.q_list_tuple_2, lowk (by decide)⟩ (tab_cons ⟨T.q_list_tuple_3, lowk (by decide)⟩ (tab_cons ⟨T.q_list_tuple_4, lowk (by decide)⟩ (tab_cons ⟨T.q_list_tuple_5, lowk (by decide)⟩ (tab_cons ⟨T.q_list_tuple_8, insk T.ins2⟩ tab_nil))))))))))))).pt (s_one (s_set 2 sc_Grid_init.nd (e_callB call_len (cs_len (by rfl)) (by rfl) T.z_len boot_len' (a_cons (e_idxN 1 e_int) a_nil)))) s_nil))) s_nil) (s_cons (s_setF 0 (e_call (ok_checked T hb) (hr.mono (by decide)) T.m2 T.F2.kp T.b2 .nil (passAt (takes_of rfl rfl rfl rfl)) (c_cons (e_var 1) (c_cons (e_var 2) c_nil))) (fld_mk (tab_cons ⟨T.cl2, T.na2_rows, rfl, (show ("rows" : Str) ∉ (["rows", "width"] : List Str).take 0 from by decide)⟩ tab_nil))) (s_one (s_setF 0 (e_var 2) (fld_mk (tab_cons ⟨T.cl2, T.na2_width, rfl, (show ("width" : Str) ∉ (["rows", "width"] : List Str).take 1 from by decide)⟩ tab_nil))))))))
theorem ok_Grid_len (T : Tx K mg) (hb : base.NoSeer) : FnOk P w K mg base (L2.CX P w) 1 (T.a 6) (T.fd 6) ["self"] (spD T.C 1 f_Grid_len) := fn_D T.F6 sc_Grid_len rfl (fun cdv A outer s H E hr => (s_one (s_ret (e_callB call_len (cs_len (by rfl)) (by rfl) T.z_len boot_len' (a_cons (e_fld (e_var 0) (fld_mk (tab_cons ⟨T.cl2, T.na2_rows, rfl, (show ("rows" : Str) ∉ (["rows", "width"] : List Str).take 0 from by decide)⟩ tab_nil))) a_nil)))))
theorem ok_Grid_mul (T : Tx K mg) (hb : base.NoSeer) : FnOk P w K mg base (L2.CX P w) 10 (T.a 11) (T.fd 11) ["self", "other"] (spD T.C 2 f_Grid_mul) := fn_D T.F11 sc_Grid_mul rfl (fun cdv A outer s H E hr => (s_cons (s_if (t_cmp (op_neD hr.units) (os_ne (by rfl)) (e_fld (e_var 0) (fld_mk (tab_cons ⟨T.cl2, T.na2_width, rfl, (show ("width" : Str) ∉ (["rows", "width"] : List Str).take 1 from by decide)⟩ tab_nil))) (e_callB call_len (cs_len (by rfl)) (by rfl) T.z_len boot_len' (a_cons (e_fld (e_var 1) (fld_mk (tab_cons ⟨T.cl2, T.na2_rows, rfl, (show ("rows" : Str) ∉ (["rows", "width"] : List Str).take 0 from by decide)⟩ tab_nil))) a_nil)) (nomark _)) (s_one (s_raise rfl (takes_of rfl rfl rfl rfl) PySem.F.excBase_ValueError T.ex1 T.mc1 T.kp1 (raises_own T.ra1 T.rb1))) s_nil) (s_cons (s_set 2 sc_Grid_mul.nd (e_lc (own := [("k", 3)]) rfl sc_Grid_mul.nd (blkOk_by (by kernel_rfl)) (i_rng1 (by rfl) T.z_range (a_cons (e_fld (e_var 1) (fld_mk (tab_cons ⟨T.cl2, T.na2_width, rfl, (show ("width" : Str) ∉ (["rows", "width"] : List Str).take 1 from by decide)⟩ tab_nil))) a_nil) (len_cons len_nil)) (fun _ _ _ _ _ => (g_name 3 sc_Grid_mul.nd)) (fun _ _ _ _ _ => ts_nil) (fun _ _ _ _ _ => (e_lc (own := [("row", 4)]) rfl sc_Grid_mul.nd (blkOk_by (by kernel_rfl)) (i_seq (e_fld (e_var 1) (fld_mk (tab_cons ⟨T.cl2, T.na2_rows, rfl, (show ("rows" : Str) ∉ (["rows", "width"] : List Str).take 0 from by decide)⟩ tab_nil)))) (fun _ _ _ _ _ => (g_name 4 sc_Grid_mul.nd)) (fun _ _ _ _ _ => ts_nil) (fun _ _ _ _ _ => (e_idxN 4 (e_var 3))))))) (s_one (s_ret (e_make T.mk2 (ok_Grid_init T hb) (hr.mono (by decide)) T.mc2 T.b5 .nil rfl (passAt (takes_of rfl rfl rfl rfl)) (a_cons (e_lc (own := [("row", 4)]) rfl sc_Grid_mul.nd (blkOk_by (by kernel_rfl)) (i_seq (e_fld (e_var 0) (fld_mk (tab_cons ⟨T.cl2, T.na2_rows, rfl, (show ("rows" : Str) ∉ (["rows", "width"] : List Str).take 0 from by decide)⟩ tab_nil)))) (fun _ _ _ _ _ => (g_name 4 sc_Grid_mul.nd)) (fun _ _ _ _ _ => ts_nil) (fun _ _ _ _ _ => (e_lc (own := [("column", 5)]) rfl sc_Grid_mul.nd (blkOk_by (by kernel_rfl)) (i_seq (e_var 2)) (fun _ _ _ _ _ => (g_name 5 sc_Grid_mul.nd)) (fun _ _ _ _ _ => ts_nil) (fun _ _ _ _ _ => (e_call (ok_dot T hb) (hr.mono (by decide)) T.m1 T.F1.kp T.b1 .nil (fun _ => passes0) (c_cons (e_var 4) (c_cons (e_var 5) c_nil))))))) (a_cons (e_fld (e_var 1) (fld_mk (tab_cons ⟨T.cl2, T.na2_width, rfl, (show ("width" : Str) ∉ (["rows", "width"] : List Str).take 1 from by decide)⟩ tab_nil))) a_nil))))))))
theorem ok_Grid_transposed (T : Tx K mg) (hb : base.NoSeer) : FnOk P w K mg base (L2.CX P w) 10 (T.a 13) (T.fd 13) ["self"] (spD T.C 1 f_Grid_transposed) := fn_D T.F13 sc_Grid_transposed rfl (fun cdv A outer s H E hr => (s_one (s_ret (e_make T.mk2 (ok_Grid_init T hb) (hr.mono (by decide)) T.mc2 T.b5 .nil rfl (passAt (takes_of rfl rfl rfl rfl)) (a_cons (e_lc (own := [("k", 1)]) rfl sc_Grid_transposed.nd (blkOk_by (by kernel_rfl)) (i_rng1 (by rfl) T.z_range (a_cons (e_fld (e_var 0) (fld_mk (tab_cons ⟨T.cl2, T.na2_width, rfl, (show ("width" : Str) ∉ (["rows", "width"] : List Str).take 1 from by decide)⟩ tab_nil))) a_nil) (len_cons len_nil)) (fun _ _ _ _ _ => (g_name 1 sc_Grid_transposed.nd)) (fun _ _ _ _ _ => ts_nil) (fun _ _ _ _ _ => (e_lc (own := [("row", 2)]) rfl sc_Grid_transposed.nd (blkOk_by (by kernel_rfl)) (i_seq (e_fld (e_var 0) (fld_mk (tab_cons ⟨T.cl2, T.na2_rows, rfl, (show ("rows" : Str) ∉ (["rows", "width"] : List Str).take 0 from by decide)⟩ tab_nil)))) (fun _ _ _ _ _ => (g_name 2 sc_Grid_transposed.nd)) (fun _ _ _ _ _ => ts_nil) (fun _ _ _ _ _ => (e_idxN 2 (e_var 1)))))) (a_cons (e_callB call_len (cs_len (by rfl)) (by rfl) T.z_len boot_len' (a_cons (e_fld (e_var 0) (fld_mk (tab_cons ⟨T.cl2, T.na2_rows, rfl, (show ("rows" : Str) ∉ (["rows", "width"] : List Str).take 0 from by decide)⟩ tab_nil))) a_nil)) a_nil))))))
theorem ok_Grid_is_square (T : Tx K mg) (hb : base.NoSeer) : FnOk P w K mg base (L2.CX P w) 1 (T.a 15) (T.fd 15) ["self"] (spD T.C 1 f_Grid_is_square) := fn_D T.F15 sc_Grid_is_square rfl (fun cdv A outer s H E hr => (s_one (s_ret (e_eq hr (e_callB call_len (cs_len (by rfl)) (by rfl) T.z_len boot_len' (a_cons (e_fld (e_var 0) (fld_mk (tab_cons ⟨T.cl2, T.na2_rows, rfl, (show ("rows" : Str) ∉ (["rows", "width"] : List Str).take 0 from by decide)⟩ tab_nil))) a_nil)) (e_fld (e_var 0) (fld_mk (tab_cons ⟨T.cl2, T.na2_width, rfl, (show ("width" : Str) ∉ (["rows", "width"] : List Str).take 1 from by decide)⟩ tab_nil)))))))
theorem ok_Grid_determinant (T : Tx K mg) (hb : base.NoSeer) : FnOk P w K mg base (L2.CX P w) 36 (T.a 16) (T.fd 16) ["self"] (spD T.C 1 f_Grid_determinant) := fn_D T.F16 sc_Grid_determinant rfl (fun cdv A outer s H E hr => (s_cons (s_if (t_not (t_tru (e_meth0 (e_var 0) (tab_cons (mok_mk T.cl2 T.h15 T.g15 T.F15.kp (ok_Grid_is_square T hb) (hr.mono (by decide)) T.b15 .nil (show ("is_square" : Str) ∉ (["rows", "width"] : List Str) from by decide)) tab_nil) (passAt (takes_of rfl rfl rfl rfl))))) (s_one (s_raise rfl (takes_of rfl rfl rfl rfl) PySem.F.excBase_ValueError T.ex1 T.mc1 T.kp1 (raises_own T.ra1 T.rb1))) s_nil) (s_one (s_ret (e_call (ok_determinant T hb) (hr.mono (by decide)) T.m3 T.F3.kp T.b3 .nil (passAt (takes_of rfl rfl rfl rfl)) (c_cons (e_fld (e_var 0) (fld_mk (tab_cons ⟨T.cl2, T.na2_rows, rfl, (show ("rows" : Str) ∉ (["rows", "width"] : List Str).take 0 from by decide)⟩ tab_nil))) c_nil))))))
theorem ok_Grid_adjugate (T : Tx K mg) (hb : base.NoSeer) : FnOk P w K mg base (L2.CX P w) 36 (T.a 17) (T.fd 17) ["self"] (spD T.C 1 f_Grid_adjugate) := fn_D T.F17 sc_Grid_adjugate rfl (fun cdv A outer s H E hr => (s_cons (s_if (t_not (t_tru (e_meth0 (e_var 0) (tab_cons (mok_mk T.cl2 T.h15 T.g15 T.F15.kp (ok_Grid_is_square T hb) (hr.mono (by decide)) T.b15 .nil (show ("is_square" : Str) ∉ (["rows", "width"] : List Str) from by decide)) tab_nil) (passAt (takes_of rfl rfl rfl rfl))))) (s_one (s_raise rfl (takes_of rfl rfl rfl rfl) PySem.F.excBase_ValueError T.ex1 T.mc1 T.kp1 (raises_own T.ra1 T.rb1))) s_nil) (s_cons (s_set 1 sc_Grid_adjugate.nd (e_lst a_nil)) (s_cons (s_for (passes_of rfl) rfl (i_rng1 (by rfl) T.z_range (a_cons (e_fld (e_var 0) (fld_mk (tab_cons ⟨T.cl2, T.na2_width, rfl, (show ("width" : Str) ∉ (["rows", "width"] : List Str).take 1 from by decide)⟩ tab_nil))) a_nil) (len_cons len_nil)) (g_name 2 sc_Grid_adjugate.nd) (s_cons (s_set 3 sc_Grid_adjugate.nd (e_lst a_nil)) (s_cons (s_for (passes_of rfl) rfl (i_rng1 (by rfl) T.z_range (a_cons (e_fld (e_var 0) (fld_mk (tab_cons ⟨T.cl2, T.na2_width, rfl, (show ("width" : Str) ∉ (["rows", "width"] : List Str).take 1 from by decide)⟩ tab_nil))) a_nil) (len_cons len_nil)) (g_name 4 sc_Grid_adjugate.nd) (s_cons (s_set 5 sc_Grid_adjugate.nd (e_call (ok_determinant T hb) (hr.mono (by decide)) T.m3 T.F3.kp T.b3 .nil (passAt (takes_of rfl rfl rfl rfl)) (c_cons (e_call (ok_minor T hb) (hr.mono (by decide)) T.m4 T.F4.kp T.b4 .nil (passAt (takes_of rfl rfl rfl rfl)) (c_cons (e_fld (e_var 0) (fld_mk (tab_cons ⟨T.cl2, T.na2_rows, rfl, (show ("rows" : Str) ∉ (["rows", "width"] : List Str).take 0 from by decide)⟩ tab_nil))) (c_cons (e_var 4) (c_cons (e_var 2) c_nil)))) c_nil))) (s_one (s_app 3 (e_ifExp (t_cmp (op_eqD hr.units) (os_eq (by rfl)) (e_mod (e_add (e_var 2) (e_var 4)) e_int) e_int (nomark _)) (e_neg (e_var 5)) (e_var 5)))))) (s_one (s_app 1 (e_var 3)))))) (s_one (s_ret (e_make T.mk2 (ok_Grid_init T hb) (hr.mono (by decide)) T.mc2 T.b5 .nil rfl (passAt (takes_of rfl rfl rfl rfl)) (a_cons (e_var 1) (a_cons (e_fld (e_var 0) (fld_mk (tab_cons ⟨T.cl2, T.na2_width, rfl, (show ("width" : Str) ∉ (["rows", "width"] : List Str).take 1 from by decide)⟩ tab_nil))) a_nil)))))))))
theorem ok_Grid_is_unimodular (T : Tx K mg) (hb : base.NoSeer) : FnOk P w K mg base (L2.CX P w) 36 (T.a 18) (T.fd 18) ["self"] (spD T.C 1 f_Grid_is_unimodular) := fn_D T.F18 sc_Grid_is_unimodular rfl (fun cdv A outer s H E hr => (s_one (s_ret (e_andV (e_meth0 (e_var 0) (tab_cons (mok_mk T.cl2 T.h15 T.g15 T.F15.kp (ok_Grid_is_square T hb) (hr.mono (by decide)) T.b15 .nil (show ("is_square" : Str) ∉ (["rows", "width"] : List Str) from by decide)) tab_nil) (passAt (takes_of rfl rfl rfl rfl))) (e_one (e_eq hr (e_callB call_abs cs_abs (by rfl) T.z_abs boot_abs' (a_cons (e_call (ok_determinant T hb) (hr.mono (by decide)) T.m3 T.F3.kp T.b3 .nil (passAt (takes_of rfl rfl rfl rfl)) (c_cons (e_fld (e_var 0) (fld_mk (tab_cons ⟨T.cl2, T.na2_rows, rfl, (show ("rows" : Str) ∉ (["rows", "width"] : List Str).take 0 from by decide)⟩ tab_nil))) c_nil)) a_nil)) e_int))))))
theorem ok_law_cell (T : Tx K mg) (hb : base.NoSeer) : FnOk P w K mg base (L2.CX P w) 1 (T.a 19) (T.fd 19) ["_law_script", "_law_k"] (spD T.C 2 f_law_cell) := fn_D T.F19 sc_law_cell rfl (fun cdv A outer s H E hr => (s_cons (s_if (t_cmp op_ltV os_lt (e_var 1) (e_lenN 0 (by rfl) T.z_len) (nomark _)) (s_one (s_ret (e_idxN 0 (e_var 1)))) s_nil) (s_one (s_ret e_int))))
theorem ok_law_state (T : Tx K mg) (hb : base.NoSeer) : FnOk P w K mg base (L2.CX P w) 1 (T.a 20) (T.fd 20) ["_law_script"] (spD T.C 1 f_law_state) := fn_D T.F20 sc_law_state rfl (fun cdv A outer s H E hr => (s_cons (s_set 1 sc_law_state.nd e_int) (s_cons (s_set 2 sc_law_state.nd e_int) (s_cons (s_for (passes_of rfl) rfl (i_seq (e_sl (e_var 0) o_none (o_some e_int))) (g_name 3 sc_law_state.nd) (s_cons (s_set 1 sc_law_state.nd (e_add (e_mul (e_var 1) e_int) (e_callB call_abs cs_abs (by rfl) T.z_abs boot_abs' (a_cons (e_var 3) a_nil)))) (s_one (s_set 2 sc_law_state.nd (e_mod (e_callTy call_int1 cs_int (by rfl) T.z_int boot_int' (a_cons (e_add (e_mul (e_var 2) e_int) (e_var 3)) a_nil)) e_int))))) (s_one (s_ret (e_lst (a_cons (e_var 1) (a_cons (e_var 2) a_nil)))))))))
theorem ok_law_take (T : Tx K mg) (hb : base.NoSeer) : FnOk P w K mg base (L2.CX P w) 1 (T.a 21) (T.fd 21) ["_law_state_here", "_law_m"] (spD T.C 2 f_law_take) := fn_D T.F21 sc_law_take rfl (fun cdv A outer s H E hr => (s_cons (s_if (t_cmp op_gtV os_gt (e_idxN 0 e_int) e_int (nomark _)) (s_cons (s_set 2 sc_law_take.nd (e_mod (e_callTy call_int1 cs_int (by rfl) T.z_int boot_int' (a_cons (e_idxN 0 e_int) a_nil)) (e_var 1))) (s_cons (s_setI 0 (e_div (e_idxN 0 e_int) (e_var 1)) e_int) (s_one (s_ret (e_var 2))))) s_nil) (s_cons (s_setI 0 (e_mod (e_callTy call_int1 cs_int (by rfl) T.z_int boot_int' (a_cons (e_add (e_mul (e_idxN 0 e_int) e_int) e_int) a_nil)) e_int) e_int) (s_one (s_ret (e_mod (e_callTy call_int1 cs_int (by rfl) T.z_int boot_int' (a_cons (e_div (e_idxN 0 e_int) e_int) a_nil)) (e_var 1)))))))
theorem ok_law_rows (T : Tx K mg) (hb : base.NoSeer) : FnOk P w K mg base (L2.CX P w) 4 (T.a 22) (T.fd 22) ["_law_state_here", "_law_height", "_law_width", "_law_most"] (spD T.C 4 f_law_rows) := fn_D T.F22 sc_law_rows rfl (fun cdv A outer s H E hr => (s_cons (s_set 4 sc_law_rows.nd (e_lst a_nil)) (s_cons (s_for (passes_of rfl) rfl (i_rng1 (by rfl) T.z_range (a_cons (e_var 1) a_nil) (len_cons len_nil)) (g_name 5 sc_law_rows.nd) (s_one (s_app 4 (e_callTy call_tuple_of (cs_tuple (by rfl)) (by rfl) T.z_tuple boot_tuple' (a_cons (e_lc (own := [("_law_k", 6)]) rfl sc_law_rows.nd (blkOk_by (by kernel_rfl)) (i_rng1 (by rfl) T.z_range (a_cons (e_var 2) a_nil) (len_cons len_nil)) (fun _ _ _ _ _ => (g_name 6 sc_law_rows.nd)) (fun _ _ _ _ _ => ts_nil) (fun _ _ _ _ _ => (e_sub (e_call (ok_law_take T hb) (hr.mono (by decide)) T.m21 T.F21.kp T.b21 .nil (fun _ => passes0) (c_lend 0 (c_cons (e_add (e_mul e_int (e_var 3)) e_int) c_nil))) (e_var 3)))) a_nil))))) (s_cons (s_if ((w_and (t_cmp op_gtV os_gt (e_var 1) e_int (nomark _)) (w_and1 (t_cmp (op_eqD hr.units) (os_eq (by rfl)) (e_call (ok_law_take T hb) (hr.mono (by decide)) T.m21 T.F21.kp T.b21 .nil (passAt (takes_of rfl rfl rfl rfl)) (c_lend 0 (c_cons e_int c_nil))) e_int (nomark _))))).pt (s_one (s_setI 4 (e_callTy call_tuple_of (cs_tuple (by rfl)) (by rfl) T.z_tuple boot_tuple' (a_cons (e_lc (own := [("_law_k", 6)]) rfl sc_law_rows.nd (blkOk_by (by kernel_rfl)) (i_rng1 (by rfl) T.z_range (a_cons (e_var 2) a_nil) (len_cons len_nil)) (fun _ _ _ _ _ => (g_name 6 sc_law_rows.nd)) (fun _ _ _ _ _ => ts_nil) (fun _ _ _ _ _ => (e_mul (e_idx (e_idxN 4 e_int) (e_var 6)) e_int))) a_nil)) (e_sub (e_var 1) e_int))) s_nil) (s_one (s_ret (e_callTy call_tuple_of (cs_tuple (by rfl)) (by rfl) T.z_tuple boot_tuple' (a_cons (e_var 4) a_nil))))))))
theorem ok_law_product (T : Tx K mg) (hb : base.NoSeer) : FnOk P w K mg base (L2.CX P w) 1 (T.a 23) (T.fd 23) ["_law_a", "_law_b", "_law_width"] (spD T.C 3 f_law_product) := fn_D T.F23 sc_law_product rfl (fun cdv A outer s H E hr => (s_cons (s_set 3 sc_law_product.nd (e_lst a_nil)) (s_cons (s_for (passes_of rfl) rfl (i_seq (e_var 0)) (g_name 4 sc_law_product.nd) (s_cons (s_set 5 sc_law_product.nd (e_lst a_nil)) (s_cons (s_for (passes_of rfl) rfl (i_rng1 (by rfl) T.z_range (a_cons (e_var 2) a_nil) (len_cons len_nil)) (g_name 6 sc_law_product.nd) (s_cons (s_set 7 sc_law_product.nd e_int) (s_cons (s_for (passes_of rfl) rfl (i_rng1 (by rfl) T.z_range (a_cons (e_lenN 1 (by rfl) T.z_len) a_nil) (len_cons len_nil)) (g_name 8 sc_law_product.nd) (s_one (s_set 7 sc_law_product.nd (e_add (e_var 7) (e_mul (e_idxN 4 (e_var 8)) (e_idx (e_idxN 1 (e_var 8)) (e_var 6))))))) (s_one (s_app 5 (e_var 7)))))) (s_one (s_app 3 (e_callTy call_tuple_of (cs_tuple (by rfl)) (by rfl) T.z_tuple boot_tuple' (a_cons (e_var 5) a_nil))))))) (s_one (s_ret (e_callTy call_tuple_of (cs_tuple (by rfl)) (by rfl) T.z_tuple boot_tuple' (a_cons (e_var 3) a_nil)))))))
theorem ok_law_determinant (T : Tx K mg) (hb : base.NoSeer) : ∀ n, FnOk P w K mg base (L2.CX P w) (1 + 3 * n) (T.a 24) (T.fd 24) ["_law_rows_here"] (spD T.C 1 (f_law_determinant n))
  | 0 => fn_none
  | n + 1 => by
    have okr : FnOk P w K mg base (L2.CX P w) (1 + 3 * n) (T.a 24) (T.fd 24) ["_law_rows_here"] (spD T.C 1 (f_law_determinant n)) := ok_law_determinant T hb n
    have okk : FnOk P w K mg base (L2.CX P w) (1 + 3 * n + 2 + 1) (T.a 24) (T.fd 24) ["_law_rows_here"] (spD T.C 1 (f_law_determinant (n + 1))) := (fn_D (k := 1 + 3 * n + 2) (d := b_law_determinant (f_law_determinant n)) T.F24 sc_law_determinant rfl (fun cdv A outer s H E hr => (s_cons (s_if (t_cmp (op_eqD hr.units) (os_eq (by rfl)) (e_lenN 0 (by rfl) T.z_len) e_int (nomark _)) (s_one (s_ret e_int)) s_nil) (s_cons (s_set 1 sc_law_determinant.nd e_int) (s_cons (s_for (passes_of rfl) rfl (i_rng1 (by rfl) T.z_range (a_cons (e_lenN 0 (by rfl) T.z_len) a_nil) (len_cons len_nil)) (g_name 2 sc_law_determinant.nd) (s_one (s_if (t_cmp (op_neD hr.units) (os_ne (by rfl)) (e_idx (e_idxN 0 e_int) (e_var 2)) e_int (nomark _)) (s_cons (s_setLc 3 (hsw := rfl) (own := [("_law_row", 4)]) rfl sc_law_determinant.nd (blkOk_by (by kernel_rfl)) (i_seq (e_sl (e_var 0) (o_some e_int) o_none)) (fun _ _ _ _ _ => (g_name 4 sc_law_determinant.nd)) (fun _ _ _ _ _ => ts_nil) (fun _ _ _ _ _ => (e_add (e_sl (e_var 4) o_none (o_some (e_var 2))) (e_sl (e_var 4) (o_some (e_add (e_var 2) e_int)) o_none)))) (s_one (s_set 1 sc_law_determinant.nd (e_add (e_var 1) (e_mul (e_mul (e_sub e_int (e_mul e_int (e_mod (e_var 2) e_int))) (e_idx (e_idxN 0 e_int) (e_var 2))) (e_call okr (hr.mono (by omega)) T.m24 T.F24.kp T.b24 .nil (passAt (takes_of rfl rfl rfl rfl)) (c_cons (e_var 3) c_nil))))))) s_nil))) (s_one (s_ret (e_var 1))))))))
    exact okk.mono (by omega)
theorem ok_law_is_rows (T : Tx K mg) (hb : base.NoSeer) : FnOk P w K mg base (L2.CX P w) 4 (T.a 25) (T.fd 25) ["_law_value", "_law_height", "_law_width"] (spD T.C 3 f_law_is_rows) := fn_D T.F25 sc_law_is_rows rfl (fun cdv A outer s H E hr => (s_cons (s_if ((w_or (t_not (t_tru (e_isi (by rfl) T.z_isinstance (e_var 0) (pe_glob (v := .ref (T.ca 2)) (by rfl) T.mc2 rfl) (.own _) (isi_mk (tab_cons ⟨T.q_Grid_0, lowk (by decide)⟩ (tab_cons ⟨T.q_Grid_1, lowk (by decide)⟩ (tab_cons ⟨T.q_Grid_2, lowk (by decide)⟩ (tab_cons ⟨T.q_Grid_3, lowk (by decide)⟩ (tab_cons ⟨T.q_Grid_4, lowk (by decide)⟩ (tab_cons ⟨T.q_Grid_5, lowk (by decide)⟩ (tab_cons ⟨T.q_Grid_8, insk T.ins2⟩ tab_nil))))))))))) (w_or (t_not (t_tru (e_isi (by rfl) T.z_isinstance (e_fld (e_var 0) (fld_mk (tab_cons ⟨T.cl2, T.na2_rows, rfl, (show ("rows" : Str) ∉ (["rows", "width"] : List Str).take 0 from by decide)⟩ tab_nil))) (pe_bltn (v := .ty "tuple") (by rfl) T.z_tuple boot_tuple' rfl) (.ty "tuple") (isi_mk (tab_cons ⟨T.q_tuple_0, lowk (by decide)⟩ (tab_cons ⟨T.q_tuple_1, lowk (by decide)⟩ (tab_cons ⟨T.q_tuple_2, lowk (by decide)⟩ (tab_cons ⟨T.q_tuple_3, lowk (by decide)⟩ (tab_cons ⟨T.q_tuple_4, lowk (by decide)⟩ (tab_cons ⟨T.q_tuple_5, lowk (by decide)⟩ (tab_cons ⟨T.q_tuple_8, insk T.ins2⟩ tab_nil))))))))))) (w_or (t_cmp (op_neD hr.units) (os_ne (by rfl)) (e_fld (e_var 0) (fld_mk (tab_cons ⟨T.cl2, T.na2_width, rfl, (show ("width" : Str) ∉ (["rows", "width"] : List Str).take 1 from by decide)⟩ tab_nil))) (e_var 2) (nomark _)) (w_or1 (t_cmp (op_neD hr.units) (os_ne (by rfl)) (e_callB (call_ownLen (C := T.C) (owntbl_mk (tab_cons (own_mk T.h6 T.g6 (ok_Grid_len T hb) (hr.mono (by decide)) T.b6) tab_nil))) (cs_ownLen (by rfl)) (by rfl) T.z_len boot_len' (a_cons (e_var 0) a_nil)) (e_var 1) (nomark _))))))).pt (s_one (s_ret e_bl)) s_nil) (s_cons (s_for (passes_of rfl) rfl (i_seq (e_fld (e_var 0) (fld_mk (tab_cons ⟨T.cl2, T.na2_rows, rfl, (show ("rows" : Str) ∉ (["rows", "width"] : List Str).take 0 from by decide)⟩ tab_nil)))) (g_name 3 sc_law_is_rows.nd) (s_cons (s_if ((w_or (t_not (t_tru (e_isi (by rfl) T.z_isinstance (e_var 3) (pe_bltn (v := .ty "tuple") (by rfl) T.z_tuple boot_tuple' rfl) (.ty "tuple") (isi_mk (tab_cons ⟨T.q_tuple_0, lowk (by decide)⟩ (tab_cons ⟨T.q_tuple_1, lowk (by decide)⟩ (tab_cons ⟨T.q_tuple_2, lowk (by decide)⟩ (tab_cons ⟨T.q_tuple_3, lowk (by decide)⟩ (tab_cons ⟨T.q_tuple_4, lowk (by decide)⟩ (tab_cons ⟨T.q_tuple_5, lowk (by decide)⟩ (tab_cons ⟨T.q_tuple_8, insk T.ins2⟩ tab_nil))))))))))) (w_or1 (t_cmp (op_neD hr.units) (os_ne (by rfl)) (e_lenN 3 (by rfl) T.z_len) (e_var 2) (nomark _))))).pt (s_one (s_ret e_bl)) s_nil) (s_one (s_for (passes_of rfl) rfl (i_seq (e_var 3)) (g_name 4 sc_law_is_rows.nd) (s_one (s_if ((w_or (t_not (t_tru (e_isi (by rfl) T.z_isinstance (e_var 4) (pe_bltn (v := .ty "int") (by rfl) T.z_int boot_int' rfl) (.ty "int") (isi_mk (tab_cons ⟨T.q_int_0, lowk (by decide)⟩ (tab_cons ⟨T.q_int_1, lowk (by decide)⟩ (tab_cons ⟨T.q_int_2, lowk (by decide)⟩ (tab_cons ⟨T.q_int_3, lowk (by decide)⟩ (tab_cons ⟨T.q_int_4, lowk (by decide)⟩ (tab_cons ⟨T.q_int_5, lowk (by decide)⟩ (tab_cons ⟨T.q_int_8, insk T.ins2⟩ tab_nil))))))))))) (w_or1 (t_tru (e_isi (by rfl) T.z_isinstance (e_var 4) (pe_bltn (v := .ty "bool") (by rfl) T.z_bool boot_bool' rfl) (.ty "bool") (isi_mk (tab_cons ⟨T.q_bool_0, lowk (by decide)⟩ (tab_cons ⟨T.q_bool_1, lowk (by decide)⟩ (tab_cons ⟨T.q_bool_2, lowk (by decide)⟩ (tab_cons ⟨T.q_bool_3, lowk (by decide)⟩ (tab_cons ⟨T.q_bool_4, lowk (by decide)⟩ (tab_cons ⟨T.q_bool_5, lowk (by decide)⟩ (tab_cons ⟨T.q_bool_8, insk T.ins2⟩ tab_nil))))))))))))).pt (s_one (s_ret e_bl)) s_nil)))))) (s_one (s_ret e_bl)))))
theorem ok_law_refused (T : Tx K mg) (hb : base.NoSeer) : FnOk P w K mg base (L2.CX P w) 39 (T.a 26) (T.fd 26) ["_law_grid"] (spD T.C 1 f_law_refused) := fn_D T.F26 sc_law_refused rfl (fun cdv A outer s H E hr => (s_cons (s_set 1 sc_law_refused.nd e_int) (s_cons (s_try rfl rfl ⟨rfl, by decide, .inl T.mc1⟩ (takes_of rfl rfl rfl rfl) (exc_mk (tab_cons T.em1_1 tab_nil)) (fun W pn xe tk po => (s_one (s_expr (e_meth0 (e_var 0) (tab_cons (mok_mk T.cl2 T.h16 T.g16 T.F16.kp (ok_Grid_determinant T hb) (hr.mono (by decide)) T.b16 .nil (show ("determinant" : Str) ∉ (["rows", "width"] : List Str) from by decide)) tab_nil) (passAt tk))))) (fun a pn => (s_one (s_set 1 sc_law_refused.nd (e_add (e_var 1) e_int))))) (s_cons (s_try rfl rfl ⟨rfl, by decide, .inl T.mc1⟩ (takes_of rfl rfl rfl rfl) (exc_mk (tab_cons T.em1_1 tab_nil)) (fun W pn xe tk po => (s_one (s_expr (e_meth0 (e_var 0) (tab_cons (mok_mk T.cl2 T.h17 T.g17 T.F17.kp (ok_Grid_adjugate T hb) (hr.mono (by decide)) T.b17 .nil (show ("adjugate" : Str) ∉ (["rows", "width"] : List Str) from by decide)) tab_nil) (passAt tk))))) (fun a pn => (s_one (s_set 1 sc_law_refused.nd (e_add (e_var 1) e_int))))) (s_one (s_ret (e_andV (e_eq hr (e_var 1) e_int) (e_one (e_is (e_meth0 (e_var 0) (tab_cons (mok_mk T.cl2 T.h18 T.g18 T.F18.kp (ok_Grid_is_unimodular T hb) (hr.mono (by decide)) T.b18 .nil (show ("is_unimodular" : Str) ∉ (["rows", "width"] : List Str) from by decide)) tab_nil) (passAt (takes_of rfl rfl rfl rfl))) e_bl)))))))))
theorem ok_law (T : Tx K mg) (hb : base.NoSeer) : FnOk P w K mg base (L2.CX P w) 42 (T.a 27) (T.fd 27) ["_law_script"] (spD T.C 1 f_law) := fn_D T.F27 sc_law rfl (fun cdv A outer s H E hr => (s_cons (s_set 1 sc_law.nd (e_call (ok_law_state T hb) (hr.mono (by decide)) T.m20 T.F20.kp T.b20 .nil (passAt (takes_of rfl rfl rfl rfl)) (c_cons (e_var 0) c_nil))) (s_cons (s_set 2 sc_law.nd (e_call (ok_law_take T hb) (hr.mono (by decide)) T.m21 T.F21.kp T.b21 .nil (passAt (takes_of rfl rfl rfl rfl)) (c_lend 1 (c_cons e_int c_nil)))) (s_cons (s_set 3 sc_law.nd (e_call (ok_law_rows T hb) (hr.mono (by decide)) T.m22 T.F22.kp T.b22 .nil (passAt (takes_of rfl rfl rfl rfl)) (c_lend 1 (c_cons (e_var 2) (c_cons (e_var 2) (c_cons e_int c_nil)))))) (s_cons (s_set 4 sc_law.nd (e_call (ok_law_rows T hb) (hr.mono (by decide)) T.m22 T.F22.kp T.b22 .nil (passAt (takes_of rfl rfl rfl rfl)) (c_lend 1 (c_cons (e_var 2) (c_cons (e_var 2) (c_cons e_int c_nil)))))) (s_cons (s_if ((w_and (t_cmp op_gtV os_gt (e_var 2) e_int (nomark _)) (w_and1 (t_cmp (op_eqD hr.units) (os_eq (by rfl)) (e_call (ok_law_take T hb) (hr.mono (by decide)) T.m21 T.F21.kp T.b21 .nil (passAt (takes_of rfl rfl rfl rfl)) (c_lend 1 (c_cons e_int c_nil))) e_int (nomark _))))).pt (s_one (s_set 3 sc_law.nd (e_add (e_tup (a_cons (e_add (e_tup (a_cons (e_call (ok_law_cell T hb) (hr.mono (by decide)) T.m19 T.F19.kp T.b19 .nil (passAt (takes_of rfl rfl rfl rfl)) (c_cons (e_var 0) (c_cons e_int c_nil))) a_nil)) (e_sl (e_idxN 3 e_int) (o_some e_int) o_none)) a_nil)) (e_sl (e_var 3) (o_some e_int) o_none)))) s_nil) (s_cons (s_par 5 6 rfl sc_law.nd (a_cons (e_make T.mk2 (ok_Grid_init T hb) (hr.mono (by decide)) T.mc2 T.b5 .nil rfl (passAt (takes_of rfl rfl rfl rfl)) (a_cons (e_var 3) (a_cons (e_var 2) a_nil))) (a_cons (e_make T.mk2 (ok_Grid_init T hb) (hr.mono (by decide)) T.mc2 T.b5 .nil rfl (passAt (takes_of rfl rfl rfl rfl)) (a_cons (e_var 4) (a_cons (e_var 2) a_nil))) a_nil))) (s_cons (s_unp (e_tup (a_cons (e_call (ok_law_determinant T hb 6) (hr.mono (by decide)) T.m24 T.F24.kp T.b24 .nil (passAt (takes_of rfl rfl rfl rfl)) (c_cons (e_var 3) c_nil)) (a_cons (e_call (ok_law_determinant T hb 6) (hr.mono (by decide)) T.m24 T.F24.kp T.b24 .nil (passAt (takes_of rfl rfl rfl rfl)) (c_cons (e_var 4) c_nil)) a_nil))) (g_tup rfl (gs_cons (g_name 7 sc_law.nd) (gs_cons (g_name 8 sc_law.nd) gs_nil)))) (s_cons (s_if ((w_or (t_cmp (op_neD hr.units) (os_ne (by rfl)) (e_meth0 (e_var 5) (tab_cons (mok_mk T.cl2 T.h16 T.g16 T.F16.kp (ok_Grid_determinant T hb) (hr.mono (by decide)) T.b16 .nil (show ("determinant" : Str) ∉ (["rows", "width"] : List Str) from by decide)) tab_nil) (passAt (takes_of rfl rfl rfl rfl))) (e_var 7) (nomark _)) (w_or (t_tru (e_isi (by rfl) T.z_isinstance (e_meth0 (e_var 5) (tab_cons (mok_mk T.cl2 T.h16 T.g16 T.F16.kp (ok_Grid_determinant T hb) (hr.mono (by decide)) T.b16 .nil (show ("determinant" : Str) ∉ (["rows", "width"] : List Str) from by decide)) tab_nil) (passAt (takes_of rfl rfl rfl rfl))) (pe_bltn (v := .ty "bool") (by rfl) T.z_bool boot_bool' rfl) (.ty "bool") (isi_mk (tab_cons ⟨T.q_bool_0, lowk (by decide)⟩ (tab_cons ⟨T.q_bool_1, lowk (by decide)⟩ (tab_cons ⟨T.q_bool_2, lowk (by decide)⟩ (tab_cons ⟨T.q_bool_3, lowk (by decide)⟩ (tab_cons ⟨T.q_bool_4, lowk (by decide)⟩ (tab_cons ⟨T.q_bool_5, lowk (by decide)⟩ (tab_cons ⟨T.q_bool_8, insk T.ins2⟩ tab_nil)))))))))) (w_or (t_cmp (op_neD hr.units) (os_ne (by rfl)) (e_meth0 (e_opO op_mulV (os_mul (by rfl)) (optbl_mk (tab_cons ⟨(own_mk T.h11 T.g11 (ok_Grid_mul T hb) (hr.mono (by decide)) T.b11), T.sf2⟩ tab_nil)) (passAt (takes_of rfl rfl rfl rfl)) (e_var 5) (e_var 6)) (tab_cons (mok_mk T.cl2 T.h16 T.g16 T.F16.kp (ok_Grid_determinant T hb) (hr.mono (by decide)) T.b16 .nil (show ("determinant" : Str) ∉ (["rows", "width"] : List Str) from by decide)) tab_nil) (passAt (takes_of rfl rfl rfl rfl))) (e_mul (e_var 7) (e_var 8)) (nomark _)) (w_or1 (t_cmp (op_neD hr.units) (os_ne (by rfl)) (e_meth0 (e_meth0 (e_var 5) (tab_cons (mok_mk T.cl2 T.h13 T.g13 T.F13.kp (ok_Grid_transposed T hb) (hr.mono (by decide)) T.b13 .nil (show ("transposed" : Str) ∉ (["rows", "width"] : List Str) from by decide)) tab_nil) (passAt (takes_of rfl rfl rfl rfl))) (tab_cons (mok_mk T.cl2 T.h16 T.g16 T.F16.kp (ok_Grid_determinant T hb) (hr.mono (by decide)) T.b16 .nil (show ("determinant" : Str) ∉ (["rows", "width"] : List Str) from by decide)) tab_nil) (passAt (takes_of rfl rfl rfl rfl))) (e_var 7) (nomark _))))))).pt (s_one (s_ret e_bl)) s_nil) (s_cons (s_set 9 sc_law.nd (e_meth0 (e_var 5) (tab_cons (mok_mk T.cl2 T.h17 T.g17 T.F17.kp (ok_Grid_adjugate T hb) (hr.mono (by decide)) T.b17 .nil (show ("adjugate" : Str) ∉ (["rows", "width"] : List Str) from by decide)) tab_nil) (passAt (takes_of rfl rfl rfl rfl)))) (s_cons (s_if (t_not (t_tru (e_call (ok_law_is_rows T hb) (hr.mono (by decide)) T.m25 T.F25.kp T.b25 .nil (passAt (takes_of rfl rfl rfl rfl)) (c_cons (e_var 9) (c_cons (e_var 2) (c_cons (e_var 2) c_nil)))))) (s_one (s_ret e_bl)) s_nil) (s_cons (s_set 10 sc_law.nd (e_lst a_nil)) (s_cons (s_for (passes_of rfl) rfl (i_rng1 (by rfl) T.z_range (a_cons (e_var 2) a_nil) (len_cons len_nil)) (g_name 11 sc_law.nd) (s_cons (s_set 12 sc_law.nd (e_lst a_nil)) (s_cons (s_for (passes_of rfl) rfl (i_rng1 (by rfl) T.z_range (a_cons (e_var 2) a_nil) (len_cons len_nil)) (g_name 13 sc_law.nd) (s_cons (s_setLc 14 (hsw := rfl) (own := [("_law_row", 16)]) rfl sc_law.nd (blkOk_by (by kernel_rfl)) (i_seq (e_add (e_sl (e_var 3) o_none (o_some (e_var 13))) (e_sl (e_var 3) (o_some (e_add (e_var 13) e_int)) o_none))) (fun _ _ _ _ _ => (g_name 16 sc_law.nd)) (fun _ _ _ _ _ => ts_nil) (fun _ _ _ _ _ => (e_add (e_sl (e_var 16) o_none (o_some (e_var 11))) (e_sl (e_var 16) (o_some (e_add (e_var 11) e_int)) o_none)))) (s_one (s_app 12 (e_mul (e_sub e_int (e_mul e_int (e_mod (e_add (e_var 11) (e_var 13)) e_int))) (e_call (ok_law_determinant T hb 6) (hr.mono (by decide)) T.m24 T.F24.kp T.b24 .nil (passAt (takes_of rfl rfl rfl rfl)) (c_cons (e_var 14) c_nil))))))) (s_one (s_app 10 (e_callTy call_tuple_of (cs_tuple (by rfl)) (by rfl) T.z_tuple boot_tuple' (a_cons (e_var 12) a_nil))))))) (s_cons (s_if (t_cmp (op_neD hr.units) (os_ne (by rfl)) (e_fld (e_var 9) (fld_mk (tab_cons ⟨T.cl2, T.na2_rows, rfl, (show ("rows" : Str) ∉ (["rows", "width"] : List Str).take 0 from by decide)⟩ tab_nil))) (e_callTy call_tuple_of (cs_tuple (by rfl)) (by rfl) T.z_tuple boot_tuple' (a_cons (e_var 10) a_nil)) (nomark _)) (s_one (s_ret e_bl)) s_nil) (s_cons (s_set 15 sc_law.nd (e_callTy call_tuple_of (cs_tuple (by rfl)) (by rfl) T.z_tuple boot_tuple' (a_cons (e_lc (own := [("_law_i", 11)]) rfl sc_law.nd (blkOk_by (by kernel_rfl)) (i_rng1 (by rfl) T.z_range (a_cons (e_var 2) a_nil) (len_cons len_nil)) (fun _ _ _ _ _ => (g_name 11 sc_law.nd)) (fun _ _ _ _ _ => ts_nil) (fun _ _ _ _ _ => (e_callTy call_tuple_of (cs_tuple (by rfl)) (by rfl) T.z_tuple boot_tuple' (a_cons (e_lc (own := [("_law_k", 13)]) rfl sc_law.nd (blkOk_by (by kernel_rfl)) (i_rng1 (by rfl) T.z_range (a_cons (e_var 2) a_nil) (len_cons len_nil)) (fun _ _ _ _ _ => (g_name 13 sc_law.nd)) (fun _ _ _ _ _ => ts_nil) (fun _ _ _ _ _ => (e_mul (e_var 7) (e_callTy call_int1 cs_int (by rfl) T.z_int boot_int' (a_cons (e_eq hr (e_var 11) (e_var 13)) a_nil))))) a_nil)))) a_nil))) (s_cons (s_if ((w_or (t_cmp (op_neD hr.units) (os_ne (by rfl)) (e_call (ok_law_product T hb) (hr.mono (by decide)) T.m23 T.F23.kp T.b23 .nil (passAt (takes_of rfl rfl rfl rfl)) (c_cons (e_var 3) (c_cons (e_fld (e_var 9) (fld_mk (tab_cons ⟨T.cl2, T.na2_rows, rfl, (show ("rows" : Str) ∉ (["rows", "width"] : List Str).take 0 from by decide)⟩ tab_nil))) (c_cons (e_var 2) c_nil)))) (e_var 15) (nomark _)) (w_or1 (t_cmp (op_neD hr.units) (os_ne (by rfl)) (e_call (ok_law_product T hb) (hr.mono (by decide)) T.m23 T.F23.kp T.b23 .nil (passAt (takes_of rfl rfl rfl rfl)) (c_cons (e_fld (e_var 9) (fld_mk (tab_cons ⟨T.cl2, T.na2_rows, rfl, (show ("rows" : Str) ∉ (["rows", "width"] : List Str).take 0 from by decide)⟩ tab_nil))) (c_cons (e_var 3) (c_cons (e_var 2) c_nil)))) (e_var 15) (nomark _))))).pt (s_one (s_ret e_bl)) s_nil) (s_cons (s_if (t_cmp (op_neD hr.units) (os_ne (by rfl)) (e_meth0 (e_var 5) (tab_cons (mok_mk T.cl2 T.h18 T.g18 T.F18.kp (ok_Grid_is_unimodular T hb) (hr.mono (by decide)) T.b18 .nil (show ("is_unimodular" : Str) ∉ (["rows", "width"] : List Str) from by decide)) tab_nil) (passAt (takes_of rfl rfl rfl rfl))) (e_eq hr (e_callB call_abs cs_abs (by rfl) T.z_abs boot_abs' (a_cons (e_var 7) a_nil)) e_int) (nomark _)) (s_one (s_ret e_bl)) s_nil) (s_one (s_ret (e_call (ok_law_refused T hb) (hr.mono (by decide)) T.m26 T.F26.kp T.b26 .nil (passAt (takes_of rfl rfl rfl rfl)) (c_cons (e_make T.mk2 (ok_Grid_init T hb) (hr.mono (by decide)) T.mc2 T.b5 .nil rfl (passAt (takes_of rfl rfl rfl rfl)) (a_cons (e_lc (own := [("_law_i", 11)]) rfl sc_law.nd (blkOk_by (by kernel_rfl)) (i_rng1 (by rfl) T.z_range (a_cons (e_var 2) a_nil) (len_cons len_nil)) (fun _ _ _ _ _ => (g_name 11 sc_law.nd)) (fun _ _ _ _ _ => ts_nil) (fun _ _ _ _ _ => (e_lc (own := [("_law_k", 13)]) rfl sc_law.nd (blkOk_by (by kernel_rfl)) (i_rng1 (by rfl) T.z_range (a_cons (e_add (e_var 2) e_int) a_nil) (len_cons len_nil)) (fun _ _ _ _ _ => (g_name 13 sc_law.nd)) (fun _ _ _ _ _ => ts_nil) (fun _ _ _ _ _ => e_int)))) (a_cons (e_add (e_var 2) e_int) a_nil))) c_nil)))))))))))))))))))))
end
end L2.VD.K02

namespace L2.VD.K02
open PySem PySem.Spec PyProof.Rows
def m_law_state (v_script : List Int) : M (List Int) :=
  (M.ok (0 : Int)).bind fun v_seed_1 =>
  (M.ok (1 : Int)).bind fun v_total_2 =>
  (foldM (fun (s3 : Int × Int) (a4 : Int) =>
    ((mulM s3.1 (1000003 : Int)).bind fun t6 => M.ok (t6 + (absI a4))).bind fun v_seed_7 =>
  ((mulM s3.2 (48271 : Int)).bind fun t8 =>
  (modM (t8 + a4) (2147483647 : Int)).bind fun t9 => M.ok t9).bind fun v_total_10 => M.ok (v_seed_7, v_total_10)) (cutL v_script none (some (63 : Int))) (v_seed_1, v_total_2)).bind fun s11 => M.ok ([s11.1, s11.2])
theorem w_law_state (v_script : List Int) : FnR (f_law_state [.sh ((eQ T.int) v_script)]) (m_law_state v_script) (fun r => .fr (List.map T.int r)) :=
  fn_R (d1 := b_law_state) (e := [.sh ((eQ T.int) v_script), .un, .un, .un]) (rl_seqE (E := fun (r : Int) => [.sh ((eQ T.int) v_script), .sh (T.int r), .un, .un]) (u_set (rl_p (o := Out.sh (.int 0)) rfl (rl_setS (E := fun (r : Int) => [.sh ((eQ T.int) v_script), .sh (T.int r), .un, .un]) rfl))) (fun v_seed_1 => rl_seqE (E := fun (r : Int) => [.sh ((eQ T.int) v_script), .sh (T.int v_seed_1), .sh (T.int r), .un]) (u_set (rl_p (o := Out.sh (.int 1)) rfl (rl_setS (E := fun (r : Int) => [.sh ((eQ T.int) v_script), .sh (T.int v_seed_1), .sh (T.int r), .un]) rfl))) (fun v_total_2 => rl_seqP (P := fun (s11 : Int × Int) e => ∃ j12 : Jk, e = [.sh ((eQ T.int) v_script), .sh (T.int s11.1), .sh (T.int s11.2), j12.s]) (u_for (u_items (u_sl (rl_p (r_var rfl) (u_noPart (u_part (rl_p (o := Out.sh (.int 63)) rfl (rl_ofp rfl (rl_ofp (fSl_Q (f := T.int) (xs := v_script)) (rl_ofp (items_L (f := T.int) (xs := (cutL v_script none (some (63 : Int))))) (rl_for1 (f := T.int) (P := fun (s3 : Int × Int) e => ∃ j5 : Jk, e = [.sh ((eQ T.int) v_script), .sh (T.int s3.1), .sh (T.int s3.2), j5.s]) (fun s3 a4 e h => (by obtain ⟨j5, rfl⟩ := h; exact ⟨_, (gN_ok rfl j5.h), (rl_seqE (E := fun (r : Int) => [.sh ((eQ T.int) v_script), .sh (T.int r), .sh (T.int s3.2), .sh (T.int a4)]) (u_set (u_op (u_op (rl_p (r_var rfl) (rl_p (o := Out.sh (.int 1000003)) rfl (rl_of op_mulI (fun t6 => u_cb (u_cons (rl_p (r_var rfl) (u_nil (rl_ofp op_absI (rl_ofp op_addI (rl_setS (E := fun (r : Int) => [.sh ((eQ T.int) v_script), .sh (T.int r), .sh (T.int s3.2), .sh (T.int a4)]) rfl))))))))))))) (fun v_seed_7 => rl_last (rl_seqE (E := fun (r : Int) => [.sh ((eQ T.int) v_script), .sh (T.int v_seed_7), .sh (T.int r), .sh (T.int a4)]) (u_set (u_op (u_cb (u_cons (u_op (u_op (rl_p (r_var rfl) (rl_p (o := Out.sh (.int 48271)) rfl (rl_of op_mulI (fun t8 => rl_p (r_var rfl) (rl_ofp op_addI (u_nil (rl_ofp op_intI (rl_p (o := Out.sh (.int 2147483647)) rfl (rl_of op_modI (fun t9 => rl_setS (E := fun (r : Int) => [.sh ((eQ T.int) v_script), .sh (T.int v_seed_7), .sh (T.int r), .sh (T.int a4)]) rfl)))))))))))))))) (fun v_total_10 => rl_nx ⟨.inl rfl, ⟨⟨.sh (T.int a4), rfl⟩, rfl⟩⟩))))⟩)) ⟨⟨.un, rfl⟩, rfl⟩))))))))))) (fun s11 e h => (by obtain ⟨j12, rfl⟩ := h; exact rl_last (rl_rts (rl_ret (k := fun (r : List Int) => .fr (List.map T.int r)) (fun (r : List Int) => [.sh ((eQ T.int) v_script), .sh (T.int s11.1), .sh (T.int s11.2), j12.s]) (rl_top (u_lst (u_cons (rl_p (r_var rfl) (u_cons (rl_p (r_var rfl) (u_nil (rl_fits rfl (rl_p (o := Out.fr (([s11.1, s11.2] : List Int).map T.int)) rfl (rl_k)))))))))))))))))
def m_law_take (v_state_here : List Int) (v_m : Int) : M (Int × List Int) :=
  (idxM v_state_here (0 : Int)).bind fun t1 =>
  if (decide ((0 : Int) < t1)) = true then
  ((idxM v_state_here (0 : Int)).bind fun t2 =>
  (modM t2 v_m).bind fun t3 => M.ok t3).bind fun v_value_4 =>
  ((idxM v_state_here (0 : Int)).bind fun t5 =>
  (divM t5 v_m).bind fun t6 =>
  (setM v_state_here (0 : Int) t6).bind fun z7 => M.ok z7).bind fun v_state_here_8 =>
  (M.ok v_value_4).bind fun r => M.ok (r, v_state_here_8)
  else
  ((idxM v_state_here (1 : Int)).bind fun t9 =>
  (mulM t9 (48271 : Int)).bind fun t10 =>
  (modM (t10 + (11 : Int)) (2147483647 : Int)).bind fun t11 =>
  (setM v_state_here (1 : Int) t11).bind fun z12 => M.ok z12).bind fun v_state_here_13 =>
  ((idxM v_state_here_13 (1 : Int)).bind fun t14 =>
  (divM t14 (7 : Int)).bind fun t15 =>
  (modM t15 v_m).bind fun t16 => M.ok t16).bind fun r => M.ok (r, v_state_here_13)
theorem w_law_take (v_state_here : List Int) (v_m : Int) : FnL 0 (f_law_take [.ol true (List.map T.int v_state_here), .sh (T.int v_m)]) (m_law_take v_state_here v_m) (fun r => .sh (T.int r)) (fun s => List.map T.int s) :=
  fn_L (d1 := b_law_take) (e := [.ol true (List.map T.int v_state_here), .sh (T.int v_m), .un]) (u_ifR (u_tst (u_op (u_idxO rfl (rl_p (o := Out.sh (.int 0)) rfl (rl_ol rfl (rl_of (fIdx_L (f := T.int) (xs := v_state_here)) (fun t1 => rl_p (o := Out.sh (.int 0)) rfl (rl_ofp op_gtI (rl_ofp rfl (rl_ite (rl_seqa (rl_seqE (E := fun (r : Int) => [.ol true (List.map T.int v_state_here), .sh (T.int v_m), .sh (T.int r)]) (u_set (u_op (u_cb (u_cons (u_idxO rfl (rl_p (o := Out.sh (.int 0)) rfl (rl_ol rfl (rl_of (fIdx_L (f := T.int) (xs := v_state_here)) (fun t2 => u_nil (rl_ofp op_intI (rl_p (r_var rfl) (rl_of op_modI (fun t3 => rl_setS (E := fun (r : Int) => [.ol true (List.map T.int v_state_here), .sh (T.int v_m), .sh (T.int r)]) rfl))))))))))))) (fun v_value_4 => rl_seqa (rl_seqE (E := fun (r : List Int) => [.ol true (List.map T.int r), .sh (T.int v_m), .sh (T.int v_value_4)]) (u_setI (u_op (u_idxO rfl (rl_p (o := Out.sh (.int 0)) rfl (rl_ol rfl (rl_of (fIdx_L (f := T.int) (xs := v_state_here)) (fun t5 => rl_p (r_var rfl) (rl_of op_divI (fun t6 => rl_onOl rfl (rl_p (o := Out.sh (.int 0)) rfl (rl_put (xs := v_state_here) (v := t6) (j := (0 : Int)) (f := T.int) (r := fun z7 => z7) rfl rfl rfl (fun _ => ⟨rfl, rfl⟩)))))))))))) (fun v_state_here_8 => rl_rts (rl_retG (k := fun (r : Int) => .sh (T.int r)) (E := fun (r : Int) => [.ol true (List.map T.int v_state_here_8), .sh (T.int v_m), .sh (T.int v_value_4)]) (g := fun (r : Int) => (r, v_state_here_8)) (rl_top (rl_p (r_var rfl) (rl_k))) (fun _ => ⟨rfl, rfl⟩))))))) (rl_nx0 (rl_seqE (E := fun (r : List Int) => [.ol true (List.map T.int r), .sh (T.int v_m), .un]) (u_setI (u_op (u_cb (u_cons (u_op (u_op (u_idxO rfl (rl_p (o := Out.sh (.int 1)) rfl (rl_ol rfl (rl_of (fIdx_L (f := T.int) (xs := v_state_here)) (fun t9 => rl_p (o := Out.sh (.int 48271)) rfl (rl_of op_mulI (fun t10 => rl_p (o := Out.sh (.int 11)) rfl (rl_ofp op_addI (u_nil (rl_ofp op_intI (rl_p (o := Out.sh (.int 2147483647)) rfl (rl_of op_modI (fun t11 => rl_onOl rfl (rl_p (o := Out.sh (.int 1)) rfl (rl_put (xs := v_state_here) (v := t11) (j := (1 : Int)) (f := T.int) (r := fun z12 => z12) rfl rfl rfl (fun _ => ⟨rfl, rfl⟩)))))))))))))))))))))) (fun v_state_here_13 => rl_last (rl_rts (rl_retG (k := fun (r : Int) => .sh (T.int r)) (E := fun (r : Int) => [.ol true (List.map T.int v_state_here_13), .sh (T.int v_m), .un]) (g := fun (r : Int) => (r, v_state_here_13)) (rl_top (u_op (u_cb (u_cons (u_op (u_idxO rfl (rl_p (o := Out.sh (.int 1)) rfl (rl_ol rfl (rl_of (fIdx_L (f := T.int) (xs := v_state_here_13)) (fun t14 => rl_p (o := Out.sh (.int 7)) rfl (rl_of op_divI (fun t15 => u_nil (rl_ofp op_intI (rl_p (r_var rfl) (rl_of op_modI (fun t16 => rl_k)))))))))))))))) (fun _ => ⟨rfl, rfl⟩)))))))))))))))))
def m_law_rows (v_state_here : List Int) (v_height : Int) (v_width : Int) (v_most : Int) : M ((List (List Int)) × List Int) :=
  (M.ok ([] : List (List Int))).bind fun v_rows_here_1 =>
  ((rng1M v_height).bind fun r2 =>
  foldM (fun (s3 : (List Int) × (List (List Int))) (a4 : Int) =>
    ((rng1M v_width).bind fun r6 =>
  (lcsM r6 s3.1 fun (s11 : List Int) (a7 : Int) =>
    (mulM (2 : Int) v_most).bind fun t12 =>
  (m_law_take s11 (t12 + (1 : Int))).bind fun t13 => M.ok ((t13.1 - v_most), t13.2)).bind fun t10 =>
  (appM s3.2 t10.1).bind fun z14 => M.ok (z14, t10.2)).bind fun v_rows_here_15 => M.ok (v_rows_here_15.2, v_rows_here_15.1)) r2 (v_state_here, v_rows_here_1)).bind fun s16 =>
  ((if (decide ((1 : Int) < v_height)) = true then (m_law_take s16.1 (5 : Int)).bind fun t18 => M.ok ((decide (t18.1 = (0 : Int))), t18.2) else M.ok (false, s16.1)).bind fun t19 =>
  if t19.1 = true then ((rng1M v_width).bind fun r21 =>
  (lcM r21 fun a22 =>
    (idxM s16.2 (0 : Int)).bind fun t23 =>
  (idxM t23 a22).bind fun t24 =>
  (mulM t24 (2 : Int)).bind fun t25 => M.ok t25).bind fun t26 =>
  (setM s16.2 (v_height - (1 : Int)) t26).bind fun z27 => M.ok z27).bind fun v_rows_here_28 => M.ok (t19.2, v_rows_here_28) else M.ok (t19.2, s16.2)).bind fun s29 =>
  (M.ok s29.2).bind fun r => M.ok (r, s29.1)
theorem w_law_rows (v_state_here : List Int) (v_height : Int) (v_width : Int) (v_most : Int) : FnL 0 (f_law_rows [.ol true (List.map T.int v_state_here), .sh (T.int v_height), .sh (T.int v_width), .sh (T.int v_most)]) (m_law_rows v_state_here v_height v_width v_most) (fun r => .sh ((eT (eT T.int)) r)) (fun s => List.map T.int s) :=
  fn_L (d1 := b_law_rows) (e := [.ol true (List.map T.int v_state_here), .sh (T.int v_height), .sh (T.int v_width), .sh (T.int v_most), .un, .un, .un]) (rl_seqE (E := fun (r : List (List Int)) => [.ol true (List.map T.int v_state_here), .sh (T.int v_height), .sh (T.int v_width), .sh (T.int v_most), .ol false (List.map (eT T.int) r), .un, .un]) (u_set (u_lst (u_nil (rl_fits rfl (rl_p (o := Out.fr (([] : List (List Int)).map (eT T.int))) rfl (rl_setS (E := fun (r : List (List Int)) => [.ol true (List.map T.int v_state_here), .sh (T.int v_height), .sh (T.int v_width), .sh (T.int v_most), .ol false (List.map (eT T.int) r), .un, .un]) rfl)))))) (fun v_rows_here_1 => rl_seqP (P := fun (s16 : (List Int) × (List (List Int))) e => ∃ j17 : Jk, e = [.ol true (List.map T.int s16.1), .sh (T.int v_height), .sh (T.int v_width), .sh (T.int v_most), .ol false (List.map (eT T.int) s16.2), j17.s, .un]) (u_for (u_rng (u_cons (rl_p (r_var rfl) (u_nil (rl_of op_rng1 (fun r2 => rl_for1 (f := T.int) (P := fun (s3 : (List Int) × (List (List Int))) e => ∃ j5 : Jk, e = [.ol true (List.map T.int s3.1), .sh (T.int v_height), .sh (T.int v_width), .sh (T.int v_most), .ol false (List.map (eT T.int) s3.2), j5.s, .un]) (fun s3 a4 e h => (by obtain ⟨j5, rfl⟩ := h; exact ⟨_, (gN_ok rfl j5.h), (rl_last (rl_seqE (E := fun (r : (List (List Int)) × (List Int)) => [.ol true (List.map T.int r.2), .sh (T.int v_height), .sh (T.int v_width), .sh (T.int v_most), .ol false (List.map (eT T.int) r.1), .sh (T.int a4), .un]) (u_app rfl (u_cb (u_cons (u_lc (u_rng (u_cons (rl_p (r_var rfl) (u_nil (rl_of op_rng1 (fun r6 => rl_lcs (Z := _) (fun (s11 : List Int) => [.ol true (List.map T.int s11), .sh (T.int v_height), .sh (T.int v_width), .sh (T.int v_most), .ol false (List.map (eT T.int) s3.2), .sh (T.int a4), .un]) (fun (s11 : List Int) (a7 : Int) => [.ol true (List.map T.int s11), .sh (T.int v_height), .sh (T.int v_width), .sh (T.int v_most), .ol false (List.map (eT T.int) s3.2), .sh (T.int a4), .sh (T.int a7)]) (fun (s11 : List Int) (a7 : Int) (r : Int × (List Int)) => [.ol true (List.map T.int r.2), .sh (T.int v_height), .sh (T.int v_width), .sh (T.int v_most), .ol false (List.map (eT T.int) s3.2), .sh (T.int a4), .sh (T.int a7)]) (fun (s11 : List Int) => [.ol true (List.map T.int s11), .sh (T.int v_height), .sh (T.int v_width), .sh (T.int v_most), .ol false (List.map (eT T.int) s3.2), .sh (T.int a4), .un]) (kb := T.int) (k := fun (r : Int × (List Int)) => .sh (T.int r.1)) (fun s11 a7 => (gN_ok rfl rfl)) (fun s11 a7 => rl_top (u_op (u_call (u_clend rfl (u_cval (u_op (u_op (rl_p (o := Out.sh (.int 2)) rfl (rl_p (r_var rfl) (rl_of op_mulI (fun t12 => rl_p (o := Out.sh (.int 1)) rfl (rl_ofp op_addI (u_cnil (rl_runL (k := fun (r : Int) => .sh (T.int r)) (us := [T.int (t12 + (1 : Int))]) (E := fun (s : List Int) => [.ol true (List.map T.int s), .sh (T.int v_height), .sh (T.int v_width), .sh (T.int v_most), .ol false (List.map (eT T.int) s3.2), .sh (T.int a4), .sh (T.int a7)]) (w_law_take s11 (t12 + (1 : Int))) rfl (fun _ => rfl) (fun t13 => rl_p (r_var rfl) (rl_ofp op_subI (rl_k))))))))))))))))) (fun t10 => u_nil (rl_ofp (fTuple_L (f := T.int) (xs := t10.1)) (rl_app (xs := s3.2) (v := t10.1) (f := (eT T.int)) (r := fun z14 => (z14, t10.2)) rfl rfl (fun _ => ⟨rfl, rfl⟩)))))))))))))) (fun v_rows_here_15 => rl_nx ⟨.inl rfl, ⟨⟨.sh (T.int a4), rfl⟩, rfl⟩⟩)))⟩)) ⟨⟨.un, rfl⟩, rfl⟩))))))) (fun s16 e h => (by obtain ⟨j17, rfl⟩ := h; exact rl_seqP (P := fun (s29 : (List Int) × (List (List Int))) e => e = [.ol true (List.map T.int s29.1), .sh (T.int v_height), .sh (T.int v_width), .sh (T.int v_most), .ol false (List.map (eT T.int) s29.2), j17.s, .un]) (u_ifS (u_and (u_tst (u_op (rl_p (r_var rfl) (rl_p (o := Out.sh (.int 1)) rfl (rl_ofp op_gtI (rl_ofp rfl (rl_andm (k := fun (r : Bool × (List Int)) => r.1) (E := fun (r : Bool × (List Int)) => [.ol true (List.map T.int r.2), .sh (T.int v_height), .sh (T.int v_width), .sh (T.int v_most), .ol false (List.map (eT T.int) s16.2), j17.s, .un]) (a0 := (false, s16.1)) (rl_top (u_tst (u_op (u_call (u_clend rfl (u_cval (rl_p (o := Out.sh (.int 5)) rfl (u_cnil (rl_runL (k := fun (r : Int) => .sh (T.int r)) (us := [T.int (5 : Int)]) (E := fun (s : List Int) => [.ol true (List.map T.int s), .sh (T.int v_height), .sh (T.int v_width), .sh (T.int v_most), .ol false (List.map (eT T.int) s16.2), j17.s, .un]) (w_law_take s16.1 (5 : Int)) rfl (fun _ => rfl) (fun t18 => rl_p (o := Out.sh (.int 0)) rfl (rl_ofp (op_eq (f := T.int) (a := t18.1) (b := (0 : Int)) (by decide)) (rl_ofp rfl (rl_k))))))))))))) (fun t19 => rl_ite (rl_last (rl_seqE (E := fun (r : List (List Int)) => [.ol true (List.map T.int t19.2), .sh (T.int v_height), .sh (T.int v_width), .sh (T.int v_most), .ol false (List.map (eT T.int) r), j17.s, .un]) (u_setI (u_cb (u_cons (u_lc (u_rng (u_cons (rl_p (r_var rfl) (u_nil (rl_of op_rng1 (fun r21 => rl_lc (fun (a22 : Int) => [.ol true (List.map T.int t19.2), .sh (T.int v_height), .sh (T.int v_width), .sh (T.int v_most), .ol false (List.map (eT T.int) s16.2), j17.s, .sh (T.int a22)]) (fun (a22 : Int) (r : Int) => [.ol true (List.map T.int t19.2), .sh (T.int v_height), .sh (T.int v_width), .sh (T.int v_most), .ol false (List.map (eT T.int) s16.2), j17.s, .sh (T.int a22)]) (kb := T.int) (k := fun (r : Int) => .sh (T.int r)) (fun a22 => (gN_ok rfl rfl)) (fun a22 => rl_top (u_op (u_op (u_idxO rfl (rl_p (o := Out.sh (.int 0)) rfl (rl_ol rfl (rl_of (fIdx_L (f := (eT T.int)) (xs := s16.2)) (fun t23 => rl_p (r_var rfl) (rl_of (fIdx_T (f := T.int) (xs := t23)) (fun t24 => rl_p (o := Out.sh (.int 2)) rfl (rl_of op_mulI (fun t25 => rl_k)))))))))))) (fun t26 => u_nil (rl_ofp (fTuple_L (f := T.int) (xs := t26)) (rl_onOl rfl (u_op (rl_p (r_var rfl) (rl_p (o := Out.sh (.int 1)) rfl (rl_ofp op_subI (rl_put (xs := s16.2) (v := t26) (j := (v_height - (1 : Int))) (f := (eT T.int)) (r := fun z27 => z27) rfl rfl rfl (fun _ => ⟨rfl, rfl⟩))))))))))))))))))) (fun v_rows_here_28 => rl_nx ⟨rfl, rfl⟩))) (rl_nx ⟨rfl, rfl⟩))))))))))) (fun s29 e h => (by obtain rfl := h; exact rl_last (rl_rts (rl_retG (k := fun (r : List (List Int)) => .sh ((eT (eT T.int)) r)) (E := fun (r : List (List Int)) => [.ol true (List.map T.int s29.1), .sh (T.int v_height), .sh (T.int v_width), .sh (T.int v_most), .sh ((eL (eT T.int)) s29.2), j17.s, .un]) (g := fun (r : List (List Int)) => (r, s29.1)) (rl_top (u_cb (u_cons (rl_p (e1 := [.ol true (List.map T.int s29.1), .sh (T.int v_height), .sh (T.int v_width), .sh (T.int v_most), .sh ((eL (eT T.int)) s29.2), j17.s, .un]) (r_varO rfl) (u_nil (rl_ofp (fTuple_L (f := (eT T.int)) (xs := s29.2)) (rl_k))))))) (fun _ => ⟨rfl, rfl⟩)))))))))
def m_law_cell (v_script : List Int) (v_k : Int) : M (Int) :=
  if (decide (v_k < (v_script.length : Int))) = true then
  (idxM v_script v_k).bind fun t1 => M.ok t1
  else
  M.ok (0 : Int)
theorem w_law_cell (v_script : List Int) (v_k : Int) : FnR (f_law_cell [.sh ((eQ T.int) v_script), .sh (T.int v_k)]) (m_law_cell v_script v_k) (fun r => .sh (T.int r)) :=
  fn_R (d1 := b_law_cell) (e := [.sh ((eQ T.int) v_script), .sh (T.int v_k)]) (u_ifR (u_tst (u_op (rl_p (r_var rfl) (rl_p (lenN_Q (f := T.int) (xs := v_script) rfl) (rl_ofp op_ltI (rl_ofp rfl (rl_ite (rl_rts (rl_ret (k := fun (r : Int) => .sh (T.int r)) (fun (r : Int) => [.sh ((eQ T.int) v_script), .sh (T.int v_k)]) (rl_top (u_idxN (t := (eQ T.int) v_script) rfl (rl_p (r_var rfl) (rl_of (fIdx_Q (f := T.int) (xs := v_script)) (fun t1 => rl_k))))))) (rl_nx0 (rl_last (rl_rts (rl_ret (k := fun (r : Int) => .sh (T.int r)) (fun (r : Int) => [.sh ((eQ T.int) v_script), .sh (T.int v_k)]) (rl_top (rl_p (o := Out.sh (.int 0)) rfl (rl_k)))))))))))))))
def m_is_integer (v_value : Int) : M (Bool) :=
  M.ok true
theorem w_is_integer (v_value : Int) : FnR (f_is_integer [.sh (T.int v_value)]) (m_is_integer v_value) (fun r => .sh (T.bl r)) :=
  fn_R (d1 := b_is_integer) (e := [.sh (T.int v_value)]) (rl_last (rl_rts (rl_ret (k := fun (r : Bool) => .sh (T.bl r)) (fun (r : Bool) => [.sh (T.int v_value)]) (rl_top (u_andV (u_isi (rl_p (r_var rfl) (rl_ofp (v := true) rfl (rl_ofp rfl (rl_itebT (u_notV (u_isi (rl_p (r_var rfl) (rl_ofp (v := false) rfl (rl_ofp rfl (rl_k))))))))))))))))
def m_checked (v_rows : List (List Int)) (v_width : Int) : M (List (List Int)) :=
  (M.ok ([] : List (List Int))).bind fun v_out_1 =>
  (foldM (fun (s2 : List (List Int)) (a3 : List Int) =>
    (if (!decide ((a3.length : Int) = v_width)) = true then M.ex ⟨1, []⟩ else M.ok ()).bind fun _ =>
  (foldM (fun (s8 : Unit) (a9 : Int) =>
    ((m_is_integer a9).bind fun t11 =>
  if (!t11) = true then M.ex ⟨1, []⟩ else M.ok ()).bind fun _ => M.ok ()) a3 ()).bind fun _ =>
  ((appM s2 a3).bind fun z16 => M.ok z16).bind fun v_out_17 => M.ok v_out_17) v_rows v_out_1).bind fun s18 => M.ok s18
theorem w_checked (v_rows : List (List Int)) (v_width : Int) : FnR (f_checked [.sh ((eT (eT T.int)) v_rows), .sh (T.int v_width)]) (m_checked v_rows v_width) (fun r => .sh ((eT (eT T.int)) r)) :=
  fn_R (d1 := b_checked) (e := [.sh ((eT (eT T.int)) v_rows), .sh (T.int v_width), .un, .un, .un]) (rl_seqE (E := fun (r : List (List Int)) => [.sh ((eT (eT T.int)) v_rows), .sh (T.int v_width), .ol false (List.map (eT T.int) r), .un, .un]) (u_set (u_lst (u_nil (rl_fits rfl (rl_p (o := Out.fr (([] : List (List Int)).map (eT T.int))) rfl (rl_setS (E := fun (r : List (List Int)) => [.sh ((eT (eT T.int)) v_rows), .sh (T.int v_width), .ol false (List.map (eT T.int) r), .un, .un]) rfl)))))) (fun v_out_1 => rl_seqP (P := fun (s18 : List (List Int)) e => ∃ j19 : Jk, ∃ j20 : Jk, e = [.sh ((eT (eT T.int)) v_rows), .sh (T.int v_width), .ol false (List.map (eT T.int) s18), j19.s, j20.s]) (u_for (u_items (rl_p (r_var rfl) (rl_ofp (items_T (f := (eT T.int)) (xs := v_rows)) (rl_for1 (f := (eT T.int)) (P := fun (s2 : List (List Int)) e => ∃ j4 : Jk, ∃ j5 : Jk, e = [.sh ((eT (eT T.int)) v_rows), .sh (T.int v_width), .ol false (List.map (eT T.int) s2), j4.s, j5.s]) (fun s2 a3 e h => (by obtain ⟨j4, j5, rfl⟩ := h; exact ⟨_, (gN_ok rfl j4.h), (rl_seqP (P := fun (s7 : Unit) e => e = [.sh ((eT (eT T.int)) v_rows), .sh (T.int v_width), .ol false (List.map (eT T.int) s2), .sh ((eT T.int) a3), j5.s]) (u_ifS (u_or (u_not (u_tru (u_isi (rl_p (r_var rfl) (rl_ofp (v := true) rfl (rl_ofp rfl (rl_itebF (u_tst (u_op (rl_p (lenN_T (f := T.int) (xs := a3) rfl) (rl_p (r_var rfl) (rl_ofp (op_ne (f := T.int) (a := (a3.length : Int)) (b := v_width) (by decide)) (rl_ofp rfl (rl_ite (rl_last (rl_raises trivial)) (rl_nx ⟨rfl, rfl⟩))))))))))))))))) (fun s7 e h => (by obtain rfl := h; exact rl_seqP (P := fun (s14 : Unit) e => ∃ j15 : Jk, e = [.sh ((eT (eT T.int)) v_rows), .sh (T.int v_width), .ol false (List.map (eT T.int) s2), .sh ((eT T.int) a3), j15.s]) (u_for (u_items (rl_p (r_var rfl) (rl_ofp (items_T (f := T.int) (xs := a3)) (rl_for1 (f := T.int) (P := fun (s8 : Unit) e => ∃ j10 : Jk, e = [.sh ((eT (eT T.int)) v_rows), .sh (T.int v_width), .ol false (List.map (eT T.int) s2), .sh ((eT T.int) a3), j10.s]) (fun s8 a9 e h => (by obtain ⟨j10, rfl⟩ := h; exact ⟨_, (gN_ok rfl j10.h), (rl_last (rl_seqP (P := fun (s13 : Unit) e => e = [.sh ((eT (eT T.int)) v_rows), .sh (T.int v_width), .ol false (List.map (eT T.int) s2), .sh ((eT T.int) a3), .sh (T.int a9)]) (u_ifS (u_not (u_tru (u_call (u_cval (rl_p (r_var rfl) (u_cnil (rl_run (np := 1) (F := f_is_integer) (ss := [.sh (T.int a9)]) (k := fun (r : Bool) => .sh (T.bl r)) (w_is_integer a9) (fun _ => trivial) (fun t11 => rl_ofp rfl (rl_ite (rl_last (rl_raises trivial)) (rl_nx ⟨rfl, rfl⟩))))))))))) (fun s13 e h => (by obtain rfl := h; exact rl_nx ⟨.inl rfl, ⟨⟨.sh (T.int a9), rfl⟩, rfl⟩⟩))))⟩)) ⟨j5, rfl⟩))))) (fun s14 e h => (by obtain ⟨j15, rfl⟩ := h; exact rl_last (rl_seqE (E := fun (r : List (List Int)) => [.sh ((eT (eT T.int)) v_rows), .sh (T.int v_width), .ol false (List.map (eT T.int) r), .sh ((eT T.int) a3), j15.s]) (u_app rfl (u_cb (u_cons (rl_p (r_var rfl) (u_nil (rl_ofp (fTuple_T (f := T.int) (xs := a3)) (rl_app (xs := s2) (v := a3) (f := (eT T.int)) (r := fun z16 => z16) rfl rfl (fun _ => ⟨rfl, rfl⟩)))))))) (fun v_out_17 => rl_nx ⟨.inl rfl, ⟨⟨.sh ((eT T.int) a3), rfl⟩, j15, rfl⟩⟩)))))))⟩)) ⟨⟨.un, rfl⟩, ⟨.un, rfl⟩, rfl⟩))))) (fun s18 e h => (by obtain ⟨j19, j20, rfl⟩ := h; exact rl_last (rl_rts (rl_ret (k := fun (r : List (List Int)) => .sh ((eT (eT T.int)) r)) (fun (r : List (List Int)) => [.sh ((eT (eT T.int)) v_rows), .sh (T.int v_width), .sh ((eL (eT T.int)) s18), j19.s, j20.s]) (rl_top (u_cb (u_cons (rl_p (e1 := [.sh ((eT (eT T.int)) v_rows), .sh (T.int v_width), .sh ((eL (eT T.int)) s18), j19.s, j20.s]) (r_varO rfl) (u_nil (rl_ofp (fTuple_L (f := (eT T.int)) (xs := s18)) (rl_k)))))))))))))
def m_Grid_init (v_rows : List (List Int)) (v_width : Int) : M ((List (List Int)) × Int) :=
  ((m_checked v_rows v_width).bind fun t1 => M.ok t1).bind fun f_rows_2 =>
  (M.ok v_width).bind fun f_width_3 => M.ok (f_rows_2, f_width_3)
theorem w_Grid_init (v_rows : List (List Int)) (v_width : Int) : FnI 2 (f_Grid_init [.oi 2 [], .sh ((eT (eT T.int)) v_rows), .sh (T.int v_width)]) (m_Grid_init v_rows v_width) (fun r => [(eT (eT T.int)) r.1, T.int r.2]) :=
  fn_I (d1 := b_Grid_init) (e := [.oi 2 [], .sh ((eT (eT T.int)) v_rows), .sh (T.int v_width)]) (u_ifR (u_not (u_tru (u_isi (rl_p (r_var rfl) (rl_ofp (v := true) rfl (rl_ofp rfl (rl_iteF (rl_nx0 (u_ifR (u_tst (u_op (rl_p (r_var rfl) (rl_p (o := Out.sh (eU ())) rfl (rl_ofp (v := Out.sh (.bl false)) rfl (rl_ofp rfl (rl_iteF (rl_nx0 (rl_seqE (E := fun (r : List (List Int)) => [.oi 2 [(eT (eT T.int)) r], .sh ((eT (eT T.int)) v_rows), .sh (T.int v_width)]) (u_setF (u_call (u_cval (rl_p (r_var rfl) (u_cval (rl_p (r_var rfl) (u_cnil (rl_run (np := 2) (F := f_checked) (ss := [.sh ((eT (eT T.int)) v_rows), .sh (T.int v_width)]) (k := fun (r : List (List Int)) => .sh ((eT (eT T.int)) r)) (w_checked v_rows v_width) (fun _ => trivial) (fun t1 => rl_setF (fi := tab [(2, 0)]) (c := 2) (k := 0) (a := t1) (E := fun (r : List (List Int)) => [.oi 2 [(eT (eT T.int)) r], .sh ((eT (eT T.int)) v_rows), .sh (T.int v_width)]) rfl rfl rfl rfl))))))))) (fun f_rows_2 => rl_last (rl_seqE (E := fun (r : Int) => [.oi 2 [(eT (eT T.int)) f_rows_2, T.int r], .sh ((eT (eT T.int)) v_rows), .sh (T.int v_width)]) (u_setF (rl_p (r_var rfl) (rl_setF (fi := tab [(2, 1)]) (c := 2) (k := 1) (a := v_width) (E := fun (r : Int) => [.oi 2 [(eT (eT T.int)) f_rows_2, T.int r], .sh ((eT (eT T.int)) v_rows), .sh (T.int v_width)]) rfl rfl rfl rfl))) (fun f_width_3 => rl_nx ⟨rfl, rfl⟩))))))))))))))))))))))
def m_law_determinant_2 : Nat → (List (List Int)) → M (Int)
  | 0, _ => .bad
  | n + 1, v_rows_here =>
  if (decide ((v_rows_here.length : Int) = (0 : Int))) = true then
  M.ok (1 : Int)
  else
  (M.ok (0 : Int)).bind fun v_total_1 =>
  ((rng1M (v_rows_here.length : Int)).bind fun r2 =>
  foldM (fun (s3 : Int) (a4 : Int) =>
    ((idxM v_rows_here (0 : Int)).bind fun t7 =>
  (idxM t7 a4).bind fun t8 =>
  if (!decide (t8 = (0 : Int))) = true then ((lcM (cutL v_rows_here (some (1 : Int)) none) fun a10 =>
    (catM (cutL a10 none (some a4)) (cutL a10 (some (a4 + (1 : Int))) none)).bind fun t11 => M.ok t11).bind fun t12 => M.ok t12).bind fun v_minor_13 =>
  ((modM a4 (2 : Int)).bind fun t14 =>
  (mulM (2 : Int) t14).bind fun t15 =>
  (idxM v_rows_here (0 : Int)).bind fun t16 =>
  (idxM t16 a4).bind fun t17 =>
  (mulM ((1 : Int) - t15) t17).bind fun t18 =>
  (m_law_determinant_2 n v_minor_13).bind fun t19 =>
  (mulM t18 t19).bind fun t20 => M.ok (s3 + t20)).bind fun v_total_21 => M.ok v_total_21 else M.ok s3).bind fun s22 => M.ok s22) r2 v_total_1).bind fun s24 => M.ok s24
theorem w_law_determinant_2 : ∀ (n : Nat) (v_rows_here : List (List Int)), FnR (f_law_determinant n [.sh ((eL (eT T.int)) v_rows_here)]) (m_law_determinant_2 n v_rows_here) (fun r => .sh (T.int r))
  | 0, _ => trivial
  | n + 1, v_rows_here =>
  fn_R (d1 := b_law_determinant (f_law_determinant n)) (e := [.sh ((eL (eT T.int)) v_rows_here), .un, .un, .un, .un]) (u_ifR (u_tst (u_op (rl_p (lenN_L (f := (eT T.int)) (xs := v_rows_here) rfl) (rl_p (o := Out.sh (.int 0)) rfl (rl_ofp (op_eq (f := T.int) (a := (v_rows_here.length : Int)) (b := (0 : Int)) (by decide)) (rl_ofp rfl (rl_ite (rl_rts (rl_ret (k := fun (r : Int) => .sh (T.int r)) (fun (r : Int) => [.sh ((eL (eT T.int)) v_rows_here), .un, .un, .un, .un]) (rl_top (rl_p (o := Out.sh (.int 1)) rfl (rl_k))))) (rl_nx0 (rl_seqE (E := fun (r : Int) => [.sh ((eL (eT T.int)) v_rows_here), .sh (T.int r), .un, .un, .un]) (u_set (rl_p (o := Out.sh (.int 0)) rfl (rl_setS (E := fun (r : Int) => [.sh ((eL (eT T.int)) v_rows_here), .sh (T.int r), .un, .un, .un]) rfl))) (fun v_total_1 => rl_seqP (P := fun (s24 : Int) e => ∃ j25 : Jk, ∃ j26 : Jk, e = [.sh ((eL (eT T.int)) v_rows_here), .sh (T.int s24), j25.s, j26.s, .un]) (u_for (u_rng (u_cons (rl_p (lenN_L (f := (eT T.int)) (xs := v_rows_here) rfl) (u_nil (rl_of op_rng1 (fun r2 => rl_for1 (f := T.int) (P := fun (s3 : Int) e => ∃ j5 : Jk, ∃ j6 : Jk, e = [.sh ((eL (eT T.int)) v_rows_here), .sh (T.int s3), j5.s, j6.s, .un]) (fun s3 a4 e h => (by obtain ⟨j5, j6, rfl⟩ := h; exact ⟨_, (gN_ok rfl j5.h), (rl_last (rl_seqP (P := fun (s22 : Int) e => ∃ j23 : Jk, e = [.sh ((eL (eT T.int)) v_rows_here), .sh (T.int s22), .sh (T.int a4), j23.s, .un]) (u_ifS (u_tst (u_op (u_op (u_idxN (t := (eL (eT T.int)) v_rows_here) rfl (rl_p (o := Out.sh (.int 0)) rfl (rl_of (fIdx_L (f := (eT T.int)) (xs := v_rows_here)) (fun t7 => rl_p (r_var rfl) (rl_of (fIdx_T (f := T.int) (xs := t7)) (fun t8 => rl_p (o := Out.sh (.int 0)) rfl (rl_ofp (op_ne (f := T.int) (a := t8) (b := (0 : Int)) (by decide)) (rl_ofp rfl (rl_ite (rl_seqE (E := fun (r : List (List Int)) => [.sh ((eL (eT T.int)) v_rows_here), .sh (T.int s3), .sh (T.int a4), .ol false (List.map (eT T.int) r), .un]) (u_set (u_lc (u_items (u_sl (rl_p (r_var rfl) (u_part (rl_p (o := Out.sh (.int 1)) rfl (rl_ofp rfl (u_noPart (rl_ofp (fSl_L (f := (eT T.int)) (xs := v_rows_here)) (rl_ofp (items_L (f := (eT T.int)) (xs := (cutL v_rows_here (some (1 : Int)) none))) (rl_lc (fun (a10 : List Int) => [.sh ((eL (eT T.int)) v_rows_here), .sh (T.int s3), .sh (T.int a4), j6.s, .sh ((eT T.int) a10)]) (fun (a10 : List Int) (r : List Int) => [.sh ((eL (eT T.int)) v_rows_here), .sh (T.int s3), .sh (T.int a4), j6.s, .sh ((eT T.int) a10)]) (kb := (eT T.int)) (k := fun (r : List Int) => .sh ((eT T.int) r)) (fun a10 => (gN_ok rfl rfl)) (fun a10 => rl_top (u_op (u_sl (rl_p (r_var rfl) (u_noPart (u_part (rl_p (r_var rfl) (rl_ofp rfl (rl_ofp (fSl_T (f := T.int) (xs := a10)) (u_sl (rl_p (r_var rfl) (u_part (u_op (rl_p (r_var rfl) (rl_p (o := Out.sh (.int 1)) rfl (rl_ofp op_addI (rl_ofp rfl (u_noPart (rl_ofp (fSl_T (f := T.int) (xs := a10)) (rl_of (op_catT (f := T.int) (xs := (cutL a10 none (some a4))) (ys := (cutL a10 (some (a4 + (1 : Int))) none))) (fun t11 => rl_k))))))))))))))))))))) (fun t12 => rl_setS (E := fun (r : List (List Int)) => [.sh ((eL (eT T.int)) v_rows_here), .sh (T.int s3), .sh (T.int a4), .ol false (List.map (eT T.int) r), .un]) (r_store rfl j6.h)))))))))))))) (fun v_minor_13 => rl_last (rl_seqE (E := fun (r : Int) => [.sh ((eL (eT T.int)) v_rows_here), .sh (T.int r), .sh (T.int a4), .sh ((eL (eT T.int)) v_minor_13), .un]) (u_set (u_op (rl_p (r_var rfl) (u_op (u_op (u_op (rl_p (o := Out.sh (.int 1)) rfl (u_op (rl_p (o := Out.sh (.int 2)) rfl (u_op (rl_p (r_var rfl) (rl_p (o := Out.sh (.int 2)) rfl (rl_of op_modI (fun t14 => rl_of op_mulI (fun t15 => rl_ofp op_subI (u_op (u_idxN (t := (eL (eT T.int)) v_rows_here) rfl (rl_p (o := Out.sh (.int 0)) rfl (rl_of (fIdx_L (f := (eT T.int)) (xs := v_rows_here)) (fun t16 => rl_p (r_var rfl) (rl_of (fIdx_T (f := T.int) (xs := t16)) (fun t17 => rl_of op_mulI (fun t18 => u_call (u_cval (rl_p (e1 := [.sh ((eL (eT T.int)) v_rows_here), .sh (T.int s3), .sh (T.int a4), .sh ((eL (eT T.int)) v_minor_13), .un]) (r_varO rfl) (u_cnil (rl_run (ss := [.sh ((eL (eT T.int)) v_minor_13)]) (k := fun (r : Int) => .sh (T.int r)) (w_law_determinant_2 n v_minor_13) (fun _ => trivial) (fun t19 => rl_of op_mulI (fun t20 => rl_ofp op_addI (rl_setS (E := fun (r : Int) => [.sh ((eL (eT T.int)) v_rows_here), .sh (T.int r), .sh (T.int a4), .sh ((eL (eT T.int)) v_minor_13), .un]) rfl)))))))))))))))))))))))))))))) (fun v_total_21 => rl_nx ⟨rfl, ⟨⟨.sh ((eL (eT T.int)) v_minor_13), rfl⟩, rfl⟩⟩)))) (rl_nx ⟨rfl, ⟨j6, rfl⟩⟩)))))))))))))) (fun s22 e h => (by obtain ⟨j23, rfl⟩ := h; exact rl_nx ⟨.inl rfl, ⟨⟨.sh (T.int a4), rfl⟩, j23, rfl⟩⟩))))⟩)) ⟨⟨.un, rfl⟩, ⟨.un, rfl⟩, rfl⟩))))))) (fun s24 e h => (by obtain ⟨j25, j26, rfl⟩ := h; exact rl_last (rl_rts (rl_ret (k := fun (r : Int) => .sh (T.int r)) (fun (r : Int) => [.sh ((eL (eT T.int)) v_rows_here), .sh (T.int s24), j25.s, j26.s, .un]) (rl_top (rl_p (r_var rfl) (rl_k))))))))))))))))))
theorem w_law_determinant : ∀ (n : Nat) (v_rows_here : List (List Int)), FnR (f_law_determinant n [.sh ((eT (eT T.int)) v_rows_here)]) (m_law_determinant_2 n v_rows_here) (fun r => .sh (T.int r))
  | 0, _ => trivial
  | n + 1, v_rows_here =>
  fn_R (d1 := b_law_determinant (f_law_determinant n)) (e := [.sh ((eT (eT T.int)) v_rows_here), .un, .un, .un, .un]) (u_ifR (u_tst (u_op (rl_p (lenN_T (f := (eT T.int)) (xs := v_rows_here) rfl) (rl_p (o := Out.sh (.int 0)) rfl (rl_ofp (op_eq (f := T.int) (a := (v_rows_here.length : Int)) (b := (0 : Int)) (by decide)) (rl_ofp rfl (rl_ite (rl_rts (rl_ret (k := fun (r : Int) => .sh (T.int r)) (fun (r : Int) => [.sh ((eT (eT T.int)) v_rows_here), .un, .un, .un, .un]) (rl_top (rl_p (o := Out.sh (.int 1)) rfl (rl_k))))) (rl_nx0 (rl_seqE (E := fun (r : Int) => [.sh ((eT (eT T.int)) v_rows_here), .sh (T.int r), .un, .un, .un]) (u_set (rl_p (o := Out.sh (.int 0)) rfl (rl_setS (E := fun (r : Int) => [.sh ((eT (eT T.int)) v_rows_here), .sh (T.int r), .un, .un, .un]) rfl))) (fun v_total_1 => rl_seqP (P := fun (s24 : Int) e => ∃ j25 : Jk, ∃ j26 : Jk, e = [.sh ((eT (eT T.int)) v_rows_here), .sh (T.int s24), j25.s, j26.s, .un]) (u_for (u_rng (u_cons (rl_p (lenN_T (f := (eT T.int)) (xs := v_rows_here) rfl) (u_nil (rl_of op_rng1 (fun r2 => rl_for1 (f := T.int) (P := fun (s3 : Int) e => ∃ j5 : Jk, ∃ j6 : Jk, e = [.sh ((eT (eT T.int)) v_rows_here), .sh (T.int s3), j5.s, j6.s, .un]) (fun s3 a4 e h => (by obtain ⟨j5, j6, rfl⟩ := h; exact ⟨_, (gN_ok rfl j5.h), (rl_last (rl_seqP (P := fun (s22 : Int) e => ∃ j23 : Jk, e = [.sh ((eT (eT T.int)) v_rows_here), .sh (T.int s22), .sh (T.int a4), j23.s, .un]) (u_ifS (u_tst (u_op (u_op (u_idxN (t := (eT (eT T.int)) v_rows_here) rfl (rl_p (o := Out.sh (.int 0)) rfl (rl_of (fIdx_T (f := (eT T.int)) (xs := v_rows_here)) (fun t7 => rl_p (r_var rfl) (rl_of (fIdx_T (f := T.int) (xs := t7)) (fun t8 => rl_p (o := Out.sh (.int 0)) rfl (rl_ofp (op_ne (f := T.int) (a := t8) (b := (0 : Int)) (by decide)) (rl_ofp rfl (rl_ite (rl_seqE (E := fun (r : List (List Int)) => [.sh ((eT (eT T.int)) v_rows_here), .sh (T.int s3), .sh (T.int a4), .ol false (List.map (eT T.int) r), .un]) (u_set (u_lc (u_items (u_sl (rl_p (r_var rfl) (u_part (rl_p (o := Out.sh (.int 1)) rfl (rl_ofp rfl (u_noPart (rl_ofp (fSl_T (f := (eT T.int)) (xs := v_rows_here)) (rl_ofp (items_T (f := (eT T.int)) (xs := (cutL v_rows_here (some (1 : Int)) none))) (rl_lc (fun (a10 : List Int) => [.sh ((eT (eT T.int)) v_rows_here), .sh (T.int s3), .sh (T.int a4), j6.s, .sh ((eT T.int) a10)]) (fun (a10 : List Int) (r : List Int) => [.sh ((eT (eT T.int)) v_rows_here), .sh (T.int s3), .sh (T.int a4), j6.s, .sh ((eT T.int) a10)]) (kb := (eT T.int)) (k := fun (r : List Int) => .sh ((eT T.int) r)) (fun a10 => (gN_ok rfl rfl)) (fun a10 => rl_top (u_op (u_sl (rl_p (r_var rfl) (u_noPart (u_part (rl_p (r_var rfl) (rl_ofp rfl (rl_ofp (fSl_T (f := T.int) (xs := a10)) (u_sl (rl_p (r_var rfl) (u_part (u_op (rl_p (r_var rfl) (rl_p (o := Out.sh (.int 1)) rfl (rl_ofp op_addI (rl_ofp rfl (u_noPart (rl_ofp (fSl_T (f := T.int) (xs := a10)) (rl_of (op_catT (f := T.int) (xs := (cutL a10 none (some a4))) (ys := (cutL a10 (some (a4 + (1 : Int))) none))) (fun t11 => rl_k))))))))))))))))))))) (fun t12 => rl_setS (E := fun (r : List (List Int)) => [.sh ((eT (eT T.int)) v_rows_here), .sh (T.int s3), .sh (T.int a4), .ol false (List.map (eT T.int) r), .un]) (r_store rfl j6.h)))))))))))))) (fun v_minor_13 => rl_last (rl_seqE (E := fun (r : Int) => [.sh ((eT (eT T.int)) v_rows_here), .sh (T.int r), .sh (T.int a4), .sh ((eL (eT T.int)) v_minor_13), .un]) (u_set (u_op (rl_p (r_var rfl) (u_op (u_op (u_op (rl_p (o := Out.sh (.int 1)) rfl (u_op (rl_p (o := Out.sh (.int 2)) rfl (u_op (rl_p (r_var rfl) (rl_p (o := Out.sh (.int 2)) rfl (rl_of op_modI (fun t14 => rl_of op_mulI (fun t15 => rl_ofp op_subI (u_op (u_idxN (t := (eT (eT T.int)) v_rows_here) rfl (rl_p (o := Out.sh (.int 0)) rfl (rl_of (fIdx_T (f := (eT T.int)) (xs := v_rows_here)) (fun t16 => rl_p (r_var rfl) (rl_of (fIdx_T (f := T.int) (xs := t16)) (fun t17 => rl_of op_mulI (fun t18 => u_call (u_cval (rl_p (e1 := [.sh ((eT (eT T.int)) v_rows_here), .sh (T.int s3), .sh (T.int a4), .sh ((eL (eT T.int)) v_minor_13), .un]) (r_varO rfl) (u_cnil (rl_run (ss := [.sh ((eL (eT T.int)) v_minor_13)]) (k := fun (r : Int) => .sh (T.int r)) (w_law_determinant_2 n v_minor_13) (fun _ => trivial) (fun t19 => rl_of op_mulI (fun t20 => rl_ofp op_addI (rl_setS (E := fun (r : Int) => [.sh ((eT (eT T.int)) v_rows_here), .sh (T.int r), .sh (T.int a4), .sh ((eL (eT T.int)) v_minor_13), .un]) rfl)))))))))))))))))))))))))))))) (fun v_total_21 => rl_nx ⟨rfl, ⟨⟨.sh ((eL (eT T.int)) v_minor_13), rfl⟩, rfl⟩⟩)))) (rl_nx ⟨rfl, ⟨j6, rfl⟩⟩)))))))))))))) (fun s22 e h => (by obtain ⟨j23, rfl⟩ := h; exact rl_nx ⟨.inl rfl, ⟨⟨.sh (T.int a4), rfl⟩, j23, rfl⟩⟩))))⟩)) ⟨⟨.un, rfl⟩, ⟨.un, rfl⟩, rfl⟩))))))) (fun s24 e h => (by obtain ⟨j25, j26, rfl⟩ := h; exact rl_last (rl_rts (rl_ret (k := fun (r : Int) => .sh (T.int r)) (fun (r : Int) => [.sh ((eT (eT T.int)) v_rows_here), .sh (T.int s24), j25.s, j26.s, .un]) (rl_top (rl_p (r_var rfl) (rl_k))))))))))))))))))
def m_Grid_is_square (v_self : (List (List Int)) × Int) : M (Bool) :=
  M.ok (decide ((v_self.1.length : Int) = v_self.2))
theorem w_Grid_is_square (v_self : (List (List Int)) × Int) : FnR (f_Grid_is_square [.sh ((o2 2 (eT (eT T.int)) T.int) v_self)]) (m_Grid_is_square v_self) (fun r => .sh (T.bl r)) :=
  fn_R (d1 := b_Grid_is_square) (e := [.sh ((o2 2 (eT (eT T.int)) T.int) v_self)]) (rl_last (rl_rts (rl_ret (k := fun (r : Bool) => .sh (T.bl r)) (fun (r : Bool) => [.sh ((o2 2 (eT (eT T.int)) T.int) v_self)]) (rl_top (u_op (u_cb (u_cons (u_fld (rl_p (r_var rfl) (rl_ofp (v := Out.sh ((eT (eT T.int)) v_self.1)) rfl (u_nil (rl_ofp (fLen_T (f := (eT T.int)) (xs := v_self.1)) (u_fld (rl_p (r_var rfl) (rl_ofp (v := Out.sh (T.int v_self.2)) rfl (rl_ofp (op_eq (f := T.int) (a := (v_self.1.length : Int)) (b := v_self.2) (by decide)) (rl_k)))))))))))))))))
def m_determinant (v_rows : List (List Int)) : M (Int) :=
  ((lcM v_rows fun a1 =>
    M.ok a1).bind fun t2 => M.ok t2).bind fun v_table_3 =>
  (M.ok (v_table_3.length : Int)).bind fun v_size_4 =>
  (M.ok ((1 : Int), (1 : Int))).bind fun w5 =>
  goM ((rng1M v_size_4).bind fun r6 =>
  foldF (fun (s7 : (List (List Int)) × Int × Int) (a8 : Int) =>
    ((rng2M a8 v_size_4).bind fun r15 =>
  (lcfM r15 (fun a16 => (idxM s7.1 a16).bind fun t17 =>
  (idxM t17 a8).bind fun t18 => M.ok (!decide (t18 = (0 : Int)))) fun a16 =>
    M.ok a16).bind fun t19 => M.ok t19).bind fun v_chosen_20 =>
  if (decide ((v_chosen_20.length : Int) = (0 : Int))) = true then
  (M.ok (0 : Int)).bind fun r => M.ok (F.rt r)
  else
  ((idxM v_chosen_20 (0 : Int)).bind fun t21 =>
  if (!decide (t21 = a8)) = true then ((idxM s7.1 a8).bind fun t23 => M.ok t23).bind fun v_row_24 =>
  ((idxM v_chosen_20 (0 : Int)).bind fun t25 =>
  (idxM s7.1 t25).bind fun t26 =>
  (setM s7.1 a8 t26).bind fun z27 => M.ok z27).bind fun v_table_28 =>
  ((idxM v_chosen_20 (0 : Int)).bind fun t29 =>
  (setM v_table_28 t29 v_row_24).bind fun z30 => M.ok z30).bind fun v_table_31 =>
  (M.ok (-s7.2.1)).bind fun v_sign_32 => M.ok (v_table_31, v_sign_32) else M.ok (s7.1, s7.2.1)).bind fun s33 =>
  ((idxM s33.1 a8).bind fun t35 => M.ok t35).bind fun v_head_36 =>
  ((rng2M (a8 + (1 : Int)) v_size_4).bind fun r37 =>
  foldM (fun (s38 : List (List Int)) (a39 : Int) =>
    ((idxM s38 a39).bind fun t42 =>
  (idxM t42 a8).bind fun t43 => M.ok t43).bind fun v_factor_44 =>
  ((idxM s38 a39).bind fun t45 =>
  (lcM (t45.zip v_head_36) fun a46 =>
    (idxM v_head_36 a8).bind fun t47 =>
  (mulM t47 a46.1).bind fun t48 =>
  (mulM v_factor_44 a46.2).bind fun t49 =>
  (divGM (t48 - t49) s7.2.2).bind fun t50 => M.ok t50).bind fun t51 =>
  (setM s38 a39 t51).bind fun z52 => M.ok z52).bind fun v_table_53 => M.ok v_table_53) r37 s33.1).bind fun s54 =>
  ((idxM v_head_36 a8).bind fun t57 => M.ok t57).bind fun v_before_58 => M.ok (F.nx (s54, s33.2, v_before_58))) r6 (v_table_3, w5.1, w5.2)) (fun v => v) fun s59 =>
  (mulM s59.2.1 s59.2.2).bind fun t66 => M.ok t66
theorem w_determinant (v_rows : List (List Int)) : FnR (f_determinant [.sh ((eT (eT T.int)) v_rows)]) (m_determinant v_rows) (fun r => .sh (T.int r)) :=
  fn_R (d1 := b_determinant) (e := [.sh ((eT (eT T.int)) v_rows), .un, .un, .un, .un, .un, .un, .un, .un, .un, .un, .un, .un]) (rl_seqE (E := fun (r : List (List Int)) => [.sh ((eT (eT T.int)) v_rows), .ol false (List.map (eL T.int) r), .un, .un, .un, .un, .un, .un, .un, .un, .un, .un, .un]) (u_set (u_lc (u_items (rl_p (r_var rfl) (rl_ofp (items_T (f := (eT T.int)) (xs := v_rows)) (rl_lc (fun (a1 : List Int) => [.sh ((eT (eT T.int)) v_rows), .un, .un, .un, .un, .un, .un, .sh ((eT T.int) a1), .un, .un, .un, .un, .un]) (fun (a1 : List Int) (r : List Int) => [.sh ((eT (eT T.int)) v_rows), .un, .un, .un, .un, .un, .un, .sh ((eT T.int) a1), .un, .un, .un, .un, .un]) (kb := (eL T.int)) (k := fun (r : List Int) => .fr (List.map T.int r)) (fun a1 => (gN_ok rfl rfl)) (fun a1 => rl_top (u_cb (u_cons (rl_p (r_var rfl) (u_nil (rl_ofp (fList_T (f := T.int) (xs := a1)) (rl_k))))))) (fun t2 => rl_setS (E := fun (r : List (List Int)) => [.sh ((eT (eT T.int)) v_rows), .ol false (List.map (eL T.int) r), .un, .un, .un, .un, .un, .un, .un, .un, .un, .un, .un]) rfl))))))) (fun v_table_3 => rl_seqE (E := fun (r : Int) => [.sh ((eT (eT T.int)) v_rows), .ol false (List.map (eL T.int) v_table_3), .sh (T.int r), .un, .un, .un, .un, .un, .un, .un, .un, .un, .un]) (u_set (rl_p (lenN_ol (f := (eL T.int)) (xs := v_table_3) rfl) (rl_setS (E := fun (r : Int) => [.sh ((eT (eT T.int)) v_rows), .ol false (List.map (eL T.int) v_table_3), .sh (T.int r), .un, .un, .un, .un, .un, .un, .un, .un, .un, .un]) rfl))) (fun v_size_4 => rl_seqE (E := fun (r : Int × Int) => [.sh ((eT (eT T.int)) v_rows), .ol false (List.map (eL T.int) v_table_3), .sh (T.int v_size_4), .sh (T.int r.1), .sh (T.int r.2), .un, .un, .un, .un, .un, .un, .un, .un]) (u_asg (u_tup (u_cons (rl_p (o := Out.sh (.int 1)) rfl (u_cons (rl_p (o := Out.sh (.int 1)) rfl (u_nil (rl_fits rfl (rl_p (o := Out.sh ((e2 T.int T.int) ((1 : Int), (1 : Int)))) rfl (rl_onNx (gT_ok rfl (gsc_ok (gN_ok rfl rfl) (gsc_ok (gN_ok rfl rfl) gsn_ok))) rl_e)))))))))) (fun w5 => rl_goM (k := fun r => .sh (T.int r)) (g := fun v => v) (P := fun (s59 : (List (List Int)) × Int × Int) e => ∃ j60 : Jk, ∃ j61 : Jk, ∃ j62 : Jk, ∃ j63 : Jk, ∃ j64 : Jk, ∃ j65 : Jk, e = [.sh ((eT (eT T.int)) v_rows), .ol false (List.map (eL T.int) s59.1), .sh (T.int v_size_4), .sh (T.int s59.2.1), .sh (T.int s59.2.2), j60.s, j61.s, j62.s, j63.s, j64.s, j65.s, .un, .un]) (u_for (u_rng (u_cons (rl_p (r_var rfl) (u_nil (rl_of op_rng1 (fun r6 => rl_for2 (k := fun r => .sh (T.int r)) (f := T.int) (P := fun (s7 : (List (List Int)) × Int × Int) e => ∃ j9 : Jk, ∃ j10 : Jk, ∃ j11 : Jk, ∃ j12 : Jk, ∃ j13 : Jk, ∃ j14 : Jk, e = [.sh ((eT (eT T.int)) v_rows), .ol false (List.map (eL T.int) s7.1), .sh (T.int v_size_4), .sh (T.int s7.2.1), .sh (T.int s7.2.2), j9.s, j10.s, j11.s, j12.s, j13.s, j14.s, .un, .un]) (fun s7 a8 e h => (by obtain ⟨j9, j10, j11, j12, j13, j14, rfl⟩ := h; exact ⟨_, (gN_ok rfl j9.h), (rl_seqE (E := fun (r : List Int) => [.sh ((eT (eT T.int)) v_rows), .ol false (List.map (eL T.int) s7.1), .sh (T.int v_size_4), .sh (T.int s7.2.1), .sh (T.int s7.2.2), .sh (T.int a8), .ol false (List.map T.int r), j11.s, j12.s, j13.s, j14.s, .un, .un]) (u_set (u_lc (u_rng (u_cons (rl_p (r_var rfl) (u_cons (rl_p (r_var rfl) (u_nil (rl_of op_rng2 (fun r15 => rl_lcf (fun (a16 : Int) => [.sh ((eT (eT T.int)) v_rows), .ol false (List.map (eL T.int) s7.1), .sh (T.int v_size_4), .sh (T.int s7.2.1), .sh (T.int s7.2.2), .sh (T.int a8), j10.s, j11.s, j12.s, .sh (T.int a16), j14.s, .un, .un]) (fun (a16 : Int) (r : Int) => [.sh ((eT (eT T.int)) v_rows), .ol false (List.map (eL T.int) s7.1), .sh (T.int v_size_4), .sh (T.int s7.2.1), .sh (T.int s7.2.2), .sh (T.int a8), j10.s, j11.s, j12.s, .sh (T.int a16), j14.s, .un, .un]) (kb := T.int) (k := fun (r : Int) => .sh (T.int r)) (fun a16 => (gN_ok rfl rfl)) (fun a16 => rl_top (u_tst (u_op (u_op (u_idxO rfl (rl_p (r_var rfl) (rl_ol rfl (rl_of (fIdx_L (f := (eL T.int)) (xs := s7.1)) (fun t17 => rl_p (r_var rfl) (rl_of (fIdx_L (f := T.int) (xs := t17)) (fun t18 => rl_p (o := Out.sh (.int 0)) rfl (rl_ofp (op_ne (f := T.int) (a := t18) (b := (0 : Int)) (by decide)) (rl_ofp rfl (rl_k)))))))))))))) (fun a16 => rl_top (rl_p (r_var rfl) (rl_k))) (fun t19 => rl_setS (E := fun (r : List Int) => [.sh ((eT (eT T.int)) v_rows), .ol false (List.map (eL T.int) s7.1), .sh (T.int v_size_4), .sh (T.int s7.2.1), .sh (T.int s7.2.2), .sh (T.int a8), .ol false (List.map T.int r), j11.s, j12.s, j13.s, j14.s, .un, .un]) (r_store rfl j10.h)))))))))))) (fun v_chosen_20 => u_ifR (u_tst (u_op (rl_p (lenN_ol (f := T.int) (xs := v_chosen_20) rfl) (rl_p (o := Out.sh (.int 0)) rfl (rl_ofp (op_eq (f := T.int) (a := (v_chosen_20.length : Int)) (b := (0 : Int)) (by decide)) (rl_ofp rfl (rl_ite (rl_rts (rl_retG (k := fun (r : Int) => .sh (T.int r)) (E := fun (r : Int) => [.sh ((eT (eT T.int)) v_rows), .ol false (List.map (eL T.int) s7.1), .sh (T.int v_size_4), .sh (T.int s7.2.1), .sh (T.int s7.2.2), .sh (T.int a8), .ol false (List.map T.int v_chosen_20), j11.s, j12.s, j13.s, j14.s, .un, .un]) (g := fun (r : Int) => F.rt r) (rl_top (rl_p (o := Out.sh (.int 0)) rfl (rl_k))) (fun _ => rfl))) (rl_nx0 (rl_seqP (P := fun (s33 : (List (List Int)) × Int) e => ∃ j34 : Jk, e = [.sh ((eT (eT T.int)) v_rows), .ol false (List.map (eL T.int) s33.1), .sh (T.int v_size_4), .sh (T.int s33.2), .sh (T.int s7.2.2), .sh (T.int a8), .ol false (List.map T.int v_chosen_20), j34.s, j12.s, j13.s, j14.s, .un, .un]) (u_ifS (u_tst (u_op (u_idxO rfl (rl_p (o := Out.sh (.int 0)) rfl (rl_ol rfl (rl_of (fIdx_L (f := T.int) (xs := v_chosen_20)) (fun t21 => rl_p (r_var rfl) (rl_ofp (op_ne (f := T.int) (a := t21) (b := a8) (by decide)) (rl_ofp rfl (rl_ite (rl_seqE (E := fun (r : List Int) => [.sh ((eT (eT T.int)) v_rows), .ol false (List.map (eL T.int) s7.1), .sh (T.int v_size_4), .sh (T.int s7.2.1), .sh (T.int s7.2.2), .sh (T.int a8), .ol false (List.map T.int v_chosen_20), .sh ((eL T.int) r), j12.s, j13.s, j14.s, .un, .un]) (u_set (u_idxO rfl (rl_p (r_var rfl) (rl_ol rfl (rl_of (fIdx_L (f := (eL T.int)) (xs := s7.1)) (fun t23 => rl_setS (E := fun (r : List Int) => [.sh ((eT (eT T.int)) v_rows), .ol false (List.map (eL T.int) s7.1), .sh (T.int v_size_4), .sh (T.int s7.2.1), .sh (T.int s7.2.2), .sh (T.int a8), .ol false (List.map T.int v_chosen_20), .sh ((eL T.int) r), j12.s, j13.s, j14.s, .un, .un]) (r_store rfl j11.h))))))) (fun v_row_24 => rl_seqE (E := fun (r : List (List Int)) => [.sh ((eT (eT T.int)) v_rows), .ol false (List.map (eL T.int) r), .sh (T.int v_size_4), .sh (T.int s7.2.1), .sh (T.int s7.2.2), .sh (T.int a8), .ol false (List.map T.int v_chosen_20), .sh ((eL T.int) v_row_24), j12.s, j13.s, j14.s, .un, .un]) (u_setI (u_idxO rfl (u_idxO rfl (rl_p (o := Out.sh (.int 0)) rfl (rl_ol rfl (rl_of (fIdx_L (f := T.int) (xs := v_chosen_20)) (fun t25 => rl_ol rfl (rl_of (fIdx_L (f := (eL T.int)) (xs := s7.1)) (fun t26 => rl_onOl rfl (rl_p (r_var rfl) (rl_put (xs := s7.1) (v := t26) (j := a8) (f := (eL T.int)) (r := fun z27 => z27) rfl rfl rfl (fun _ => ⟨rfl, rfl⟩)))))))))))) (fun v_table_28 => rl_seqE (E := fun (r : List (List Int)) => [.sh ((eT (eT T.int)) v_rows), .ol false (List.map (eL T.int) r), .sh (T.int v_size_4), .sh (T.int s7.2.1), .sh (T.int s7.2.2), .sh (T.int a8), .ol false (List.map T.int v_chosen_20), .sh ((eL T.int) v_row_24), j12.s, j13.s, j14.s, .un, .un]) (u_setI (rl_p (r_var rfl) (rl_onOl rfl (u_idxO rfl (rl_p (o := Out.sh (.int 0)) rfl (rl_ol rfl (rl_of (fIdx_L (f := T.int) (xs := v_chosen_20)) (fun t29 => rl_put (xs := v_table_28) (v := v_row_24) (j := t29) (f := (eL T.int)) (r := fun z30 => z30) rfl rfl rfl (fun _ => ⟨rfl, rfl⟩))))))))) (fun v_table_31 => rl_last (rl_seqE (E := fun (r : Int) => [.sh ((eT (eT T.int)) v_rows), .ol false (List.map (eL T.int) v_table_31), .sh (T.int v_size_4), .sh (T.int r), .sh (T.int s7.2.2), .sh (T.int a8), .ol false (List.map T.int v_chosen_20), .sh ((eL T.int) v_row_24), j12.s, j13.s, j14.s, .un, .un]) (u_set (u_un (rl_p (r_var rfl) (rl_ofp op_negI (rl_setS (E := fun (r : Int) => [.sh ((eT (eT T.int)) v_rows), .ol false (List.map (eL T.int) v_table_31), .sh (T.int v_size_4), .sh (T.int r), .sh (T.int s7.2.2), .sh (T.int a8), .ol false (List.map T.int v_chosen_20), .sh ((eL T.int) v_row_24), j12.s, j13.s, j14.s, .un, .un]) rfl))))) (fun v_sign_32 => rl_nx ⟨rfl, ⟨⟨.sh ((eL T.int) v_row_24), rfl⟩, rfl⟩⟩)))))) (rl_nx ⟨rfl, ⟨j11, rfl⟩⟩)))))))))))) (fun s33 e h => (by obtain ⟨j34, rfl⟩ := h; exact rl_seqE (E := fun (r : List Int) => [.sh ((eT (eT T.int)) v_rows), .ol false (List.map (eL T.int) s33.1), .sh (T.int v_size_4), .sh (T.int s33.2), .sh (T.int s7.2.2), .sh (T.int a8), .ol false (List.map T.int v_chosen_20), j34.s, .sh ((eL T.int) r), j13.s, j14.s, .un, .un]) (u_set (u_idxO rfl (rl_p (r_var rfl) (rl_ol rfl (rl_of (fIdx_L (f := (eL T.int)) (xs := s33.1)) (fun t35 => rl_setS (E := fun (r : List Int) => [.sh ((eT (eT T.int)) v_rows), .ol false (List.map (eL T.int) s33.1), .sh (T.int v_size_4), .sh (T.int s33.2), .sh (T.int s7.2.2), .sh (T.int a8), .ol false (List.map T.int v_chosen_20), j34.s, .sh ((eL T.int) r), j13.s, j14.s, .un, .un]) (r_store rfl j12.h))))))) (fun v_head_36 => rl_seqP (P := fun (s54 : List (List Int)) e => ∃ j55 : Jk, ∃ j56 : Jk, e = [.sh ((eT (eT T.int)) v_rows), .ol false (List.map (eL T.int) s54), .sh (T.int v_size_4), .sh (T.int s33.2), .sh (T.int s7.2.2), .sh (T.int a8), .ol false (List.map T.int v_chosen_20), j34.s, .sh ((eL T.int) v_head_36), j55.s, j56.s, .un, .un]) (u_for (u_rng (u_cons (u_op (rl_p (r_var rfl) (rl_p (o := Out.sh (.int 1)) rfl (rl_ofp op_addI (u_cons (rl_p (r_var rfl) (u_nil (rl_of op_rng2 (fun r37 => rl_for1 (f := T.int) (P := fun (s38 : List (List Int)) e => ∃ j40 : Jk, ∃ j41 : Jk, e = [.sh ((eT (eT T.int)) v_rows), .ol false (List.map (eL T.int) s38), .sh (T.int v_size_4), .sh (T.int s33.2), .sh (T.int s7.2.2), .sh (T.int a8), .ol false (List.map T.int v_chosen_20), j34.s, .sh ((eL T.int) v_head_36), j40.s, j41.s, .un, .un]) (fun s38 a39 e h => (by obtain ⟨j40, j41, rfl⟩ := h; exact ⟨_, (gN_ok rfl j40.h), (rl_seqE (E := fun (r : Int) => [.sh ((eT (eT T.int)) v_rows), .ol false (List.map (eL T.int) s38), .sh (T.int v_size_4), .sh (T.int s33.2), .sh (T.int s7.2.2), .sh (T.int a8), .ol false (List.map T.int v_chosen_20), j34.s, .sh ((eL T.int) v_head_36), .sh (T.int a39), .sh (T.int r), .un, .un]) (u_set (u_op (u_idxO rfl (rl_p (r_var rfl) (rl_ol rfl (rl_of (fIdx_L (f := (eL T.int)) (xs := s38)) (fun t42 => rl_p (r_var rfl) (rl_of (fIdx_L (f := T.int) (xs := t42)) (fun t43 => rl_setS (E := fun (r : Int) => [.sh ((eT (eT T.int)) v_rows), .ol false (List.map (eL T.int) s38), .sh (T.int v_size_4), .sh (T.int s33.2), .sh (T.int s7.2.2), .sh (T.int a8), .ol false (List.map T.int v_chosen_20), j34.s, .sh ((eL T.int) v_head_36), .sh (T.int a39), .sh (T.int r), .un, .un]) (r_store rfl j41.h)))))))))) (fun v_factor_44 => rl_last (rl_seqE (E := fun (r : List (List Int)) => [.sh ((eT (eT T.int)) v_rows), .ol false (List.map (eL T.int) r), .sh (T.int v_size_4), .sh (T.int s33.2), .sh (T.int s7.2.2), .sh (T.int a8), .ol false (List.map T.int v_chosen_20), j34.s, .sh ((eL T.int) v_head_36), .sh (T.int a39), .sh (T.int v_factor_44), .un, .un]) (u_setI (u_lc (u_zip (u_cons (u_idxO rfl (rl_p (r_var rfl) (rl_ol rfl (rl_of (fIdx_L (f := (eL T.int)) (xs := s38)) (fun t45 => u_cons (rl_p (r_var rfl) (u_nil (rl_ofp (op_zip (seq_L (f := T.int) (xs := t45)) (seq_L (f := T.int) (xs := v_head_36))) (rl_lc (fun (a46 : Int × Int) => [.sh ((eT (eT T.int)) v_rows), .ol false (List.map (eL T.int) s38), .sh (T.int v_size_4), .sh (T.int s33.2), .sh (T.int s7.2.2), .sh (T.int a8), .ol false (List.map T.int v_chosen_20), j34.s, .sh ((eL T.int) v_head_36), .sh (T.int a39), .sh (T.int v_factor_44), .sh (T.int a46.1), .sh (T.int a46.2)]) (fun (a46 : Int × Int) (r : Int) => [.sh ((eT (eT T.int)) v_rows), .ol false (List.map (eL T.int) s38), .sh (T.int v_size_4), .sh (T.int s33.2), .sh (T.int s7.2.2), .sh (T.int a8), .ol false (List.map T.int v_chosen_20), j34.s, .sh ((eL T.int) v_head_36), .sh (T.int a39), .sh (T.int v_factor_44), .sh (T.int a46.1), .sh (T.int a46.2)]) (kb := T.int) (k := fun (r : Int) => .sh (T.int r)) (fun a46 => (gT_ok rfl (gsc_ok (gN_ok rfl rfl) (gsc_ok (gN_ok rfl rfl) gsn_ok)))) (fun a46 => rl_top (u_op (u_op (u_op (u_idxN (t := (eL T.int) v_head_36) rfl (rl_p (r_var rfl) (rl_of (fIdx_L (f := T.int) (xs := v_head_36)) (fun t47 => rl_p (r_var rfl) (rl_of op_mulI (fun t48 => u_op (rl_p (r_var rfl) (rl_p (r_var rfl) (rl_of op_mulI (fun t49 => rl_ofp op_subI (rl_p (r_var rfl) (rl_of op_divG (fun t50 => rl_k))))))))))))))))) (fun t51 => rl_onOl rfl (rl_p (r_var rfl) (rl_put (xs := s38) (v := t51) (j := a39) (f := (eL T.int)) (r := fun z52 => z52) rfl rfl rfl (fun _ => ⟨rfl, rfl⟩))))))))))))))))) (fun v_table_53 => rl_nx ⟨.inl rfl, ⟨⟨.sh (T.int a39), rfl⟩, ⟨.sh (T.int v_factor_44), rfl⟩, rfl⟩⟩))))⟩)) ⟨j13, j14, rfl⟩)))))))))))) (fun s54 e h => (by obtain ⟨j55, j56, rfl⟩ := h; exact rl_last (rl_seqE (E := fun (r : Int) => [.sh ((eT (eT T.int)) v_rows), .ol false (List.map (eL T.int) s54), .sh (T.int v_size_4), .sh (T.int s33.2), .sh (T.int r), .sh (T.int a8), .ol false (List.map T.int v_chosen_20), j34.s, .sh ((eL T.int) v_head_36), j55.s, j56.s, .un, .un]) (u_set (u_idxN (t := (eL T.int) v_head_36) rfl (rl_p (r_var rfl) (rl_of (fIdx_L (f := T.int) (xs := v_head_36)) (fun t57 => rl_setS (E := fun (r : Int) => [.sh ((eT (eT T.int)) v_rows), .ol false (List.map (eL T.int) s54), .sh (T.int v_size_4), .sh (T.int s33.2), .sh (T.int r), .sh (T.int a8), .ol false (List.map T.int v_chosen_20), j34.s, .sh ((eL T.int) v_head_36), j55.s, j56.s, .un, .un]) rfl))))) (fun v_before_58 => rl_nx ⟨.inl rfl, ⟨⟨.sh (T.int a8), rfl⟩, ⟨.ol false (List.map T.int v_chosen_20), rfl⟩, j34, ⟨.sh ((eL T.int) v_head_36), rfl⟩, j55, j56, rfl⟩⟩))))))))))))))))))⟩)) ⟨⟨.un, rfl⟩, ⟨.un, rfl⟩, ⟨.un, rfl⟩, ⟨.un, rfl⟩, ⟨.un, rfl⟩, ⟨.un, rfl⟩, rfl⟩))))))) (fun _ _ => rfl) (fun s59 e h => (by obtain ⟨j60, j61, j62, j63, j64, j65, rfl⟩ := h; exact rl_last (rl_rts (rl_ret (k := fun (r : Int) => .sh (T.int r)) (fun (r : Int) => [.sh ((eT (eT T.int)) v_rows), .ol false (List.map (eL T.int) s59.1), .sh (T.int v_size_4), .sh (T.int s59.2.1), .sh (T.int s59.2.2), j60.s, j61.s, j62.s, j63.s, j64.s, j65.s, .un, .un]) (rl_top (u_op (rl_p (r_var rfl) (rl_p (r_var rfl) (rl_of op_mulI (fun t66 => rl_k))))))))))))))
def m_Grid_determinant (v_self : (List (List Int)) × Int) : M (Int) :=
  ((m_Grid_is_square v_self).bind fun t1 =>
  if (!t1) = true then M.ex ⟨1, []⟩ else M.ok ()).bind fun _ =>
  (m_determinant v_self.1).bind fun t4 => M.ok t4
theorem w_Grid_determinant (v_self : (List (List Int)) × Int) : FnR (f_Grid_determinant [.sh ((o2 2 (eT (eT T.int)) T.int) v_self)]) (m_Grid_determinant v_self) (fun r => .sh (T.int r)) :=
  fn_R (d1 := b_Grid_determinant) (e := [.sh ((o2 2 (eT (eT T.int)) T.int) v_self)]) (rl_seqP (P := fun (s3 : Unit) e => e = [.sh ((o2 2 (eT (eT T.int)) T.int) v_self)]) (u_ifS (u_not (u_tru (u_meth (rl_p (r_var rfl) (rl_meth (me := ⟨1, f_Grid_is_square, []⟩) rfl rfl (u_cnil (rl_run (np := 1) (F := f_Grid_is_square) (ss := [.sh ((o2 2 (eT (eT T.int)) T.int) v_self)]) (k := fun (r : Bool) => .sh (T.bl r)) (w_Grid_is_square v_self) (fun _ => trivial) (fun t1 => rl_ofp rfl (rl_ite (rl_last (rl_raises trivial)) (rl_nx ⟨rfl, rfl⟩))))))))))) (fun s3 e h => (by obtain rfl := h; exact rl_last (rl_rts (rl_ret (k := fun (r : Int) => .sh (T.int r)) (fun (r : Int) => [.sh ((o2 2 (eT (eT T.int)) T.int) v_self)]) (rl_top (u_call (u_cval (u_fld (rl_p (r_var rfl) (rl_ofp (v := Out.sh ((eT (eT T.int)) v_self.1)) rfl (u_cnil (rl_run (np := 1) (F := f_determinant) (ss := [.sh ((eT (eT T.int)) v_self.1)]) (k := fun (r : Int) => .sh (T.int r)) (w_determinant v_self.1) (fun _ => trivial) (fun t4 => rl_k))))))))))))))
def m_dot (v_a : List Int) (v_b : List Int) : M (Int) :=
  (lcM (v_a.zip v_b) fun a1 =>
    (mulM a1.1 a1.2).bind fun t2 => M.ok t2).bind fun t3 => M.ok t3.sum
theorem w_dot (v_a : List Int) (v_b : List Int) : FnR (f_dot [.sh ((eT T.int) v_a), .sh ((eL T.int) v_b)]) (m_dot v_a v_b) (fun r => .sh (T.int r)) :=
  fn_R (d1 := b_dot) (e := [.sh ((eT T.int) v_a), .sh ((eL T.int) v_b), .un, .un]) (rl_last (rl_rts (rl_ret (k := fun (r : Int) => .sh (T.int r)) (fun (r : Int) => [.sh ((eT T.int) v_a), .sh ((eL T.int) v_b), .un, .un]) (rl_top (u_cb (u_cons (u_lc (u_zip (u_cons (rl_p (r_var rfl) (u_cons (rl_p (r_var rfl) (u_nil (rl_ofp (op_zip (seq_T (f := T.int) (xs := v_a)) (seq_L (f := T.int) (xs := v_b))) (rl_lc (fun (a1 : Int × Int) => [.sh ((eT T.int) v_a), .sh ((eL T.int) v_b), .sh (T.int a1.1), .sh (T.int a1.2)]) (fun (a1 : Int × Int) (r : Int) => [.sh ((eT T.int) v_a), .sh ((eL T.int) v_b), .sh (T.int a1.1), .sh (T.int a1.2)]) (kb := T.int) (k := fun (r : Int) => .sh (T.int r)) (fun a1 => (gT_ok rfl (gsc_ok (gN_ok rfl rfl) (gsc_ok (gN_ok rfl rfl) gsn_ok)))) (fun a1 => rl_top (u_op (rl_p (r_var rfl) (rl_p (r_var rfl) (rl_of op_mulI (fun t2 => rl_k)))))) (fun t3 => u_nil (rl_ofp (op_sum (xs := t3)) (rl_k))))))))))))))))))
theorem w_checked_2 (v_rows : List (List Int)) (v_width : Int) : FnR (f_checked [.sh ((eL (eL T.int)) v_rows), .sh (T.int v_width)]) (m_checked v_rows v_width) (fun r => .sh ((eT (eT T.int)) r)) :=
  fn_R (d1 := b_checked) (e := [.sh ((eL (eL T.int)) v_rows), .sh (T.int v_width), .un, .un, .un]) (rl_seqE (E := fun (r : List (List Int)) => [.sh ((eL (eL T.int)) v_rows), .sh (T.int v_width), .ol false (List.map (eT T.int) r), .un, .un]) (u_set (u_lst (u_nil (rl_fits rfl (rl_p (o := Out.fr (([] : List (List Int)).map (eT T.int))) rfl (rl_setS (E := fun (r : List (List Int)) => [.sh ((eL (eL T.int)) v_rows), .sh (T.int v_width), .ol false (List.map (eT T.int) r), .un, .un]) rfl)))))) (fun v_out_1 => rl_seqP (P := fun (s18 : List (List Int)) e => ∃ j19 : Jk, ∃ j20 : Jk, e = [.sh ((eL (eL T.int)) v_rows), .sh (T.int v_width), .ol false (List.map (eT T.int) s18), j19.s, j20.s]) (u_for (u_items (rl_p (r_var rfl) (rl_ofp (items_L (f := (eL T.int)) (xs := v_rows)) (rl_for1 (f := (eL T.int)) (P := fun (s2 : List (List Int)) e => ∃ j4 : Jk, ∃ j5 : Jk, e = [.sh ((eL (eL T.int)) v_rows), .sh (T.int v_width), .ol false (List.map (eT T.int) s2), j4.s, j5.s]) (fun s2 a3 e h => (by obtain ⟨j4, j5, rfl⟩ := h; exact ⟨_, (gN_ok rfl j4.h), (rl_seqP (P := fun (s7 : Unit) e => e = [.sh ((eL (eL T.int)) v_rows), .sh (T.int v_width), .ol false (List.map (eT T.int) s2), .sh ((eL T.int) a3), j5.s]) (u_ifS (u_or (u_not (u_tru (u_isi (rl_p (r_var rfl) (rl_ofp (v := true) rfl (rl_ofp rfl (rl_itebF (u_tst (u_op (rl_p (lenN_L (f := T.int) (xs := a3) rfl) (rl_p (r_var rfl) (rl_ofp (op_ne (f := T.int) (a := (a3.length : Int)) (b := v_width) (by decide)) (rl_ofp rfl (rl_ite (rl_last (rl_raises trivial)) (rl_nx ⟨rfl, rfl⟩))))))))))))))))) (fun s7 e h => (by obtain rfl := h; exact rl_seqP (P := fun (s14 : Unit) e => ∃ j15 : Jk, e = [.sh ((eL (eL T.int)) v_rows), .sh (T.int v_width), .ol false (List.map (eT T.int) s2), .sh ((eL T.int) a3), j15.s]) (u_for (u_items (rl_p (r_var rfl) (rl_ofp (items_L (f := T.int) (xs := a3)) (rl_for1 (f := T.int) (P := fun (s8 : Unit) e => ∃ j10 : Jk, e = [.sh ((eL (eL T.int)) v_rows), .sh (T.int v_width), .ol false (List.map (eT T.int) s2), .sh ((eL T.int) a3), j10.s]) (fun s8 a9 e h => (by obtain ⟨j10, rfl⟩ := h; exact ⟨_, (gN_ok rfl j10.h), (rl_last (rl_seqP (P := fun (s13 : Unit) e => e = [.sh ((eL (eL T.int)) v_rows), .sh (T.int v_width), .ol false (List.map (eT T.int) s2), .sh ((eL T.int) a3), .sh (T.int a9)]) (u_ifS (u_not (u_tru (u_call (u_cval (rl_p (r_var rfl) (u_cnil (rl_run (np := 1) (F := f_is_integer) (ss := [.sh (T.int a9)]) (k := fun (r : Bool) => .sh (T.bl r)) (w_is_integer a9) (fun _ => trivial) (fun t11 => rl_ofp rfl (rl_ite (rl_last (rl_raises trivial)) (rl_nx ⟨rfl, rfl⟩))))))))))) (fun s13 e h => (by obtain rfl := h; exact rl_nx ⟨.inl rfl, ⟨⟨.sh (T.int a9), rfl⟩, rfl⟩⟩))))⟩)) ⟨j5, rfl⟩))))) (fun s14 e h => (by obtain ⟨j15, rfl⟩ := h; exact rl_last (rl_seqE (E := fun (r : List (List Int)) => [.sh ((eL (eL T.int)) v_rows), .sh (T.int v_width), .ol false (List.map (eT T.int) r), .sh ((eL T.int) a3), j15.s]) (u_app rfl (u_cb (u_cons (rl_p (r_var rfl) (u_nil (rl_ofp (fTuple_L (f := T.int) (xs := a3)) (rl_app (xs := s2) (v := a3) (f := (eT T.int)) (r := fun z16 => z16) rfl rfl (fun _ => ⟨rfl, rfl⟩)))))))) (fun v_out_17 => rl_nx ⟨.inl rfl, ⟨⟨.sh ((eL T.int) a3), rfl⟩, j15, rfl⟩⟩)))))))⟩)) ⟨⟨.un, rfl⟩, ⟨.un, rfl⟩, rfl⟩))))) (fun s18 e h => (by obtain ⟨j19, j20, rfl⟩ := h; exact rl_last (rl_rts (rl_ret (k := fun (r : List (List Int)) => .sh ((eT (eT T.int)) r)) (fun (r : List (List Int)) => [.sh ((eL (eL T.int)) v_rows), .sh (T.int v_width), .sh ((eL (eT T.int)) s18), j19.s, j20.s]) (rl_top (u_cb (u_cons (rl_p (e1 := [.sh ((eL (eL T.int)) v_rows), .sh (T.int v_width), .sh ((eL (eT T.int)) s18), j19.s, j20.s]) (r_varO rfl) (u_nil (rl_ofp (fTuple_L (f := (eT T.int)) (xs := s18)) (rl_k)))))))))))))
theorem w_Grid_init_2 (v_rows : List (List Int)) (v_width : Int) : FnI 2 (f_Grid_init [.oi 2 [], .sh ((eL (eL T.int)) v_rows), .sh (T.int v_width)]) (m_Grid_init v_rows v_width) (fun r => [(eT (eT T.int)) r.1, T.int r.2]) :=
  fn_I (d1 := b_Grid_init) (e := [.oi 2 [], .sh ((eL (eL T.int)) v_rows), .sh (T.int v_width)]) (u_ifR (u_not (u_tru (u_isi (rl_p (r_var rfl) (rl_ofp (v := true) rfl (rl_ofp rfl (rl_iteF (rl_nx0 (u_ifR (u_tst (u_op (rl_p (r_var rfl) (rl_p (o := Out.sh (eU ())) rfl (rl_ofp (v := Out.sh (.bl false)) rfl (rl_ofp rfl (rl_iteF (rl_nx0 (rl_seqE (E := fun (r : List (List Int)) => [.oi 2 [(eT (eT T.int)) r], .sh ((eL (eL T.int)) v_rows), .sh (T.int v_width)]) (u_setF (u_call (u_cval (rl_p (r_var rfl) (u_cval (rl_p (r_var rfl) (u_cnil (rl_run (np := 2) (F := f_checked) (ss := [.sh ((eL (eL T.int)) v_rows), .sh (T.int v_width)]) (k := fun (r : List (List Int)) => .sh ((eT (eT T.int)) r)) (w_checked_2 v_rows v_width) (fun _ => trivial) (fun t1 => rl_setF (fi := tab [(2, 0)]) (c := 2) (k := 0) (a := t1) (E := fun (r : List (List Int)) => [.oi 2 [(eT (eT T.int)) r], .sh ((eL (eL T.int)) v_rows), .sh (T.int v_width)]) rfl rfl rfl rfl))))))))) (fun f_rows_2 => rl_last (rl_seqE (E := fun (r : Int) => [.oi 2 [(eT (eT T.int)) f_rows_2, T.int r], .sh ((eL (eL T.int)) v_rows), .sh (T.int v_width)]) (u_setF (rl_p (r_var rfl) (rl_setF (fi := tab [(2, 1)]) (c := 2) (k := 1) (a := v_width) (E := fun (r : Int) => [.oi 2 [(eT (eT T.int)) f_rows_2, T.int r], .sh ((eL (eL T.int)) v_rows), .sh (T.int v_width)]) rfl rfl rfl rfl))) (fun f_width_3 => rl_nx ⟨rfl, rfl⟩))))))))))))))))))))))
def m_Grid_mul (v_self : (List (List Int)) × Int) (v_other : (List (List Int)) × Int) : M ((List (List Int)) × Int) :=
  (if (!decide (v_self.2 = (v_other.1.length : Int))) = true then M.ex ⟨1, []⟩ else M.ok ()).bind fun _ =>
  ((rng1M v_other.2).bind fun r3 =>
  (lcM r3 fun a4 =>
    (lcM v_other.1 fun a5 =>
    (idxM a5 a4).bind fun t6 => M.ok t6).bind fun t7 => M.ok t7).bind fun t8 => M.ok t8).bind fun v_columns_9 =>
  (lcM v_self.1 fun a10 =>
    (lcM v_columns_9 fun a16 =>
    (m_dot a10 a16).bind fun t17 => M.ok t17).bind fun t18 => M.ok t18).bind fun t14 =>
  (m_Grid_init t14 v_other.2).bind fun t19 => M.ok t19
theorem w_Grid_mul (v_self : (List (List Int)) × Int) (v_other : (List (List Int)) × Int) : FnR (f_Grid_mul [.sh ((o2 2 (eT (eT T.int)) T.int) v_self), .sh ((o2 2 (eT (eT T.int)) T.int) v_other)]) (m_Grid_mul v_self v_other) (fun r => .sh ((o2 2 (eT (eT T.int)) T.int) r)) :=
  fn_R (d1 := b_Grid_mul) (e := [.sh ((o2 2 (eT (eT T.int)) T.int) v_self), .sh ((o2 2 (eT (eT T.int)) T.int) v_other), .un, .un, .un, .un]) (rl_seqP (P := fun (s2 : Unit) e => e = [.sh ((o2 2 (eT (eT T.int)) T.int) v_self), .sh ((o2 2 (eT (eT T.int)) T.int) v_other), .un, .un, .un, .un]) (u_ifS (u_tst (u_op (u_fld (rl_p (r_var rfl) (rl_ofp (v := Out.sh (T.int v_self.2)) rfl (u_cb (u_cons (u_fld (rl_p (r_var rfl) (rl_ofp (v := Out.sh ((eT (eT T.int)) v_other.1)) rfl (u_nil (rl_ofp (fLen_T (f := (eT T.int)) (xs := v_other.1)) (rl_ofp (op_ne (f := T.int) (a := v_self.2) (b := (v_other.1.length : Int)) (by decide)) (rl_ofp rfl (rl_ite (rl_last (rl_raises trivial)) (rl_nx ⟨rfl, rfl⟩))))))))))))))))) (fun s2 e h => (by obtain rfl := h; exact rl_seqE (E := fun (r : List (List Int)) => [.sh ((o2 2 (eT (eT T.int)) T.int) v_self), .sh ((o2 2 (eT (eT T.int)) T.int) v_other), .ol false (List.map (eL T.int) r), .un, .un, .un]) (u_set (u_lc (u_rng (u_cons (u_fld (rl_p (r_var rfl) (rl_ofp (v := Out.sh (T.int v_other.2)) rfl (u_nil (rl_of op_rng1 (fun r3 => rl_lc (fun (a4 : Int) => [.sh ((o2 2 (eT (eT T.int)) T.int) v_self), .sh ((o2 2 (eT (eT T.int)) T.int) v_other), .un, .sh (T.int a4), .un, .un]) (fun (a4 : Int) (r : List Int) => [.sh ((o2 2 (eT (eT T.int)) T.int) v_self), .sh ((o2 2 (eT (eT T.int)) T.int) v_other), .un, .sh (T.int a4), .un, .un]) (kb := (eL T.int)) (k := fun (r : List Int) => .fr (List.map T.int r)) (fun a4 => (gN_ok rfl rfl)) (fun a4 => rl_top (u_lc (u_items (u_fld (rl_p (r_var rfl) (rl_ofp (v := Out.sh ((eT (eT T.int)) v_other.1)) rfl (rl_ofp (items_T (f := (eT T.int)) (xs := v_other.1)) (rl_lc (fun (a5 : List Int) => [.sh ((o2 2 (eT (eT T.int)) T.int) v_self), .sh ((o2 2 (eT (eT T.int)) T.int) v_other), .un, .sh (T.int a4), .sh ((eT T.int) a5), .un]) (fun (a5 : List Int) (r : Int) => [.sh ((o2 2 (eT (eT T.int)) T.int) v_self), .sh ((o2 2 (eT (eT T.int)) T.int) v_other), .un, .sh (T.int a4), .sh ((eT T.int) a5), .un]) (kb := T.int) (k := fun (r : Int) => .sh (T.int r)) (fun a5 => (gN_ok rfl rfl)) (fun a5 => rl_top (u_idxN (t := (eT T.int) a5) rfl (rl_p (r_var rfl) (rl_of (fIdx_T (f := T.int) (xs := a5)) (fun t6 => rl_k))))) (fun t7 => rl_k))))))))) (fun t8 => rl_setS (E := fun (r : List (List Int)) => [.sh ((o2 2 (eT (eT T.int)) T.int) v_self), .sh ((o2 2 (eT (eT T.int)) T.int) v_other), .ol false (List.map (eL T.int) r), .un, .un, .un]) rfl))))))))))) (fun v_columns_9 => rl_last (rl_rts (rl_ret (k := fun (r : (List (List Int)) × Int) => .sh ((o2 2 (eT (eT T.int)) T.int) r)) (fun (r : (List (List Int)) × Int) => [.sh ((o2 2 (eT (eT T.int)) T.int) v_self), .sh ((o2 2 (eT (eT T.int)) T.int) v_other), sfz (!v_self.1.isEmpty) (eL T.int) v_columns_9, .un, .un, .un]) (rl_top (u_make (u_cons (u_lc (u_items (u_fld (rl_p (r_var rfl) (rl_ofp (v := Out.sh ((eT (eT T.int)) v_self.1)) rfl (rl_ofp (items_T (f := (eT T.int)) (xs := v_self.1)) (rl_lcZ (fun (b15 : Bool) => [.sh ((o2 2 (eT (eT T.int)) T.int) v_self), .sh ((o2 2 (eT (eT T.int)) T.int) v_other), sfz b15 (eL T.int) v_columns_9, .un, .un, .un]) (fun (b15 : Bool) (a10 : List Int) => [.sh ((o2 2 (eT (eT T.int)) T.int) v_self), .sh ((o2 2 (eT (eT T.int)) T.int) v_other), sfz b15 (eL T.int) v_columns_9, .un, .sh ((eT T.int) a10), .un]) (fun (b15 : Bool) (a10 : List Int) (r : List Int) => [.sh ((o2 2 (eT (eT T.int)) T.int) v_self), .sh ((o2 2 (eT (eT T.int)) T.int) v_other), .sh ((eL (eL T.int)) v_columns_9), .un, .sh ((eT T.int) a10), .un]) (fun (b15 : Bool) => [.sh ((o2 2 (eT (eT T.int)) T.int) v_self), .sh ((o2 2 (eT (eT T.int)) T.int) v_other), sfz b15 (eL T.int) v_columns_9, .un, .un, .un]) (kb := (eL T.int)) (k := fun (r : List Int) => .fr (List.map T.int r)) (fun b15 a10 => (gN_ok rfl rfl)) (fun b15 a10 => rl_top (u_lc (u_items (rl_p (e1 := [.sh ((o2 2 (eT (eT T.int)) T.int) v_self), .sh ((o2 2 (eT (eT T.int)) T.int) v_other), .sh ((eL (eL T.int)) v_columns_9), .un, .sh ((eT T.int) a10), .un]) (r_varZ rfl) (rl_ofp (items_L (f := (eL T.int)) (xs := v_columns_9)) (rl_lc (fun (a16 : List Int) => [.sh ((o2 2 (eT (eT T.int)) T.int) v_self), .sh ((o2 2 (eT (eT T.int)) T.int) v_other), .sh ((eL (eL T.int)) v_columns_9), .un, .sh ((eT T.int) a10), .sh ((eL T.int) a16)]) (fun (a16 : List Int) (r : Int) => [.sh ((o2 2 (eT (eT T.int)) T.int) v_self), .sh ((o2 2 (eT (eT T.int)) T.int) v_other), .sh ((eL (eL T.int)) v_columns_9), .un, .sh ((eT T.int) a10), .sh ((eL T.int) a16)]) (kb := T.int) (k := fun (r : Int) => .sh (T.int r)) (fun a16 => (gN_ok rfl rfl)) (fun a16 => rl_top (u_call (u_cval (rl_p (r_var rfl) (u_cval (rl_p (r_var rfl) (u_cnil (rl_run (np := 2) (F := f_dot) (ss := [.sh ((eT T.int) a10), .sh ((eL T.int) a16)]) (k := fun (r : Int) => .sh (T.int r)) (w_dot a10 a16) (fun _ => trivial) (fun t17 => rl_k))))))))) (fun t18 => rl_k))))))) (fun t14 => u_cons (u_fld (rl_p (r_var rfl) (rl_ofp (v := Out.sh (T.int v_other.2)) rfl (u_nil (rl_make (em := (o2 2 (eT (eT T.int)) T.int)) (w_Grid_init_2 t14 v_other.2) (fun _ => trivial) (fun t19 => rl_k)))))))))))))))))))))))
def m_Grid_transposed (v_self : (List (List Int)) × Int) : M ((List (List Int)) × Int) :=
  (rng1M v_self.2).bind fun r1 =>
  (lcM r1 fun a2 =>
    (lcM v_self.1 fun a3 =>
    (idxM a3 a2).bind fun t4 => M.ok t4).bind fun t5 => M.ok t5).bind fun t6 =>
  (m_Grid_init t6 (v_self.1.length : Int)).bind fun t7 => M.ok t7
theorem w_Grid_transposed (v_self : (List (List Int)) × Int) : FnR (f_Grid_transposed [.sh ((o2 2 (eT (eT T.int)) T.int) v_self)]) (m_Grid_transposed v_self) (fun r => .sh ((o2 2 (eT (eT T.int)) T.int) r)) :=
  fn_R (d1 := b_Grid_transposed) (e := [.sh ((o2 2 (eT (eT T.int)) T.int) v_self), .un, .un]) (rl_last (rl_rts (rl_ret (k := fun (r : (List (List Int)) × Int) => .sh ((o2 2 (eT (eT T.int)) T.int) r)) (fun (r : (List (List Int)) × Int) => [.sh ((o2 2 (eT (eT T.int)) T.int) v_self), .un, .un]) (rl_top (u_make (u_cons (u_lc (u_rng (u_cons (u_fld (rl_p (r_var rfl) (rl_ofp (v := Out.sh (T.int v_self.2)) rfl (u_nil (rl_of op_rng1 (fun r1 => rl_lc (fun (a2 : Int) => [.sh ((o2 2 (eT (eT T.int)) T.int) v_self), .sh (T.int a2), .un]) (fun (a2 : Int) (r : List Int) => [.sh ((o2 2 (eT (eT T.int)) T.int) v_self), .sh (T.int a2), .un]) (kb := (eL T.int)) (k := fun (r : List Int) => .fr (List.map T.int r)) (fun a2 => (gN_ok rfl rfl)) (fun a2 => rl_top (u_lc (u_items (u_fld (rl_p (r_var rfl) (rl_ofp (v := Out.sh ((eT (eT T.int)) v_self.1)) rfl (rl_ofp (items_T (f := (eT T.int)) (xs := v_self.1)) (rl_lc (fun (a3 : List Int) => [.sh ((o2 2 (eT (eT T.int)) T.int) v_self), .sh (T.int a2), .sh ((eT T.int) a3)]) (fun (a3 : List Int) (r : Int) => [.sh ((o2 2 (eT (eT T.int)) T.int) v_self), .sh (T.int a2), .sh ((eT T.int) a3)]) (kb := T.int) (k := fun (r : Int) => .sh (T.int r)) (fun a3 => (gN_ok rfl rfl)) (fun a3 => rl_top (u_idxN (t := (eT T.int) a3) rfl (rl_p (r_var rfl) (rl_of (fIdx_T (f := T.int) (xs := a3)) (fun t4 => rl_k))))) (fun t5 => rl_k))))))))) (fun t6 => u_cons (u_cb (u_cons (u_fld (rl_p (r_var rfl) (rl_ofp (v := Out.sh ((eT (eT T.int)) v_self.1)) rfl (u_nil (rl_ofp (fLen_T (f := (eT T.int)) (xs := v_self.1)) (u_nil (rl_make (em := (o2 2 (eT (eT T.int)) T.int)) (w_Grid_init_2 t6 (v_self.1.length : Int)) (fun _ => trivial) (fun t7 => rl_k))))))))))))))))))))))))))
def m_minor (v_rows : List (List Int)) (v_i : Int) (v_k : Int) : M (List (List Int)) :=
  (lcfM (enumL v_rows) (fun a1 => M.ok (!decide (a1.1 = v_i))) fun a1 =>
    (catM (cutL a1.2 none (some v_k)) (cutL a1.2 (some (v_k + (1 : Int))) none)).bind fun t2 => M.ok t2).bind fun t3 => M.ok t3
theorem w_minor (v_rows : List (List Int)) (v_i : Int) (v_k : Int) : FnR (f_minor [.sh ((eT (eT T.int)) v_rows), .sh (T.int v_i), .sh (T.int v_k)]) (m_minor v_rows v_i v_k) (fun r => .fr (List.map (eT T.int) r)) :=
  fn_R (d1 := b_minor) (e := [.sh ((eT (eT T.int)) v_rows), .sh (T.int v_i), .sh (T.int v_k), .un, .un]) (rl_last (rl_rts (rl_ret (k := fun (r : List (List Int)) => .fr (List.map (eT T.int) r)) (fun (r : List (List Int)) => [.sh ((eT (eT T.int)) v_rows), .sh (T.int v_i), .sh (T.int v_k), .un, .un]) (rl_top (u_lc (u_enum (u_cons (rl_p (r_var rfl) (u_nil (rl_ofp (op_enum (seq_T (f := (eT T.int)) (xs := v_rows))) (rl_lcf (fun (a1 : Int × (List Int)) => [.sh ((eT (eT T.int)) v_rows), .sh (T.int v_i), .sh (T.int v_k), .sh (T.int a1.1), .sh ((eT T.int) a1.2)]) (fun (a1 : Int × (List Int)) (r : List Int) => [.sh ((eT (eT T.int)) v_rows), .sh (T.int v_i), .sh (T.int v_k), .sh (T.int a1.1), .sh ((eT T.int) a1.2)]) (kb := (eT T.int)) (k := fun (r : List Int) => .sh ((eT T.int) r)) (fun a1 => (gT_ok rfl (gsc_ok (gN_ok rfl rfl) (gsc_ok (gN_ok rfl rfl) gsn_ok)))) (fun a1 => rl_top (u_tst (u_op (rl_p (r_var rfl) (rl_p (r_var rfl) (rl_ofp (op_ne (f := T.int) (a := a1.1) (b := v_i) (by decide)) (rl_ofp rfl (rl_k)))))))) (fun a1 => rl_top (u_op (u_sl (rl_p (r_var rfl) (u_noPart (u_part (rl_p (r_var rfl) (rl_ofp rfl (rl_ofp (fSl_T (f := T.int) (xs := a1.2)) (u_sl (rl_p (r_var rfl) (u_part (u_op (rl_p (r_var rfl) (rl_p (o := Out.sh (.int 1)) rfl (rl_ofp op_addI (rl_ofp rfl (u_noPart (rl_ofp (fSl_T (f := T.int) (xs := a1.2)) (rl_of (op_catT (f := T.int) (xs := (cutL a1.2 none (some v_k))) (ys := (cutL a1.2 (some (v_k + (1 : Int))) none))) (fun t2 => rl_k))))))))))))))))))))) (fun t3 => rl_k))))))))))))
theorem w_determinant_2 (v_rows : List (List Int)) : FnR (f_determinant [.sh ((eL (eT T.int)) v_rows)]) (m_determinant v_rows) (fun r => .sh (T.int r)) :=
  fn_R (d1 := b_determinant) (e := [.sh ((eL (eT T.int)) v_rows), .un, .un, .un, .un, .un, .un, .un, .un, .un, .un, .un, .un]) (rl_seqE (E := fun (r : List (List Int)) => [.sh ((eL (eT T.int)) v_rows), .ol false (List.map (eL T.int) r), .un, .un, .un, .un, .un, .un, .un, .un, .un, .un, .un]) (u_set (u_lc (u_items (rl_p (r_var rfl) (rl_ofp (items_L (f := (eT T.int)) (xs := v_rows)) (rl_lc (fun (a1 : List Int) => [.sh ((eL (eT T.int)) v_rows), .un, .un, .un, .un, .un, .un, .sh ((eT T.int) a1), .un, .un, .un, .un, .un]) (fun (a1 : List Int) (r : List Int) => [.sh ((eL (eT T.int)) v_rows), .un, .un, .un, .un, .un, .un, .sh ((eT T.int) a1), .un, .un, .un, .un, .un]) (kb := (eL T.int)) (k := fun (r : List Int) => .fr (List.map T.int r)) (fun a1 => (gN_ok rfl rfl)) (fun a1 => rl_top (u_cb (u_cons (rl_p (r_var rfl) (u_nil (rl_ofp (fList_T (f := T.int) (xs := a1)) (rl_k))))))) (fun t2 => rl_setS (E := fun (r : List (List Int)) => [.sh ((eL (eT T.int)) v_rows), .ol false (List.map (eL T.int) r), .un, .un, .un, .un, .un, .un, .un, .un, .un, .un, .un]) rfl))))))) (fun v_table_3 => rl_seqE (E := fun (r : Int) => [.sh ((eL (eT T.int)) v_rows), .ol false (List.map (eL T.int) v_table_3), .sh (T.int r), .un, .un, .un, .un, .un, .un, .un, .un, .un, .un]) (u_set (rl_p (lenN_ol (f := (eL T.int)) (xs := v_table_3) rfl) (rl_setS (E := fun (r : Int) => [.sh ((eL (eT T.int)) v_rows), .ol false (List.map (eL T.int) v_table_3), .sh (T.int r), .un, .un, .un, .un, .un, .un, .un, .un, .un, .un]) rfl))) (fun v_size_4 => rl_seqE (E := fun (r : Int × Int) => [.sh ((eL (eT T.int)) v_rows), .ol false (List.map (eL T.int) v_table_3), .sh (T.int v_size_4), .sh (T.int r.1), .sh (T.int r.2), .un, .un, .un, .un, .un, .un, .un, .un]) (u_asg (u_tup (u_cons (rl_p (o := Out.sh (.int 1)) rfl (u_cons (rl_p (o := Out.sh (.int 1)) rfl (u_nil (rl_fits rfl (rl_p (o := Out.sh ((e2 T.int T.int) ((1 : Int), (1 : Int)))) rfl (rl_onNx (gT_ok rfl (gsc_ok (gN_ok rfl rfl) (gsc_ok (gN_ok rfl rfl) gsn_ok))) rl_e)))))))))) (fun w5 => rl_goM (k := fun r => .sh (T.int r)) (g := fun v => v) (P := fun (s59 : (List (List Int)) × Int × Int) e => ∃ j60 : Jk, ∃ j61 : Jk, ∃ j62 : Jk, ∃ j63 : Jk, ∃ j64 : Jk, ∃ j65 : Jk, e = [.sh ((eL (eT T.int)) v_rows), .ol false (List.map (eL T.int) s59.1), .sh (T.int v_size_4), .sh (T.int s59.2.1), .sh (T.int s59.2.2), j60.s, j61.s, j62.s, j63.s, j64.s, j65.s, .un, .un]) (u_for (u_rng (u_cons (rl_p (r_var rfl) (u_nil (rl_of op_rng1 (fun r6 => rl_for2 (k := fun r => .sh (T.int r)) (f := T.int) (P := fun (s7 : (List (List Int)) × Int × Int) e => ∃ j9 : Jk, ∃ j10 : Jk, ∃ j11 : Jk, ∃ j12 : Jk, ∃ j13 : Jk, ∃ j14 : Jk, e = [.sh ((eL (eT T.int)) v_rows), .ol false (List.map (eL T.int) s7.1), .sh (T.int v_size_4), .sh (T.int s7.2.1), .sh (T.int s7.2.2), j9.s, j10.s, j11.s, j12.s, j13.s, j14.s, .un, .un]) (fun s7 a8 e h => (by obtain ⟨j9, j10, j11, j12, j13, j14, rfl⟩ := h; exact ⟨_, (gN_ok rfl j9.h), (rl_seqE (E := fun (r : List Int) => [.sh ((eL (eT T.int)) v_rows), .ol false (List.map (eL T.int) s7.1), .sh (T.int v_size_4), .sh (T.int s7.2.1), .sh (T.int s7.2.2), .sh (T.int a8), .ol false (List.map T.int r), j11.s, j12.s, j13.s, j14.s, .un, .un]) (u_set (u_lc (u_rng (u_cons (rl_p (r_var rfl) (u_cons (rl_p (r_var rfl) (u_nil (rl_of op_rng2 (fun r15 => rl_lcf (fun (a16 : Int) => [.sh ((eL (eT T.int)) v_rows), .ol false (List.map (eL T.int) s7.1), .sh (T.int v_size_4), .sh (T.int s7.2.1), .sh (T.int s7.2.2), .sh (T.int a8), j10.s, j11.s, j12.s, .sh (T.int a16), j14.s, .un, .un]) (fun (a16 : Int) (r : Int) => [.sh ((eL (eT T.int)) v_rows), .ol false (List.map (eL T.int) s7.1), .sh (T.int v_size_4), .sh (T.int s7.2.1), .sh (T.int s7.2.2), .sh (T.int a8), j10.s, j11.s, j12.s, .sh (T.int a16), j14.s, .un, .un]) (kb := T.int) (k := fun (r : Int) => .sh (T.int r)) (fun a16 => (gN_ok rfl rfl)) (fun a16 => rl_top (u_tst (u_op (u_op (u_idxO rfl (rl_p (r_var rfl) (rl_ol rfl (rl_of (fIdx_L (f := (eL T.int)) (xs := s7.1)) (fun t17 => rl_p (r_var rfl) (rl_of (fIdx_L (f := T.int) (xs := t17)) (fun t18 => rl_p (o := Out.sh (.int 0)) rfl (rl_ofp (op_ne (f := T.int) (a := t18) (b := (0 : Int)) (by decide)) (rl_ofp rfl (rl_k)))))))))))))) (fun a16 => rl_top (rl_p (r_var rfl) (rl_k))) (fun t19 => rl_setS (E := fun (r : List Int) => [.sh ((eL (eT T.int)) v_rows), .ol false (List.map (eL T.int) s7.1), .sh (T.int v_size_4), .sh (T.int s7.2.1), .sh (T.int s7.2.2), .sh (T.int a8), .ol false (List.map T.int r), j11.s, j12.s, j13.s, j14.s, .un, .un]) (r_store rfl j10.h)))))))))))) (fun v_chosen_20 => u_ifR (u_tst (u_op (rl_p (lenN_ol (f := T.int) (xs := v_chosen_20) rfl) (rl_p (o := Out.sh (.int 0)) rfl (rl_ofp (op_eq (f := T.int) (a := (v_chosen_20.length : Int)) (b := (0 : Int)) (by decide)) (rl_ofp rfl (rl_ite (rl_rts (rl_retG (k := fun (r : Int) => .sh (T.int r)) (E := fun (r : Int) => [.sh ((eL (eT T.int)) v_rows), .ol false (List.map (eL T.int) s7.1), .sh (T.int v_size_4), .sh (T.int s7.2.1), .sh (T.int s7.2.2), .sh (T.int a8), .ol false (List.map T.int v_chosen_20), j11.s, j12.s, j13.s, j14.s, .un, .un]) (g := fun (r : Int) => F.rt r) (rl_top (rl_p (o := Out.sh (.int 0)) rfl (rl_k))) (fun _ => rfl))) (rl_nx0 (rl_seqP (P := fun (s33 : (List (List Int)) × Int) e => ∃ j34 : Jk, e = [.sh ((eL (eT T.int)) v_rows), .ol false (List.map (eL T.int) s33.1), .sh (T.int v_size_4), .sh (T.int s33.2), .sh (T.int s7.2.2), .sh (T.int a8), .ol false (List.map T.int v_chosen_20), j34.s, j12.s, j13.s, j14.s, .un, .un]) (u_ifS (u_tst (u_op (u_idxO rfl (rl_p (o := Out.sh (.int 0)) rfl (rl_ol rfl (rl_of (fIdx_L (f := T.int) (xs := v_chosen_20)) (fun t21 => rl_p (r_var rfl) (rl_ofp (op_ne (f := T.int) (a := t21) (b := a8) (by decide)) (rl_ofp rfl (rl_ite (rl_seqE (E := fun (r : List Int) => [.sh ((eL (eT T.int)) v_rows), .ol false (List.map (eL T.int) s7.1), .sh (T.int v_size_4), .sh (T.int s7.2.1), .sh (T.int s7.2.2), .sh (T.int a8), .ol false (List.map T.int v_chosen_20), .sh ((eL T.int) r), j12.s, j13.s, j14.s, .un, .un]) (u_set (u_idxO rfl (rl_p (r_var rfl) (rl_ol rfl (rl_of (fIdx_L (f := (eL T.int)) (xs := s7.1)) (fun t23 => rl_setS (E := fun (r : List Int) => [.sh ((eL (eT T.int)) v_rows), .ol false (List.map (eL T.int) s7.1), .sh (T.int v_size_4), .sh (T.int s7.2.1), .sh (T.int s7.2.2), .sh (T.int a8), .ol false (List.map T.int v_chosen_20), .sh ((eL T.int) r), j12.s, j13.s, j14.s, .un, .un]) (r_store rfl j11.h))))))) (fun v_row_24 => rl_seqE (E := fun (r : List (List Int)) => [.sh ((eL (eT T.int)) v_rows), .ol false (List.map (eL T.int) r), .sh (T.int v_size_4), .sh (T.int s7.2.1), .sh (T.int s7.2.2), .sh (T.int a8), .ol false (List.map T.int v_chosen_20), .sh ((eL T.int) v_row_24), j12.s, j13.s, j14.s, .un, .un]) (u_setI (u_idxO rfl (u_idxO rfl (rl_p (o := Out.sh (.int 0)) rfl (rl_ol rfl (rl_of (fIdx_L (f := T.int) (xs := v_chosen_20)) (fun t25 => rl_ol rfl (rl_of (fIdx_L (f := (eL T.int)) (xs := s7.1)) (fun t26 => rl_onOl rfl (rl_p (r_var rfl) (rl_put (xs := s7.1) (v := t26) (j := a8) (f := (eL T.int)) (r := fun z27 => z27) rfl rfl rfl (fun _ => ⟨rfl, rfl⟩)))))))))))) (fun v_table_28 => rl_seqE (E := fun (r : List (List Int)) => [.sh ((eL (eT T.int)) v_rows), .ol false (List.map (eL T.int) r), .sh (T.int v_size_4), .sh (T.int s7.2.1), .sh (T.int s7.2.2), .sh (T.int a8), .ol false (List.map T.int v_chosen_20), .sh ((eL T.int) v_row_24), j12.s, j13.s, j14.s, .un, .un]) (u_setI (rl_p (r_var rfl) (rl_onOl rfl (u_idxO rfl (rl_p (o := Out.sh (.int 0)) rfl (rl_ol rfl (rl_of (fIdx_L (f := T.int) (xs := v_chosen_20)) (fun t29 => rl_put (xs := v_table_28) (v := v_row_24) (j := t29) (f := (eL T.int)) (r := fun z30 => z30) rfl rfl rfl (fun _ => ⟨rfl, rfl⟩))))))))) (fun v_table_31 => rl_last (rl_seqE (E := fun (r : Int) => [.sh ((eL (eT T.int)) v_rows), .ol false (List.map (eL T.int) v_table_31), .sh (T.int v_size_4), .sh (T.int r), .sh (T.int s7.2.2), .sh (T.int a8), .ol false (List.map T.int v_chosen_20), .sh ((eL T.int) v_row_24), j12.s, j13.s, j14.s, .un, .un]) (u_set (u_un (rl_p (r_var rfl) (rl_ofp op_negI (rl_setS (E := fun (r : Int) => [.sh ((eL (eT T.int)) v_rows), .ol false (List.map (eL T.int) v_table_31), .sh (T.int v_size_4), .sh (T.int r), .sh (T.int s7.2.2), .sh (T.int a8), .ol false (List.map T.int v_chosen_20), .sh ((eL T.int) v_row_24), j12.s, j13.s, j14.s, .un, .un]) rfl))))) (fun v_sign_32 => rl_nx ⟨rfl, ⟨⟨.sh ((eL T.int) v_row_24), rfl⟩, rfl⟩⟩)))))) (rl_nx ⟨rfl, ⟨j11, rfl⟩⟩)))))))))))) (fun s33 e h => (by obtain ⟨j34, rfl⟩ := h; exact rl_seqE (E := fun (r : List Int) => [.sh ((eL (eT T.int)) v_rows), .ol false (List.map (eL T.int) s33.1), .sh (T.int v_size_4), .sh (T.int s33.2), .sh (T.int s7.2.2), .sh (T.int a8), .ol false (List.map T.int v_chosen_20), j34.s, .sh ((eL T.int) r), j13.s, j14.s, .un, .un]) (u_set (u_idxO rfl (rl_p (r_var rfl) (rl_ol rfl (rl_of (fIdx_L (f := (eL T.int)) (xs := s33.1)) (fun t35 => rl_setS (E := fun (r : List Int) => [.sh ((eL (eT T.int)) v_rows), .ol false (List.map (eL T.int) s33.1), .sh (T.int v_size_4), .sh (T.int s33.2), .sh (T.int s7.2.2), .sh (T.int a8), .ol false (List.map T.int v_chosen_20), j34.s, .sh ((eL T.int) r), j13.s, j14.s, .un, .un]) (r_store rfl j12.h))))))) (fun v_head_36 => rl_seqP (P := fun (s54 : List (List Int)) e => ∃ j55 : Jk, ∃ j56 : Jk, e = [.sh ((eL (eT T.int)) v_rows), .ol false (List.map (eL T.int) s54), .sh (T.int v_size_4), .sh (T.int s33.2), .sh (T.int s7.2.2), .sh (T.int a8), .ol false (List.map T.int v_chosen_20), j34.s, .sh ((eL T.int) v_head_36), j55.s, j56.s, .un, .un]) (u_for (u_rng (u_cons (u_op (rl_p (r_var rfl) (rl_p (o := Out.sh (.int 1)) rfl (rl_ofp op_addI (u_cons (rl_p (r_var rfl) (u_nil (rl_of op_rng2 (fun r37 => rl_for1 (f := T.int) (P := fun (s38 : List (List Int)) e => ∃ j40 : Jk, ∃ j41 : Jk, e = [.sh ((eL (eT T.int)) v_rows), .ol false (List.map (eL T.int) s38), .sh (T.int v_size_4), .sh (T.int s33.2), .sh (T.int s7.2.2), .sh (T.int a8), .ol false (List.map T.int v_chosen_20), j34.s, .sh ((eL T.int) v_head_36), j40.s, j41.s, .un, .un]) (fun s38 a39 e h => (by obtain ⟨j40, j41, rfl⟩ := h; exact ⟨_, (gN_ok rfl j40.h), (rl_seqE (E := fun (r : Int) => [.sh ((eL (eT T.int)) v_rows), .ol false (List.map (eL T.int) s38), .sh (T.int v_size_4), .sh (T.int s33.2), .sh (T.int s7.2.2), .sh (T.int a8), .ol false (List.map T.int v_chosen_20), j34.s, .sh ((eL T.int) v_head_36), .sh (T.int a39), .sh (T.int r), .un, .un]) (u_set (u_op (u_idxO rfl (rl_p (r_var rfl) (rl_ol rfl (rl_of (fIdx_L (f := (eL T.int)) (xs := s38)) (fun t42 => rl_p (r_var rfl) (rl_of (fIdx_L (f := T.int) (xs := t42)) (fun t43 => rl_setS (E := fun (r : Int) => [.sh ((eL (eT T.int)) v_rows), .ol false (List.map (eL T.int) s38), .sh (T.int v_size_4), .sh (T.int s33.2), .sh (T.int s7.2.2), .sh (T.int a8), .ol false (List.map T.int v_chosen_20), j34.s, .sh ((eL T.int) v_head_36), .sh (T.int a39), .sh (T.int r), .un, .un]) (r_store rfl j41.h)))))))))) (fun v_factor_44 => rl_last (rl_seqE (E := fun (r : List (List Int)) => [.sh ((eL (eT T.int)) v_rows), .ol false (List.map (eL T.int) r), .sh (T.int v_size_4), .sh (T.int s33.2), .sh (T.int s7.2.2), .sh (T.int a8), .ol false (List.map T.int v_chosen_20), j34.s, .sh ((eL T.int) v_head_36), .sh (T.int a39), .sh (T.int v_factor_44), .un, .un]) (u_setI (u_lc (u_zip (u_cons (u_idxO rfl (rl_p (r_var rfl) (rl_ol rfl (rl_of (fIdx_L (f := (eL T.int)) (xs := s38)) (fun t45 => u_cons (rl_p (r_var rfl) (u_nil (rl_ofp (op_zip (seq_L (f := T.int) (xs := t45)) (seq_L (f := T.int) (xs := v_head_36))) (rl_lc (fun (a46 : Int × Int) => [.sh ((eL (eT T.int)) v_rows), .ol false (List.map (eL T.int) s38), .sh (T.int v_size_4), .sh (T.int s33.2), .sh (T.int s7.2.2), .sh (T.int a8), .ol false (List.map T.int v_chosen_20), j34.s, .sh ((eL T.int) v_head_36), .sh (T.int a39), .sh (T.int v_factor_44), .sh (T.int a46.1), .sh (T.int a46.2)]) (fun (a46 : Int × Int) (r : Int) => [.sh ((eL (eT T.int)) v_rows), .ol false (List.map (eL T.int) s38), .sh (T.int v_size_4), .sh (T.int s33.2), .sh (T.int s7.2.2), .sh (T.int a8), .ol false (List.map T.int v_chosen_20), j34.s, .sh ((eL T.int) v_head_36), .sh (T.int a39), .sh (T.int v_factor_44), .sh (T.int a46.1), .sh (T.int a46.2)]) (kb := T.int) (k := fun (r : Int) => .sh (T.int r)) (fun a46 => (gT_ok rfl (gsc_ok (gN_ok rfl rfl) (gsc_ok (gN_ok rfl rfl) gsn_ok)))) (fun a46 => rl_top (u_op (u_op (u_op (u_idxN (t := (eL T.int) v_head_36) rfl (rl_p (r_var rfl) (rl_of (fIdx_L (f := T.int) (xs := v_head_36)) (fun t47 => rl_p (r_var rfl) (rl_of op_mulI (fun t48 => u_op (rl_p (r_var rfl) (rl_p (r_var rfl) (rl_of op_mulI (fun t49 => rl_ofp op_subI (rl_p (r_var rfl) (rl_of op_divG (fun t50 => rl_k))))))))))))))))) (fun t51 => rl_onOl rfl (rl_p (r_var rfl) (rl_put (xs := s38) (v := t51) (j := a39) (f := (eL T.int)) (r := fun z52 => z52) rfl rfl rfl (fun _ => ⟨rfl, rfl⟩))))))))))))))))) (fun v_table_53 => rl_nx ⟨.inl rfl, ⟨⟨.sh (T.int a39), rfl⟩, ⟨.sh (T.int v_factor_44), rfl⟩, rfl⟩⟩))))⟩)) ⟨j13, j14, rfl⟩)))))))))))) (fun s54 e h => (by obtain ⟨j55, j56, rfl⟩ := h; exact rl_last (rl_seqE (E := fun (r : Int) => [.sh ((eL (eT T.int)) v_rows), .ol false (List.map (eL T.int) s54), .sh (T.int v_size_4), .sh (T.int s33.2), .sh (T.int r), .sh (T.int a8), .ol false (List.map T.int v_chosen_20), j34.s, .sh ((eL T.int) v_head_36), j55.s, j56.s, .un, .un]) (u_set (u_idxN (t := (eL T.int) v_head_36) rfl (rl_p (r_var rfl) (rl_of (fIdx_L (f := T.int) (xs := v_head_36)) (fun t57 => rl_setS (E := fun (r : Int) => [.sh ((eL (eT T.int)) v_rows), .ol false (List.map (eL T.int) s54), .sh (T.int v_size_4), .sh (T.int s33.2), .sh (T.int r), .sh (T.int a8), .ol false (List.map T.int v_chosen_20), j34.s, .sh ((eL T.int) v_head_36), j55.s, j56.s, .un, .un]) rfl))))) (fun v_before_58 => rl_nx ⟨.inl rfl, ⟨⟨.sh (T.int a8), rfl⟩, ⟨.ol false (List.map T.int v_chosen_20), rfl⟩, j34, ⟨.sh ((eL T.int) v_head_36), rfl⟩, j55, j56, rfl⟩⟩))))))))))))))))))⟩)) ⟨⟨.un, rfl⟩, ⟨.un, rfl⟩, ⟨.un, rfl⟩, ⟨.un, rfl⟩, ⟨.un, rfl⟩, ⟨.un, rfl⟩, rfl⟩))))))) (fun _ _ => rfl) (fun s59 e h => (by obtain ⟨j60, j61, j62, j63, j64, j65, rfl⟩ := h; exact rl_last (rl_rts (rl_ret (k := fun (r : Int) => .sh (T.int r)) (fun (r : Int) => [.sh ((eL (eT T.int)) v_rows), .ol false (List.map (eL T.int) s59.1), .sh (T.int v_size_4), .sh (T.int s59.2.1), .sh (T.int s59.2.2), j60.s, j61.s, j62.s, j63.s, j64.s, j65.s, .un, .un]) (rl_top (u_op (rl_p (r_var rfl) (rl_p (r_var rfl) (rl_of op_mulI (fun t66 => rl_k))))))))))))))
def m_Grid_adjugate (v_self : (List (List Int)) × Int) : M ((List (List Int)) × Int) :=
  ((m_Grid_is_square v_self).bind fun t1 =>
  if (!t1) = true then M.ex ⟨1, []⟩ else M.ok ()).bind fun _ =>
  (M.ok ([] : List (List Int))).bind fun v_out_4 =>
  ((rng1M v_self.2).bind fun r5 =>
  foldM (fun (s6 : List (List Int)) (a7 : Int) =>
    (M.ok ([] : List Int)).bind fun v_line_12 =>
  ((rng1M v_self.2).bind fun r13 =>
  foldM (fun (s14 : List Int) (a15 : Int) =>
    ((m_minor v_self.1 a15 a7).bind fun t18 =>
  (m_determinant t18).bind fun t19 => M.ok t19).bind fun v_minor_20 =>
  ((modM (a7 + a15) (2 : Int)).bind fun t21 =>
  (appM s14 (if (decide (t21 = (1 : Int))) = true then (-v_minor_20) else v_minor_20)).bind fun z22 => M.ok z22).bind fun v_line_23 => M.ok v_line_23) r13 v_line_12).bind fun s24 =>
  ((appM s6 s24).bind fun z27 => M.ok z27).bind fun v_out_28 => M.ok v_out_28) r5 v_out_4).bind fun s29 =>
  (m_Grid_init s29 v_self.2).bind fun t34 => M.ok t34
theorem w_Grid_adjugate (v_self : (List (List Int)) × Int) : FnR (f_Grid_adjugate [.sh ((o2 2 (eT (eT T.int)) T.int) v_self)]) (m_Grid_adjugate v_self) (fun r => .sh ((o2 2 (eT (eT T.int)) T.int) r)) :=
  fn_R (d1 := b_Grid_adjugate) (e := [.sh ((o2 2 (eT (eT T.int)) T.int) v_self), .un, .un, .un, .un, .un]) (rl_seqP (P := fun (s3 : Unit) e => e = [.sh ((o2 2 (eT (eT T.int)) T.int) v_self), .un, .un, .un, .un, .un]) (u_ifS (u_not (u_tru (u_meth (rl_p (r_var rfl) (rl_meth (me := ⟨1, f_Grid_is_square, []⟩) rfl rfl (u_cnil (rl_run (np := 1) (F := f_Grid_is_square) (ss := [.sh ((o2 2 (eT (eT T.int)) T.int) v_self)]) (k := fun (r : Bool) => .sh (T.bl r)) (w_Grid_is_square v_self) (fun _ => trivial) (fun t1 => rl_ofp rfl (rl_ite (rl_last (rl_raises trivial)) (rl_nx ⟨rfl, rfl⟩))))))))))) (fun s3 e h => (by obtain rfl := h; exact rl_seqE (E := fun (r : List (List Int)) => [.sh ((o2 2 (eT (eT T.int)) T.int) v_self), .ol false (List.map (eL T.int) r), .un, .un, .un, .un]) (u_set (u_lst (u_nil (rl_fits rfl (rl_p (o := Out.fr (([] : List (List Int)).map (eL T.int))) rfl (rl_setS (E := fun (r : List (List Int)) => [.sh ((o2 2 (eT (eT T.int)) T.int) v_self), .ol false (List.map (eL T.int) r), .un, .un, .un, .un]) rfl)))))) (fun v_out_4 => rl_seqP (P := fun (s29 : List (List Int)) e => ∃ j30 : Jk, ∃ j31 : Jk, ∃ j32 : Jk, ∃ j33 : Jk, e = [.sh ((o2 2 (eT (eT T.int)) T.int) v_self), .ol false (List.map (eL T.int) s29), j30.s, j31.s, j32.s, j33.s]) (u_for (u_rng (u_cons (u_fld (rl_p (r_var rfl) (rl_ofp (v := Out.sh (T.int v_self.2)) rfl (u_nil (rl_of op_rng1 (fun r5 => rl_for1 (f := T.int) (P := fun (s6 : List (List Int)) e => ∃ j8 : Jk, ∃ j9 : Jk, ∃ j10 : Jk, ∃ j11 : Jk, e = [.sh ((o2 2 (eT (eT T.int)) T.int) v_self), .ol false (List.map (eL T.int) s6), j8.s, j9.s, j10.s, j11.s]) (fun s6 a7 e h => (by obtain ⟨j8, j9, j10, j11, rfl⟩ := h; exact ⟨_, (gN_ok rfl j8.h), (rl_seqE (E := fun (r : List Int) => [.sh ((o2 2 (eT (eT T.int)) T.int) v_self), .ol false (List.map (eL T.int) s6), .sh (T.int a7), .ol false (List.map T.int r), j10.s, j11.s]) (u_set (u_lst (u_nil (rl_fits rfl (rl_p (o := Out.fr (([] : List Int).map T.int)) rfl (rl_setS (E := fun (r : List Int) => [.sh ((o2 2 (eT (eT T.int)) T.int) v_self), .ol false (List.map (eL T.int) s6), .sh (T.int a7), .ol false (List.map T.int r), j10.s, j11.s]) (r_store rfl j9.h))))))) (fun v_line_12 => rl_seqP (P := fun (s24 : List Int) e => ∃ j25 : Jk, ∃ j26 : Jk, e = [.sh ((o2 2 (eT (eT T.int)) T.int) v_self), .ol false (List.map (eL T.int) s6), .sh (T.int a7), .ol false (List.map T.int s24), j25.s, j26.s]) (u_for (u_rng (u_cons (u_fld (rl_p (r_var rfl) (rl_ofp (v := Out.sh (T.int v_self.2)) rfl (u_nil (rl_of op_rng1 (fun r13 => rl_for1 (f := T.int) (P := fun (s14 : List Int) e => ∃ j16 : Jk, ∃ j17 : Jk, e = [.sh ((o2 2 (eT (eT T.int)) T.int) v_self), .ol false (List.map (eL T.int) s6), .sh (T.int a7), .ol false (List.map T.int s14), j16.s, j17.s]) (fun s14 a15 e h => (by obtain ⟨j16, j17, rfl⟩ := h; exact ⟨_, (gN_ok rfl j16.h), (rl_seqE (E := fun (r : Int) => [.sh ((o2 2 (eT (eT T.int)) T.int) v_self), .ol false (List.map (eL T.int) s6), .sh (T.int a7), .ol false (List.map T.int s14), .sh (T.int a15), .sh (T.int r)]) (u_set (u_call (u_cval (u_call (u_cval (u_fld (rl_p (r_var rfl) (rl_ofp (v := Out.sh ((eT (eT T.int)) v_self.1)) rfl (u_cval (rl_p (r_var rfl) (u_cval (rl_p (r_var rfl) (u_cnil (rl_run (np := 3) (F := f_minor) (ss := [.sh ((eT (eT T.int)) v_self.1), .sh (T.int a15), .sh (T.int a7)]) (k := fun (r : List (List Int)) => .fr (List.map (eT T.int) r)) (w_minor v_self.1 a15 a7) (fun _ => trivial) (fun t18 => u_cnil (rl_run (np := 1) (F := f_determinant) (ss := [.sh ((eL (eT T.int)) t18)]) (k := fun (r : Int) => .sh (T.int r)) (w_determinant_2 t18) (fun _ => trivial) (fun t19 => rl_setS (E := fun (r : Int) => [.sh ((o2 2 (eT (eT T.int)) T.int) v_self), .ol false (List.map (eL T.int) s6), .sh (T.int a7), .ol false (List.map T.int s14), .sh (T.int a15), .sh (T.int r)]) (r_store rfl j17.h)))))))))))))))))) (fun v_minor_20 => rl_last (rl_seqE (E := fun (r : List Int) => [.sh ((o2 2 (eT (eT T.int)) T.int) v_self), .ol false (List.map (eL T.int) s6), .sh (T.int a7), .ol false (List.map T.int r), .sh (T.int a15), .sh (T.int v_minor_20)]) (u_app rfl (u_if (u_tst (u_op (u_op (u_op (rl_p (r_var rfl) (rl_p (r_var rfl) (rl_ofp op_addI (rl_p (o := Out.sh (.int 2)) rfl (rl_of op_modI (fun t21 => rl_p (o := Out.sh (.int 1)) rfl (rl_ofp (op_eq (f := T.int) (a := t21) (b := (1 : Int)) (by decide)) (rl_ofp rfl (rl_itep (k := fun (r : Int) => .sh (T.int r)) (E := fun (_ : Int) => [.sh ((o2 2 (eT (eT T.int)) T.int) v_self), .ol false (List.map (eL T.int) s6), .sh (T.int a7), .ol false (List.map T.int s14), .sh (T.int a15), .sh (T.int v_minor_20)]) (rl_top (u_un (rl_p (r_var rfl) (rl_ofp op_negI (rl_k))))) (rl_top (rl_p (r_var rfl) (rl_k))) (rl_app (xs := s14) (v := (if (decide (t21 = (1 : Int))) = true then (-v_minor_20) else v_minor_20)) (f := T.int) (r := fun z22 => z22) rfl rfl (fun _ => ⟨rfl, rfl⟩))))))))))))))))) (fun v_line_23 => rl_nx ⟨.inl rfl, ⟨⟨.sh (T.int a15), rfl⟩, ⟨.sh (T.int v_minor_20), rfl⟩, rfl⟩⟩))))⟩)) ⟨j10, j11, rfl⟩))))))))) (fun s24 e h => (by obtain ⟨j25, j26, rfl⟩ := h; exact rl_last (rl_seqE (E := fun (r : List (List Int)) => [.sh ((o2 2 (eT (eT T.int)) T.int) v_self), .ol false (List.map (eL T.int) r), .sh (T.int a7), .sh ((eL T.int) s24), j25.s, j26.s]) (u_app rfl (rl_p (e1 := [.sh ((o2 2 (eT (eT T.int)) T.int) v_self), .ol false (List.map (eL T.int) s6), .sh (T.int a7), .sh ((eL T.int) s24), j25.s, j26.s]) (r_varO rfl) (rl_app (xs := s6) (v := s24) (f := (eL T.int)) (r := fun z27 => z27) rfl rfl (fun _ => ⟨rfl, rfl⟩)))) (fun v_out_28 => rl_nx ⟨.inl rfl, ⟨⟨.sh (T.int a7), rfl⟩, ⟨.sh ((eL T.int) s24), rfl⟩, j25, j26, rfl⟩⟩))))))⟩)) ⟨⟨.un, rfl⟩, ⟨.un, rfl⟩, ⟨.un, rfl⟩, ⟨.un, rfl⟩, rfl⟩))))))))) (fun s29 e h => (by obtain ⟨j30, j31, j32, j33, rfl⟩ := h; exact rl_last (rl_rts (rl_ret (k := fun (r : (List (List Int)) × Int) => .sh ((o2 2 (eT (eT T.int)) T.int) r)) (fun (r : (List (List Int)) × Int) => [.sh ((o2 2 (eT (eT T.int)) T.int) v_self), .sh ((eL (eL T.int)) s29), j30.s, j31.s, j32.s, j33.s]) (rl_top (u_make (u_cons (rl_p (e1 := [.sh ((o2 2 (eT (eT T.int)) T.int) v_self), .sh ((eL (eL T.int)) s29), j30.s, j31.s, j32.s, j33.s]) (r_varO rfl) (u_cons (u_fld (rl_p (r_var rfl) (rl_ofp (v := Out.sh (T.int v_self.2)) rfl (u_nil (rl_make (em := (o2 2 (eT (eT T.int)) T.int)) (w_Grid_init_2 s29 v_self.2) (fun _ => trivial) (fun t34 => rl_k)))))))))))))))))))
def m_Grid_len (v_self : (List (List Int)) × Int) : M (Int) :=
  M.ok (v_self.1.length : Int)
theorem w_Grid_len (v_self : (List (List Int)) × Int) : FnR (f_Grid_len [.sh ((o2 2 (eT (eT T.int)) T.int) v_self)]) (m_Grid_len v_self) (fun r => .sh (T.int r)) :=
  fn_R (d1 := b_Grid_len) (e := [.sh ((o2 2 (eT (eT T.int)) T.int) v_self)]) (rl_last (rl_rts (rl_ret (k := fun (r : Int) => .sh (T.int r)) (fun (r : Int) => [.sh ((o2 2 (eT (eT T.int)) T.int) v_self)]) (rl_top (u_cb (u_cons (u_fld (rl_p (r_var rfl) (rl_ofp (v := Out.sh ((eT (eT T.int)) v_self.1)) rfl (u_nil (rl_ofp (fLen_T (f := (eT T.int)) (xs := v_self.1)) (rl_k))))))))))))
def m_law_is_rows (v_value : (List (List Int)) × Int) (v_height : Int) (v_width : Int) : M (Bool) :=
  (if (!decide (v_value.2 = v_width)) = true then M.ok true else (lenM (m_Grid_len v_value)).bind fun t1 => M.ok (!decide (t1 = v_height))).bind fun t2 =>
  if t2 = true then
  M.ok false
  else
  goM (foldF (fun (s3 : Unit) (a4 : List Int) =>
    if (!decide ((a4.length : Int) = v_width)) = true then
  (M.ok false).bind fun r => M.ok (F.rt r)
  else
  goM (foldF (fun (s7 : Unit) (a8 : Int) =>
    M.ok (F.nx ())) a4 ()) (fun v => F.rt v) fun _ =>
  M.ok (F.nx ())) v_value.1 ()) (fun v => v) fun _ =>
  M.ok true
theorem w_law_is_rows (v_value : (List (List Int)) × Int) (v_height : Int) (v_width : Int) : FnR (f_law_is_rows [.sh ((o2 2 (eT (eT T.int)) T.int) v_value), .sh (T.int v_height), .sh (T.int v_width)]) (m_law_is_rows v_value v_height v_width) (fun r => .sh (T.bl r)) :=
  fn_R (d1 := b_law_is_rows) (e := [.sh ((o2 2 (eT (eT T.int)) T.int) v_value), .sh (T.int v_height), .sh (T.int v_width), .un, .un]) (u_ifR (u_or (u_not (u_tru (u_isi (rl_p (r_var rfl) (rl_ofp (v := true) rfl (rl_ofp rfl (rl_itebF (u_or (u_not (u_tru (u_isi (u_fld (rl_p (r_var rfl) (rl_ofp (v := Out.sh ((eT (eT T.int)) v_value.1)) rfl (rl_ofp (v := true) rfl (rl_ofp rfl (rl_itebF (u_or (u_tst (u_op (u_fld (rl_p (r_var rfl) (rl_ofp (v := Out.sh (T.int v_value.2)) rfl (rl_p (r_var rfl) (rl_ofp (op_ne (f := T.int) (a := v_value.2) (b := v_width) (by decide)) (rl_ofp rfl (rl_orm (k := fun (r : Bool) => r) (E := fun (r : Bool) => [.sh ((o2 2 (eT (eT T.int)) T.int) v_value), .sh (T.int v_height), .sh (T.int v_width), .un, .un]) (a0 := true) (rl_top (u_tst (u_op (u_cb (u_cons (rl_p (r_var rfl) (u_nil (rl_of (opm_lenO (F := f_Grid_len) rfl rfl (w_Grid_len v_value)) (fun t1 => rl_p (r_var rfl) (rl_ofp (op_ne (f := T.int) (a := t1) (b := v_height) (by decide)) (rl_ofp rfl (rl_k)))))))))))) (fun t2 => rl_ite (rl_rts (rl_ret (k := fun (r : Bool) => .sh (T.bl r)) (fun (r : Bool) => [.sh ((o2 2 (eT (eT T.int)) T.int) v_value), .sh (T.int v_height), .sh (T.int v_width), .un, .un]) (rl_top (rl_p r_c (rl_k))))) (rl_nx0 (rl_goM (k := fun r => .sh (T.bl r)) (g := fun v => v) (P := fun (s12 : Unit) e => ∃ j13 : Jk, ∃ j14 : Jk, e = [.sh ((o2 2 (eT (eT T.int)) T.int) v_value), .sh (T.int v_height), .sh (T.int v_width), j13.s, j14.s]) (u_for (u_items (u_fld (rl_p (r_var rfl) (rl_ofp (v := Out.sh ((eT (eT T.int)) v_value.1)) rfl (rl_ofp (items_T (f := (eT T.int)) (xs := v_value.1)) (rl_for2 (k := fun r => .sh (T.bl r)) (f := (eT T.int)) (P := fun (s3 : Unit) e => ∃ j5 : Jk, ∃ j6 : Jk, e = [.sh ((o2 2 (eT (eT T.int)) T.int) v_value), .sh (T.int v_height), .sh (T.int v_width), j5.s, j6.s]) (fun s3 a4 e h => (by obtain ⟨j5, j6, rfl⟩ := h; exact ⟨_, (gN_ok rfl j5.h), (u_ifR (u_or (u_not (u_tru (u_isi (rl_p (r_var rfl) (rl_ofp (v := true) rfl (rl_ofp rfl (rl_itebF (u_tst (u_op (rl_p (lenN_T (f := T.int) (xs := a4) rfl) (rl_p (r_var rfl) (rl_ofp (op_ne (f := T.int) (a := (a4.length : Int)) (b := v_width) (by decide)) (rl_ofp rfl (rl_ite (rl_rts (rl_retG (k := fun (r : Bool) => .sh (T.bl r)) (E := fun (r : Bool) => [.sh ((o2 2 (eT (eT T.int)) T.int) v_value), .sh (T.int v_height), .sh (T.int v_width), .sh ((eT T.int) a4), j6.s]) (g := fun (r : Bool) => F.rt r) (rl_top (rl_p r_c (rl_k))) (fun _ => rfl))) (rl_nx0 (rl_last (rl_goM (k := fun r => .sh (T.bl r)) (g := fun v => F.rt v) (P := fun (s10 : Unit) e => ∃ j11 : Jk, e = [.sh ((o2 2 (eT (eT T.int)) T.int) v_value), .sh (T.int v_height), .sh (T.int v_width), .sh ((eT T.int) a4), j11.s]) (u_for (u_items (rl_p (r_var rfl) (rl_ofp (items_T (f := T.int) (xs := a4)) (rl_for2 (k := fun r => .sh (T.bl r)) (f := T.int) (P := fun (s7 : Unit) e => ∃ j9 : Jk, e = [.sh ((o2 2 (eT (eT T.int)) T.int) v_value), .sh (T.int v_height), .sh (T.int v_width), .sh ((eT T.int) a4), j9.s]) (fun s7 a8 e h => (by obtain ⟨j9, rfl⟩ := h; exact ⟨_, (gN_ok rfl j9.h), (rl_last (u_ifR (u_or (u_not (u_tru (u_isi (rl_p (r_var rfl) (rl_ofp (v := true) rfl (rl_ofp rfl (rl_itebF (u_tru (u_isi (rl_p (r_var rfl) (rl_ofp (v := false) rfl (rl_ofp rfl (rl_iteF (rl_nx0 (rl_nx ⟨.inl rfl, ⟨⟨.sh (T.int a8), rfl⟩, rfl⟩⟩))))))))))))))))))⟩)) ⟨j6, rfl⟩))))) (fun _ _ => rfl) (fun s10 e h => (by obtain ⟨j11, rfl⟩ := h; exact rl_nx ⟨.inl rfl, ⟨⟨.sh ((eT T.int) a4), rfl⟩, j11, rfl⟩⟩)))))))))))))))))))))⟩)) ⟨⟨.un, rfl⟩, ⟨.un, rfl⟩, rfl⟩))))))) (fun _ _ => rfl) (fun s12 e h => (by obtain ⟨j13, j14, rfl⟩ := h; exact rl_last (rl_rts (rl_ret (k := fun (r : Bool) => .sh (T.bl r)) (fun (r : Bool) => [.sh ((o2 2 (eT (eT T.int)) T.int) v_value), .sh (T.int v_height), .sh (T.int v_width), j13.s, j14.s]) (rl_top (rl_p r_c (rl_k)))))))))))))))))))))))))))))))))))))))
def m_law_product (v_a : List (List Int)) (v_b : List (List Int)) (v_width : Int) : M (List (List Int)) :=
  (M.ok ([] : List (List Int))).bind fun v_out_1 =>
  (foldM (fun (s2 : List (List Int)) (a3 : List Int) =>
    (M.ok ([] : List Int)).bind fun v_line_9 =>
  ((rng1M v_width).bind fun r10 =>
  foldM (fun (s11 : List Int) (a12 : Int) =>
    (M.ok (0 : Int)).bind fun v_total_16 =>
  ((rng1M (v_b.length : Int)).bind fun r17 =>
  foldM (fun (s18 : Int) (a19 : Int) =>
    ((idxM a3 a19).bind fun t21 =>
  (idxM v_b a19).bind fun t22 =>
  (idxM t22 a12).bind fun t23 =>
  (mulM t21 t23).bind fun t24 => M.ok (s18 + t24)).bind fun v_total_25 => M.ok v_total_25) r17 v_total_16).bind fun s26 =>
  ((appM s11 s26).bind fun z28 => M.ok z28).bind fun v_line_29 => M.ok v_line_29) r10 v_line_9).bind fun s30 =>
  ((appM s2 s30).bind fun z34 => M.ok z34).bind fun v_out_35 => M.ok v_out_35) v_a v_out_1).bind fun s36 => M.ok s36
theorem w_law_product (v_a : List (List Int)) (v_b : List (List Int)) (v_width : Int) : FnR (f_law_product [.sh ((eT (eT T.int)) v_a), .sh ((eT (eT T.int)) v_b), .sh (T.int v_width)]) (m_law_product v_a v_b v_width) (fun r => .sh ((eT (eT T.int)) r)) :=
  fn_R (d1 := b_law_product) (e := [.sh ((eT (eT T.int)) v_a), .sh ((eT (eT T.int)) v_b), .sh (T.int v_width), .un, .un, .un, .un, .un, .un]) (rl_seqE (E := fun (r : List (List Int)) => [.sh ((eT (eT T.int)) v_a), .sh ((eT (eT T.int)) v_b), .sh (T.int v_width), .ol false (List.map (eT T.int) r), .un, .un, .un, .un, .un]) (u_set (u_lst (u_nil (rl_fits rfl (rl_p (o := Out.fr (([] : List (List Int)).map (eT T.int))) rfl (rl_setS (E := fun (r : List (List Int)) => [.sh ((eT (eT T.int)) v_a), .sh ((eT (eT T.int)) v_b), .sh (T.int v_width), .ol false (List.map (eT T.int) r), .un, .un, .un, .un, .un]) rfl)))))) (fun v_out_1 => rl_seqP (P := fun (s36 : List (List Int)) e => ∃ j37 : Jk, ∃ j38 : Jk, ∃ j39 : Jk, ∃ j40 : Jk, ∃ j41 : Jk, e = [.sh ((eT (eT T.int)) v_a), .sh ((eT (eT T.int)) v_b), .sh (T.int v_width), .ol false (List.map (eT T.int) s36), j37.s, j38.s, j39.s, j40.s, j41.s]) (u_for (u_items (rl_p (r_var rfl) (rl_ofp (items_T (f := (eT T.int)) (xs := v_a)) (rl_for1 (f := (eT T.int)) (P := fun (s2 : List (List Int)) e => ∃ j4 : Jk, ∃ j5 : Jk, ∃ j6 : Jk, ∃ j7 : Jk, ∃ j8 : Jk, e = [.sh ((eT (eT T.int)) v_a), .sh ((eT (eT T.int)) v_b), .sh (T.int v_width), .ol false (List.map (eT T.int) s2), j4.s, j5.s, j6.s, j7.s, j8.s]) (fun s2 a3 e h => (by obtain ⟨j4, j5, j6, j7, j8, rfl⟩ := h; exact ⟨_, (gN_ok rfl j4.h), (rl_seqE (E := fun (r : List Int) => [.sh ((eT (eT T.int)) v_a), .sh ((eT (eT T.int)) v_b), .sh (T.int v_width), .ol false (List.map (eT T.int) s2), .sh ((eT T.int) a3), .ol false (List.map T.int r), j6.s, j7.s, j8.s]) (u_set (u_lst (u_nil (rl_fits rfl (rl_p (o := Out.fr (([] : List Int).map T.int)) rfl (rl_setS (E := fun (r : List Int) => [.sh ((eT (eT T.int)) v_a), .sh ((eT (eT T.int)) v_b), .sh (T.int v_width), .ol false (List.map (eT T.int) s2), .sh ((eT T.int) a3), .ol false (List.map T.int r), j6.s, j7.s, j8.s]) (r_store rfl j5.h))))))) (fun v_line_9 => rl_seqP (P := fun (s30 : List Int) e => ∃ j31 : Jk, ∃ j32 : Jk, ∃ j33 : Jk, e = [.sh ((eT (eT T.int)) v_a), .sh ((eT (eT T.int)) v_b), .sh (T.int v_width), .ol false (List.map (eT T.int) s2), .sh ((eT T.int) a3), .ol false (List.map T.int s30), j31.s, j32.s, j33.s]) (u_for (u_rng (u_cons (rl_p (r_var rfl) (u_nil (rl_of op_rng1 (fun r10 => rl_for1 (f := T.int) (P := fun (s11 : List Int) e => ∃ j13 : Jk, ∃ j14 : Jk, ∃ j15 : Jk, e = [.sh ((eT (eT T.int)) v_a), .sh ((eT (eT T.int)) v_b), .sh (T.int v_width), .ol false (List.map (eT T.int) s2), .sh ((eT T.int) a3), .ol false (List.map T.int s11), j13.s, j14.s, j15.s]) (fun s11 a12 e h => (by obtain ⟨j13, j14, j15, rfl⟩ := h; exact ⟨_, (gN_ok rfl j13.h), (rl_seqE (E := fun (r : Int) => [.sh ((eT (eT T.int)) v_a), .sh ((eT (eT T.int)) v_b), .sh (T.int v_width), .ol false (List.map (eT T.int) s2), .sh ((eT T.int) a3), .ol false (List.map T.int s11), .sh (T.int a12), .sh (T.int r), j15.s]) (u_set (rl_p (o := Out.sh (.int 0)) rfl (rl_setS (E := fun (r : Int) => [.sh ((eT (eT T.int)) v_a), .sh ((eT (eT T.int)) v_b), .sh (T.int v_width), .ol false (List.map (eT T.int) s2), .sh ((eT T.int) a3), .ol false (List.map T.int s11), .sh (T.int a12), .sh (T.int r), j15.s]) (r_store rfl j14.h)))) (fun v_total_16 => rl_seqP (P := fun (s26 : Int) e => ∃ j27 : Jk, e = [.sh ((eT (eT T.int)) v_a), .sh ((eT (eT T.int)) v_b), .sh (T.int v_width), .ol false (List.map (eT T.int) s2), .sh ((eT T.int) a3), .ol false (List.map T.int s11), .sh (T.int a12), .sh (T.int s26), j27.s]) (u_for (u_rng (u_cons (rl_p (lenN_T (f := (eT T.int)) (xs := v_b) rfl) (u_nil (rl_of op_rng1 (fun r17 => rl_for1 (f := T.int) (P := fun (s18 : Int) e => ∃ j20 : Jk, e = [.sh ((eT (eT T.int)) v_a), .sh ((eT (eT T.int)) v_b), .sh (T.int v_width), .ol false (List.map (eT T.int) s2), .sh ((eT T.int) a3), .ol false (List.map T.int s11), .sh (T.int a12), .sh (T.int s18), j20.s]) (fun s18 a19 e h => (by obtain ⟨j20, rfl⟩ := h; exact ⟨_, (gN_ok rfl j20.h), (rl_last (rl_seqE (E := fun (r : Int) => [.sh ((eT (eT T.int)) v_a), .sh ((eT (eT T.int)) v_b), .sh (T.int v_width), .ol false (List.map (eT T.int) s2), .sh ((eT T.int) a3), .ol false (List.map T.int s11), .sh (T.int a12), .sh (T.int r), .sh (T.int a19)]) (u_set (u_op (rl_p (r_var rfl) (u_op (u_idxN (t := (eT T.int) a3) rfl (rl_p (r_var rfl) (rl_of (fIdx_T (f := T.int) (xs := a3)) (fun t21 => u_op (u_idxN (t := (eT (eT T.int)) v_b) rfl (rl_p (r_var rfl) (rl_of (fIdx_T (f := (eT T.int)) (xs := v_b)) (fun t22 => rl_p (r_var rfl) (rl_of (fIdx_T (f := T.int) (xs := t22)) (fun t23 => rl_of op_mulI (fun t24 => rl_ofp op_addI (rl_setS (E := fun (r : Int) => [.sh ((eT (eT T.int)) v_a), .sh ((eT (eT T.int)) v_b), .sh (T.int v_width), .ol false (List.map (eT T.int) s2), .sh ((eT T.int) a3), .ol false (List.map T.int s11), .sh (T.int a12), .sh (T.int r), .sh (T.int a19)]) rfl)))))))))))))))) (fun v_total_25 => rl_nx ⟨.inl rfl, ⟨⟨.sh (T.int a19), rfl⟩, rfl⟩⟩)))⟩)) ⟨j15, rfl⟩))))))) (fun s26 e h => (by obtain ⟨j27, rfl⟩ := h; exact rl_last (rl_seqE (E := fun (r : List Int) => [.sh ((eT (eT T.int)) v_a), .sh ((eT (eT T.int)) v_b), .sh (T.int v_width), .ol false (List.map (eT T.int) s2), .sh ((eT T.int) a3), .ol false (List.map T.int r), .sh (T.int a12), .sh (T.int s26), j27.s]) (u_app rfl (rl_p (r_var rfl) (rl_app (xs := s11) (v := s26) (f := T.int) (r := fun z28 => z28) rfl rfl (fun _ => ⟨rfl, rfl⟩)))) (fun v_line_29 => rl_nx ⟨.inl rfl, ⟨⟨.sh (T.int a12), rfl⟩, ⟨.sh (T.int s26), rfl⟩, j27, rfl⟩⟩))))))⟩)) ⟨j6, j7, j8, rfl⟩))))))) (fun s30 e h => (by obtain ⟨j31, j32, j33, rfl⟩ := h; exact rl_last (rl_seqE (E := fun (r : List (List Int)) => [.sh ((eT (eT T.int)) v_a), .sh ((eT (eT T.int)) v_b), .sh (T.int v_width), .ol false (List.map (eT T.int) r), .sh ((eT T.int) a3), .sh ((eL T.int) s30), j31.s, j32.s, j33.s]) (u_app rfl (u_cb (u_cons (rl_p (e1 := [.sh ((eT (eT T.int)) v_a), .sh ((eT (eT T.int)) v_b), .sh (T.int v_width), .ol false (List.map (eT T.int) s2), .sh ((eT T.int) a3), .sh ((eL T.int) s30), j31.s, j32.s, j33.s]) (r_varO rfl) (u_nil (rl_ofp (fTuple_L (f := T.int) (xs := s30)) (rl_app (xs := s2) (v := s30) (f := (eT T.int)) (r := fun z34 => z34) rfl rfl (fun _ => ⟨rfl, rfl⟩)))))))) (fun v_out_35 => rl_nx ⟨.inl rfl, ⟨⟨.sh ((eT T.int) a3), rfl⟩, ⟨.sh ((eL T.int) s30), rfl⟩, j31, j32, j33, rfl⟩⟩))))))⟩)) ⟨⟨.un, rfl⟩, ⟨.un, rfl⟩, ⟨.un, rfl⟩, ⟨.un, rfl⟩, ⟨.un, rfl⟩, rfl⟩))))) (fun s36 e h => (by obtain ⟨j37, j38, j39, j40, j41, rfl⟩ := h; exact rl_last (rl_rts (rl_ret (k := fun (r : List (List Int)) => .sh ((eT (eT T.int)) r)) (fun (r : List (List Int)) => [.sh ((eT (eT T.int)) v_a), .sh ((eT (eT T.int)) v_b), .sh (T.int v_width), .sh ((eL (eT T.int)) s36), j37.s, j38.s, j39.s, j40.s, j41.s]) (rl_top (u_cb (u_cons (rl_p (e1 := [.sh ((eT (eT T.int)) v_a), .sh ((eT (eT T.int)) v_b), .sh (T.int v_width), .sh ((eL (eT T.int)) s36), j37.s, j38.s, j39.s, j40.s, j41.s]) (r_varO rfl) (u_nil (rl_ofp (fTuple_L (f := (eT T.int)) (xs := s36)) (rl_k)))))))))))))
def m_Grid_is_unimodular (v_self : (List (List Int)) × Int) : M (Bool) :=
  (m_Grid_is_square v_self).bind fun t1 =>
  (if t1 = true then (m_determinant v_self.1).bind fun t2 => M.ok (decide ((absI t2) = (1 : Int))) else M.ok false).bind fun t3 => M.ok t3
theorem w_Grid_is_unimodular (v_self : (List (List Int)) × Int) : FnR (f_Grid_is_unimodular [.sh ((o2 2 (eT (eT T.int)) T.int) v_self)]) (m_Grid_is_unimodular v_self) (fun r => .sh (T.bl r)) :=
  fn_R (d1 := b_Grid_is_unimodular) (e := [.sh ((o2 2 (eT (eT T.int)) T.int) v_self)]) (rl_last (rl_rts (rl_ret (k := fun (r : Bool) => .sh (T.bl r)) (fun (r : Bool) => [.sh ((o2 2 (eT (eT T.int)) T.int) v_self)]) (rl_top (u_andV (u_meth (rl_p (r_var rfl) (rl_meth (me := ⟨1, f_Grid_is_square, []⟩) rfl rfl (u_cnil (rl_run (np := 1) (F := f_Grid_is_square) (ss := [.sh ((o2 2 (eT (eT T.int)) T.int) v_self)]) (k := fun (r : Bool) => .sh (T.bl r)) (w_Grid_is_square v_self) (fun _ => trivial) (fun t1 => rl_ofp (v := t1) rfl (rl_andVm (b := t1) (k := fun (r : Bool) => r) (E := fun (r : Bool) => [.sh ((o2 2 (eT (eT T.int)) T.int) v_self)]) (a0 := false) (rl_top (u_op (u_cb (u_cons (u_call (u_cval (u_fld (rl_p (r_var rfl) (rl_ofp (v := Out.sh ((eT (eT T.int)) v_self.1)) rfl (u_cnil (rl_run (np := 1) (F := f_determinant) (ss := [.sh ((eT (eT T.int)) v_self.1)]) (k := fun (r : Int) => .sh (T.int r)) (w_determinant v_self.1) (fun _ => trivial) (fun t2 => u_nil (rl_ofp op_absI (rl_p (o := Out.sh (.int 1)) rfl (rl_ofp (op_eq (f := T.int) (a := (absI t2)) (b := (1 : Int)) (by decide)) (rl_k)))))))))))))))) (fun t3 => rl_k)))))))))))))
def m_law_refused (v_grid : (List (List Int)) × Int) : M (Bool) :=
  (M.ok (0 : Int)).bind fun v_count_1 =>
  (tryM (((m_Grid_determinant v_grid).bind fun t2 => M.ok ()).bind fun _ => M.ok v_count_1) (tab [(1, true)]) fun _ => (M.ok (v_count_1 + (1 : Int))).bind fun v_count_4 => M.ok v_count_4).bind fun s5 =>
  (tryM (((m_Grid_adjugate v_grid).bind fun t6 => M.ok ()).bind fun _ => M.ok s5) (tab [(1, true)]) fun _ => (M.ok (s5 + (1 : Int))).bind fun v_count_8 => M.ok v_count_8).bind fun s9 =>
  (if (decide (s9 = (2 : Int))) = true then (m_Grid_is_unimodular v_grid).bind fun t10 => M.ok (decide (t10 = false)) else M.ok false).bind fun t11 => M.ok t11
theorem w_law_refused (v_grid : (List (List Int)) × Int) : FnR (f_law_refused [.sh ((o2 2 (eT (eT T.int)) T.int) v_grid)]) (m_law_refused v_grid) (fun r => .sh (T.bl r)) :=
  fn_R (d1 := b_law_refused) (e := [.sh ((o2 2 (eT (eT T.int)) T.int) v_grid), .un]) (rl_seqE (E := fun (r : Int) => [.sh ((o2 2 (eT (eT T.int)) T.int) v_grid), .sh (T.int r)]) (u_set (rl_p (o := Out.sh (.int 0)) rfl (rl_setS (E := fun (r : Int) => [.sh ((o2 2 (eT (eT T.int)) T.int) v_grid), .sh (T.int r)]) rfl))) (fun v_count_1 => rl_seqP (P := fun (s5 : Int) e => e = [.sh ((o2 2 (eT (eT T.int)) T.int) v_grid), .sh (T.int s5)]) (rl_try (Y := fun (_ : Exn) e => e = [.sh ((o2 2 (eT (eT T.int)) T.int) v_grid), .sh (T.int v_count_1)]) (rl_last (rl_seqE (E := fun (r : Unit) => [.sh ((o2 2 (eT (eT T.int)) T.int) v_grid), .sh (T.int v_count_1)]) (u_drop (u_meth (rl_p (r_var rfl) (rl_meth (me := ⟨1, f_Grid_determinant, []⟩) rfl rfl (u_cnil (rl_run (np := 1) (F := f_Grid_determinant) (ss := [.sh ((o2 2 (eT (eT T.int)) T.int) v_grid)]) (k := fun (r : Int) => .sh (T.int r)) (w_Grid_determinant v_grid) (fun _ => rfl) (fun t2 => rl_e))))))) (fun u3 => rl_nx ⟨rfl, rfl⟩))) (fun _ e h => (by obtain rfl := h; exact rl_last (rl_seqE (E := fun (r : Int) => [.sh ((o2 2 (eT (eT T.int)) T.int) v_grid), .sh (T.int r)]) (u_set (u_op (rl_p (r_var rfl) (rl_p (o := Out.sh (.int 1)) rfl (rl_ofp op_addI (rl_setS (E := fun (r : Int) => [.sh ((o2 2 (eT (eT T.int)) T.int) v_grid), .sh (T.int r)]) rfl)))))) (fun v_count_4 => rl_nx ⟨rfl, rfl⟩)))) (fun _ e h => trivial)) (fun s5 e h => (by obtain rfl := h; exact rl_seqP (P := fun (s9 : Int) e => e = [.sh ((o2 2 (eT (eT T.int)) T.int) v_grid), .sh (T.int s9)]) (rl_try (Y := fun (_ : Exn) e => e = [.sh ((o2 2 (eT (eT T.int)) T.int) v_grid), .sh (T.int s5)]) (rl_last (rl_seqE (E := fun (r : Unit) => [.sh ((o2 2 (eT (eT T.int)) T.int) v_grid), .sh (T.int s5)]) (u_drop (u_meth (rl_p (r_var rfl) (rl_meth (me := ⟨1, f_Grid_adjugate, []⟩) rfl rfl (u_cnil (rl_run (np := 1) (F := f_Grid_adjugate) (ss := [.sh ((o2 2 (eT (eT T.int)) T.int) v_grid)]) (k := fun (r : (List (List Int)) × Int) => .sh ((o2 2 (eT (eT T.int)) T.int) r)) (w_Grid_adjugate v_grid) (fun _ => rfl) (fun t6 => rl_e))))))) (fun u7 => rl_nx ⟨rfl, rfl⟩))) (fun _ e h => (by obtain rfl := h; exact rl_last (rl_seqE (E := fun (r : Int) => [.sh ((o2 2 (eT (eT T.int)) T.int) v_grid), .sh (T.int r)]) (u_set (u_op (rl_p (r_var rfl) (rl_p (o := Out.sh (.int 1)) rfl (rl_ofp op_addI (rl_setS (E := fun (r : Int) => [.sh ((o2 2 (eT (eT T.int)) T.int) v_grid), .sh (T.int r)]) rfl)))))) (fun v_count_8 => rl_nx ⟨rfl, rfl⟩)))) (fun _ e h => trivial)) (fun s9 e h => (by obtain rfl := h; exact rl_last (rl_rts (rl_ret (k := fun (r : Bool) => .sh (T.bl r)) (fun (r : Bool) => [.sh ((o2 2 (eT (eT T.int)) T.int) v_grid), .sh (T.int s9)]) (rl_top (u_andV (u_op (rl_p (r_var rfl) (rl_p (o := Out.sh (.int 2)) rfl (rl_ofp (op_eq (f := T.int) (a := s9) (b := (2 : Int)) (by decide)) (rl_ofp (v := (decide (s9 = (2 : Int)))) rfl (rl_andVm (b := (decide (s9 = (2 : Int)))) (k := fun (r : Bool) => r) (E := fun (r : Bool) => [.sh ((o2 2 (eT (eT T.int)) T.int) v_grid), .sh (T.int s9)]) (a0 := false) (rl_top (u_op (u_meth (rl_p (r_var rfl) (rl_meth (me := ⟨1, f_Grid_is_unimodular, []⟩) rfl rfl (u_cnil (rl_run (np := 1) (F := f_Grid_is_unimodular) (ss := [.sh ((o2 2 (eT (eT T.int)) T.int) v_grid)]) (k := fun (r : Bool) => .sh (T.bl r)) (w_Grid_is_unimodular v_grid) (fun _ => trivial) (fun t10 => rl_p r_c (rl_ofp rfl (rl_k)))))))))) (fun t11 => rl_k)))))))))))))))))
def m_law (v_script : List Int) : M (Bool) :=
  ((m_law_state v_script).bind fun t1 => M.ok t1).bind fun v_state_here_2 =>
  ((m_law_take v_state_here_2 (5 : Int)).bind fun t3 => M.ok (t3.1, t3.2)).bind fun v_n_4 =>
  ((m_law_rows v_n_4.2 v_n_4.1 v_n_4.1 (9 : Int)).bind fun t5 => M.ok (t5.1, t5.2)).bind fun v_a_6 =>
  ((m_law_rows v_a_6.2 v_n_4.1 v_n_4.1 (5 : Int)).bind fun t7 => M.ok (t7.1, t7.2)).bind fun v_b_8 =>
  ((if (decide ((0 : Int) < v_n_4.1)) = true then (m_law_take v_b_8.2 (4 : Int)).bind fun t9 => M.ok ((decide (t9.1 = (0 : Int))), t9.2) else M.ok (false, v_b_8.2)).bind fun t10 =>
  if t10.1 = true then ((m_law_cell v_script (0 : Int)).bind fun t12 =>
  (idxM v_a_6.1 (0 : Int)).bind fun t13 =>
  (catM ([t12]) (cutL t13 (some (1 : Int)) none)).bind fun t14 =>
  (catM ([t14]) (cutL v_a_6.1 (some (1 : Int)) none)).bind fun t15 => M.ok t15).bind fun v_a_16 => M.ok (t10.2, v_a_16) else M.ok (t10.2, v_a_6.1)).bind fun s17 =>
  ((m_Grid_init s17.2 v_n_4.1).bind fun t18 =>
  (m_Grid_init v_b_8.1 v_n_4.1).bind fun t19 => M.ok (t18, t19)).bind fun w20 =>
  ((m_law_determinant_2 6 s17.2).bind fun t21 =>
  (m_law_determinant_2 6 v_b_8.1).bind fun t22 => M.ok (t21, t22)).bind fun w23 =>
  (m_Grid_determinant w20.1).bind fun t24 =>
  (if (!decide (t24 = w23.1)) = true then M.ok true else (m_Grid_determinant w20.1).bind fun t25 =>
  (m_Grid_mul w20.1 w20.2).bind fun t26 =>
  (m_Grid_determinant t26).bind fun t27 =>
  (mulM w23.1 w23.2).bind fun t28 =>
  (if (!decide (t27 = t28)) = true then M.ok true else (m_Grid_transposed w20.1).bind fun t29 =>
  (m_Grid_determinant t29).bind fun t30 => M.ok (!decide (t30 = w23.1))).bind fun t31 => M.ok t31).bind fun t32 =>
  if t32 = true then
  M.ok false
  else
  ((m_Grid_adjugate w20.1).bind fun t33 => M.ok t33).bind fun v_adjugate_34 =>
  (m_law_is_rows v_adjugate_34 v_n_4.1 v_n_4.1).bind fun t35 =>
  if (!t35) = true then
  M.ok false
  else
  (M.ok ([] : List (List Int))).bind fun v_due_36 =>
  ((rng1M v_n_4.1).bind fun r37 =>
  foldM (fun (s38 : List (List Int)) (a39 : Int) =>
    (M.ok ([] : List Int)).bind fun v_line_44 =>
  ((rng1M v_n_4.1).bind fun r45 =>
  foldM (fun (s46 : List Int) (a47 : Int) =>
    ((catM (cutL s17.2 none (some a47)) (cutL s17.2 (some (a47 + (1 : Int))) none)).bind fun t50 =>
  (lcM t50 fun a51 =>
    (catM (cutL a51 none (some a39)) (cutL a51 (some (a39 + (1 : Int))) none)).bind fun t52 => M.ok t52).bind fun t53 => M.ok t53).bind fun v_minor_54 =>
  ((modM (a39 + a47) (2 : Int)).bind fun t55 =>
  (mulM (2 : Int) t55).bind fun t56 =>
  (m_law_determinant_2 6 v_minor_54).bind fun t57 =>
  (mulM ((1 : Int) - t56) t57).bind fun t58 =>
  (appM s46 t58).bind fun z59 => M.ok z59).bind fun v_line_60 => M.ok v_line_60) r45 v_line_44).bind fun s61 =>
  ((appM s38 s61).bind fun z64 => M.ok z64).bind fun v_due_65 => M.ok v_due_65) r37 v_due_36).bind fun s66 =>
  if (!decide (v_adjugate_34.1 = s66)) = true then
  M.ok false
  else
  ((rng1M v_n_4.1).bind fun r71 =>
  (lcM r71 fun a72 =>
    (rng1M v_n_4.1).bind fun r73 =>
  (lcM r73 fun a74 =>
    (mulM w23.1 (if (decide (a72 = a74)) = true then 1 else 0)).bind fun t75 => M.ok t75).bind fun t76 => M.ok t76).bind fun t77 => M.ok t77).bind fun v_scalar_78 =>
  (m_law_product s17.2 v_adjugate_34.1 v_n_4.1).bind fun t79 =>
  (if (!decide (t79 = v_scalar_78)) = true then M.ok true else (m_law_product v_adjugate_34.1 s17.2 v_n_4.1).bind fun t80 => M.ok (!decide (t80 = v_scalar_78))).bind fun t81 =>
  if t81 = true then
  M.ok false
  else
  (m_Grid_is_unimodular w20.1).bind fun t82 =>
  if (!decide (t82 = (decide ((absI w23.1) = (1 : Int))))) = true then
  M.ok false
  else
  (rng1M v_n_4.1).bind fun r83 =>
  (lcM r83 fun a84 =>
    (rng1M (v_n_4.1 + (1 : Int))).bind fun r85 =>
  (lcM r85 fun a86 =>
    M.ok (1 : Int)).bind fun t87 => M.ok t87).bind fun t88 =>
  (m_Grid_init t88 (v_n_4.1 + (1 : Int))).bind fun t89 =>
  (m_law_refused t89).bind fun t90 => M.ok t90
theorem w_law (v_script : List Int) : FnR (f_law [.sh ((eQ T.int) v_script)]) (m_law v_script) (fun r => .sh (T.bl r)) :=
  fn_R (d1 := b_law) (e := [.sh ((eQ T.int) v_script), .un, .un, .un, .un, .un, .un, .un, .un, .un, .un, .un, .un, .un, .un, .un, .un]) (rl_seqE (E := fun (r : List Int) => [.sh ((eQ T.int) v_script), .ol false (List.map T.int r), .un, .un, .un, .un, .un, .un, .un, .un, .un, .un, .un, .un, .un, .un, .un]) (u_set (u_call (u_cval (rl_p (r_var rfl) (u_cnil (rl_run (np := 1) (F := f_law_state) (ss := [.sh ((eQ T.int) v_script)]) (k := fun (r : List Int) => .fr (List.map T.int r)) (w_law_state v_script) (fun _ => trivial) (fun t1 => rl_setS (E := fun (r : List Int) => [.sh ((eQ T.int) v_script), .ol false (List.map T.int r), .un, .un, .un, .un, .un, .un, .un, .un, .un, .un, .un, .un, .un, .un, .un]) rfl))))))) (fun v_state_here_2 => rl_seqE (E := fun (r : Int × (List Int)) => [.sh ((eQ T.int) v_script), .ol false (List.map T.int r.2), .sh (T.int r.1), .un, .un, .un, .un, .un, .un, .un, .un, .un, .un, .un, .un, .un, .un]) (u_set (u_call (u_clend rfl (u_cval (rl_p (o := Out.sh (.int 5)) rfl (u_cnil (rl_runL (k := fun (r : Int) => .sh (T.int r)) (us := [T.int (5 : Int)]) (E := fun (s : List Int) => [.sh ((eQ T.int) v_script), .ol false (List.map T.int s), .un, .un, .un, .un, .un, .un, .un, .un, .un, .un, .un, .un, .un, .un, .un]) (w_law_take v_state_here_2 (5 : Int)) rfl (fun _ => rfl) (fun t3 => rl_setS (E := fun (r : Int × (List Int)) => [.sh ((eQ T.int) v_script), .ol false (List.map T.int r.2), .sh (T.int r.1), .un, .un, .un, .un, .un, .un, .un, .un, .un, .un, .un, .un, .un, .un]) rfl)))))))) (fun v_n_4 => rl_seqE (E := fun (r : (List (List Int)) × (List Int)) => [.sh ((eQ T.int) v_script), .ol false (List.map T.int r.2), .sh (T.int v_n_4.1), .sh ((eT (eT T.int)) r.1), .un, .un, .un, .un, .un, .un, .un, .un, .un, .un, .un, .un, .un]) (u_set (u_call (u_clend rfl (u_cval (rl_p (r_var rfl) (u_cval (rl_p (r_var rfl) (u_cval (rl_p (o := Out.sh (.int 9)) rfl (u_cnil (rl_runL (k := fun (r : List (List Int)) => .sh ((eT (eT T.int)) r)) (us := [T.int v_n_4.1, T.int v_n_4.1, T.int (9 : Int)]) (E := fun (s : List Int) => [.sh ((eQ T.int) v_script), .ol false (List.map T.int s), .sh (T.int v_n_4.1), .un, .un, .un, .un, .un, .un, .un, .un, .un, .un, .un, .un, .un, .un]) (w_law_rows v_n_4.2 v_n_4.1 v_n_4.1 (9 : Int)) rfl (fun _ => rfl) (fun t5 => rl_setS (E := fun (r : (List (List Int)) × (List Int)) => [.sh ((eQ T.int) v_script), .ol false (List.map T.int r.2), .sh (T.int v_n_4.1), .sh ((eT (eT T.int)) r.1), .un, .un, .un, .un, .un, .un, .un, .un, .un, .un, .un, .un, .un]) rfl)))))))))))) (fun v_a_6 => rl_seqE (E := fun (r : (List (List Int)) × (List Int)) => [.sh ((eQ T.int) v_script), .ol false (List.map T.int r.2), .sh (T.int v_n_4.1), .sh ((eT (eT T.int)) v_a_6.1), .sh ((eT (eT T.int)) r.1), .un, .un, .un, .un, .un, .un, .un, .un, .un, .un, .un, .un]) (u_set (u_call (u_clend rfl (u_cval (rl_p (r_var rfl) (u_cval (rl_p (r_var rfl) (u_cval (rl_p (o := Out.sh (.int 5)) rfl (u_cnil (rl_runL (k := fun (r : List (List Int)) => .sh ((eT (eT T.int)) r)) (us := [T.int v_n_4.1, T.int v_n_4.1, T.int (5 : Int)]) (E := fun (s : List Int) => [.sh ((eQ T.int) v_script), .ol false (List.map T.int s), .sh (T.int v_n_4.1), .sh ((eT (eT T.int)) v_a_6.1), .un, .un, .un, .un, .un, .un, .un, .un, .un, .un, .un, .un, .un]) (w_law_rows v_a_6.2 v_n_4.1 v_n_4.1 (5 : Int)) rfl (fun _ => rfl) (fun t7 => rl_setS (E := fun (r : (List (List Int)) × (List Int)) => [.sh ((eQ T.int) v_script), .ol false (List.map T.int r.2), .sh (T.int v_n_4.1), .sh ((eT (eT T.int)) v_a_6.1), .sh ((eT (eT T.int)) r.1), .un, .un, .un, .un, .un, .un, .un, .un, .un, .un, .un, .un]) rfl)))))))))))) (fun v_b_8 => rl_seqP (P := fun (s17 : (List Int) × (List (List Int))) e => e = [.sh ((eQ T.int) v_script), .ol false (List.map T.int s17.1), .sh (T.int v_n_4.1), .sh ((eT (eT T.int)) s17.2), .sh ((eT (eT T.int)) v_b_8.1), .un, .un, .un, .un, .un, .un, .un, .un, .un, .un, .un, .un]) (u_ifS (u_and (u_tst (u_op (rl_p (r_var rfl) (rl_p (o := Out.sh (.int 0)) rfl (rl_ofp op_gtI (rl_ofp rfl (rl_andm (k := fun (r : Bool × (List Int)) => r.1) (E := fun (r : Bool × (List Int)) => [.sh ((eQ T.int) v_script), .ol false (List.map T.int r.2), .sh (T.int v_n_4.1), .sh ((eT (eT T.int)) v_a_6.1), .sh ((eT (eT T.int)) v_b_8.1), .un, .un, .un, .un, .un, .un, .un, .un, .un, .un, .un, .un]) (a0 := (false, v_b_8.2)) (rl_top (u_tst (u_op (u_call (u_clend rfl (u_cval (rl_p (o := Out.sh (.int 4)) rfl (u_cnil (rl_runL (k := fun (r : Int) => .sh (T.int r)) (us := [T.int (4 : Int)]) (E := fun (s : List Int) => [.sh ((eQ T.int) v_script), .ol false (List.map T.int s), .sh (T.int v_n_4.1), .sh ((eT (eT T.int)) v_a_6.1), .sh ((eT (eT T.int)) v_b_8.1), .un, .un, .un, .un, .un, .un, .un, .un, .un, .un, .un, .un]) (w_law_take v_b_8.2 (4 : Int)) rfl (fun _ => rfl) (fun t9 => rl_p (o := Out.sh (.int 0)) rfl (rl_ofp (op_eq (f := T.int) (a := t9.1) (b := (0 : Int)) (by decide)) (rl_ofp rfl (rl_k))))))))))))) (fun t10 => rl_ite (rl_last (rl_seqE (E := fun (r : List (List Int)) => [.sh ((eQ T.int) v_script), .ol false (List.map T.int t10.2), .sh (T.int v_n_4.1), .sh ((eT (eT T.int)) r), .sh ((eT (eT T.int)) v_b_8.1), .un, .un, .un, .un, .un, .un, .un, .un, .un, .un, .un, .un]) (u_set (u_op (u_tup (u_cons (u_op (u_tup (u_cons (u_call (u_cval (rl_p (r_var rfl) (u_cval (rl_p (o := Out.sh (.int 0)) rfl (u_cnil (rl_run (np := 2) (F := f_law_cell) (ss := [.sh ((eQ T.int) v_script), .sh (T.int (0 : Int))]) (k := fun (r : Int) => .sh (T.int r)) (w_law_cell v_script (0 : Int)) (fun _ => trivial) (fun t12 => u_nil (rl_fits rfl (rl_p (o := Out.sh ((eT T.int) [t12])) rfl (u_sl (u_idxN (t := (eT (eT T.int)) v_a_6.1) rfl (rl_p (o := Out.sh (.int 0)) rfl (rl_of (fIdx_T (f := (eT T.int)) (xs := v_a_6.1)) (fun t13 => u_part (rl_p (o := Out.sh (.int 1)) rfl (rl_ofp rfl (u_noPart (rl_ofp (fSl_T (f := T.int) (xs := t13)) (rl_of (op_catT (f := T.int) (xs := [t12]) (ys := (cutL t13 (some (1 : Int)) none))) (fun t14 => u_nil (rl_fits rfl (rl_p (o := Out.sh ((eT (eT T.int)) [t14])) rfl (u_sl (rl_p (r_var rfl) (u_part (rl_p (o := Out.sh (.int 1)) rfl (rl_ofp rfl (u_noPart (rl_ofp (fSl_T (f := (eT T.int)) (xs := v_a_6.1)) (rl_of (op_catT (f := (eT T.int)) (xs := [t14]) (ys := (cutL v_a_6.1 (some (1 : Int)) none))) (fun t15 => rl_setS (E := fun (r : List (List Int)) => [.sh ((eQ T.int) v_script), .ol false (List.map T.int t10.2), .sh (T.int v_n_4.1), .sh ((eT (eT T.int)) r), .sh ((eT (eT T.int)) v_b_8.1), .un, .un, .un, .un, .un, .un, .un, .un, .un, .un, .un, .un]) rfl))))))))))))))))))))))))))))))))))))))) (fun v_a_16 => rl_nx ⟨rfl, rfl⟩))) (rl_nx ⟨rfl, rfl⟩))))))))))) (fun s17 e h => (by obtain rfl := h; exact rl_seqE (E := fun (r : ((List (List Int)) × Int) × ((List (List Int)) × Int)) => [.sh ((eQ T.int) v_script), .ol false (List.map T.int s17.1), .sh (T.int v_n_4.1), .sh ((eT (eT T.int)) s17.2), .sh ((eT (eT T.int)) v_b_8.1), .sh ((o2 2 (eT (eT T.int)) T.int) r.1), .sh ((o2 2 (eT (eT T.int)) T.int) r.2), .un, .un, .un, .un, .un, .un, .un, .un, .un, .un]) (u_par (u_cons (u_make (u_cons (rl_p (r_var rfl) (u_cons (rl_p (r_var rfl) (u_nil (rl_make (em := (o2 2 (eT (eT T.int)) T.int)) (w_Grid_init s17.2 v_n_4.1) (fun _ => trivial) (fun t18 => u_cons (u_make (u_cons (rl_p (r_var rfl) (u_cons (rl_p (r_var rfl) (u_nil (rl_make (em := (o2 2 (eT (eT T.int)) T.int)) (w_Grid_init v_b_8.1 v_n_4.1) (fun _ => trivial) (fun t19 => u_nil (rl_par (par_cons (r_store rfl rfl) (par_cons (r_store rfl rfl) par_nil))))))))))))))))))))) (fun w20 => rl_seqE (E := fun (r : Int × Int) => [.sh ((eQ T.int) v_script), .ol false (List.map T.int s17.1), .sh (T.int v_n_4.1), .sh ((eT (eT T.int)) s17.2), .sh ((eT (eT T.int)) v_b_8.1), .sh ((o2 2 (eT (eT T.int)) T.int) w20.1), .sh ((o2 2 (eT (eT T.int)) T.int) w20.2), .sh (T.int r.1), .sh (T.int r.2), .un, .un, .un, .un, .un, .un, .un, .un]) (u_asg (u_tup (u_cons (u_call (u_cval (rl_p (r_var rfl) (u_cnil (rl_run (ss := [.sh ((eT (eT T.int)) s17.2)]) (k := fun (r : Int) => .sh (T.int r)) (w_law_determinant 6 s17.2) (fun _ => trivial) (fun t21 => u_cons (u_call (u_cval (rl_p (r_var rfl) (u_cnil (rl_run (ss := [.sh ((eT (eT T.int)) v_b_8.1)]) (k := fun (r : Int) => .sh (T.int r)) (w_law_determinant 6 v_b_8.1) (fun _ => trivial) (fun t22 => u_nil (rl_fits rfl (rl_p (o := Out.sh ((e2 T.int T.int) (t21, t22))) rfl (rl_onNx (gT_ok rfl (gsc_ok (gN_ok rfl rfl) (gsc_ok (gN_ok rfl rfl) gsn_ok))) rl_e)))))))))))))))))) (fun w23 => u_ifR (u_or (u_tst (u_op (u_meth (rl_p (r_var rfl) (rl_meth (me := ⟨1, f_Grid_determinant, []⟩) rfl rfl (u_cnil (rl_run (np := 1) (F := f_Grid_determinant) (ss := [.sh ((o2 2 (eT (eT T.int)) T.int) w20.1)]) (k := fun (r : Int) => .sh (T.int r)) (w_Grid_determinant w20.1) (fun _ => trivial) (fun t24 => rl_p (r_var rfl) (rl_ofp (op_ne (f := T.int) (a := t24) (b := w23.1) (by decide)) (rl_ofp rfl (rl_orm (k := fun (r : Bool) => r) (E := fun (r : Bool) => [.sh ((eQ T.int) v_script), .ol false (List.map T.int s17.1), .sh (T.int v_n_4.1), .sh ((eT (eT T.int)) s17.2), .sh ((eT (eT T.int)) v_b_8.1), .sh ((o2 2 (eT (eT T.int)) T.int) w20.1), .sh ((o2 2 (eT (eT T.int)) T.int) w20.2), .sh (T.int w23.1), .sh (T.int w23.2), .un, .un, .un, .un, .un, .un, .un, .un]) (a0 := true) (rl_top (u_or (u_tru (u_isi (u_meth (rl_p (r_var rfl) (rl_meth (me := ⟨1, f_Grid_determinant, []⟩) rfl rfl (u_cnil (rl_run (np := 1) (F := f_Grid_determinant) (ss := [.sh ((o2 2 (eT (eT T.int)) T.int) w20.1)]) (k := fun (r : Int) => .sh (T.int r)) (w_Grid_determinant w20.1) (fun _ => trivial) (fun t25 => rl_ofp (v := false) rfl (rl_ofp rfl (rl_itebF (u_or (u_tst (u_op (u_meth (u_opO (rl_p (r_var rfl) (rl_p (r_var rfl) (rl_opO (F := f_Grid_mul) rfl rfl rfl (rl_run (np := 2) (F := f_Grid_mul) (ss := [.sh ((o2 2 (eT (eT T.int)) T.int) w20.1), .sh ((o2 2 (eT (eT T.int)) T.int) w20.2)]) (k := fun (r : (List (List Int)) × Int) => .sh ((o2 2 (eT (eT T.int)) T.int) r)) (w_Grid_mul w20.1 w20.2) (fun _ => trivial) (fun t26 => rl_meth (me := ⟨1, f_Grid_determinant, []⟩) rfl rfl (u_cnil (rl_run (np := 1) (F := f_Grid_determinant) (ss := [.sh ((o2 2 (eT (eT T.int)) T.int) t26)]) (k := fun (r : Int) => .sh (T.int r)) (w_Grid_determinant t26) (fun _ => trivial) (fun t27 => u_op (rl_p (r_var rfl) (rl_p (r_var rfl) (rl_of op_mulI (fun t28 => rl_ofp (op_ne (f := T.int) (a := t27) (b := t28) (by decide)) (rl_ofp rfl (rl_orm (k := fun (r : Bool) => r) (E := fun (r : Bool) => [.sh ((eQ T.int) v_script), .ol false (List.map T.int s17.1), .sh (T.int v_n_4.1), .sh ((eT (eT T.int)) s17.2), .sh ((eT (eT T.int)) v_b_8.1), .sh ((o2 2 (eT (eT T.int)) T.int) w20.1), .sh ((o2 2 (eT (eT T.int)) T.int) w20.2), .sh (T.int w23.1), .sh (T.int w23.2), .un, .un, .un, .un, .un, .un, .un, .un]) (a0 := true) (rl_top (u_tst (u_op (u_meth (u_meth (rl_p (r_var rfl) (rl_meth (me := ⟨1, f_Grid_transposed, []⟩) rfl rfl (u_cnil (rl_run (np := 1) (F := f_Grid_transposed) (ss := [.sh ((o2 2 (eT (eT T.int)) T.int) w20.1)]) (k := fun (r : (List (List Int)) × Int) => .sh ((o2 2 (eT (eT T.int)) T.int) r)) (w_Grid_transposed w20.1) (fun _ => trivial) (fun t29 => rl_meth (me := ⟨1, f_Grid_determinant, []⟩) rfl rfl (u_cnil (rl_run (np := 1) (F := f_Grid_determinant) (ss := [.sh ((o2 2 (eT (eT T.int)) T.int) t29)]) (k := fun (r : Int) => .sh (T.int r)) (w_Grid_determinant t29) (fun _ => trivial) (fun t30 => rl_p (r_var rfl) (rl_ofp (op_ne (f := T.int) (a := t30) (b := w23.1) (by decide)) (rl_ofp rfl (rl_k)))))))))))))))) (fun t31 => rl_k)))))))))))))))))))))))))))))))) (fun t32 => rl_ite (rl_rts (rl_ret (k := fun (r : Bool) => .sh (T.bl r)) (fun (r : Bool) => [.sh ((eQ T.int) v_script), .ol false (List.map T.int s17.1), .sh (T.int v_n_4.1), .sh ((eT (eT T.int)) s17.2), .sh ((eT (eT T.int)) v_b_8.1), .sh ((o2 2 (eT (eT T.int)) T.int) w20.1), .sh ((o2 2 (eT (eT T.int)) T.int) w20.2), .sh (T.int w23.1), .sh (T.int w23.2), .un, .un, .un, .un, .un, .un, .un, .un]) (rl_top (rl_p r_c (rl_k))))) (rl_nx0 (rl_seqE (E := fun (r : (List (List Int)) × Int) => [.sh ((eQ T.int) v_script), .ol false (List.map T.int s17.1), .sh (T.int v_n_4.1), .sh ((eT (eT T.int)) s17.2), .sh ((eT (eT T.int)) v_b_8.1), .sh ((o2 2 (eT (eT T.int)) T.int) w20.1), .sh ((o2 2 (eT (eT T.int)) T.int) w20.2), .sh (T.int w23.1), .sh (T.int w23.2), .sh ((o2 2 (eT (eT T.int)) T.int) r), .un, .un, .un, .un, .un, .un, .un]) (u_set (u_meth (rl_p (r_var rfl) (rl_meth (me := ⟨1, f_Grid_adjugate, []⟩) rfl rfl (u_cnil (rl_run (np := 1) (F := f_Grid_adjugate) (ss := [.sh ((o2 2 (eT (eT T.int)) T.int) w20.1)]) (k := fun (r : (List (List Int)) × Int) => .sh ((o2 2 (eT (eT T.int)) T.int) r)) (w_Grid_adjugate w20.1) (fun _ => trivial) (fun t33 => rl_setS (E := fun (r : (List (List Int)) × Int) => [.sh ((eQ T.int) v_script), .ol false (List.map T.int s17.1), .sh (T.int v_n_4.1), .sh ((eT (eT T.int)) s17.2), .sh ((eT (eT T.int)) v_b_8.1), .sh ((o2 2 (eT (eT T.int)) T.int) w20.1), .sh ((o2 2 (eT (eT T.int)) T.int) w20.2), .sh (T.int w23.1), .sh (T.int w23.2), .sh ((o2 2 (eT (eT T.int)) T.int) r), .un, .un, .un, .un, .un, .un, .un]) rfl))))))) (fun v_adjugate_34 => u_ifR (u_not (u_tru (u_call (u_cval (rl_p (r_var rfl) (u_cval (rl_p (r_var rfl) (u_cval (rl_p (r_var rfl) (u_cnil (rl_run (np := 3) (F := f_law_is_rows) (ss := [.sh ((o2 2 (eT (eT T.int)) T.int) v_adjugate_34), .sh (T.int v_n_4.1), .sh (T.int v_n_4.1)]) (k := fun (r : Bool) => .sh (T.bl r)) (w_law_is_rows v_adjugate_34 v_n_4.1 v_n_4.1) (fun _ => trivial) (fun t35 => rl_ofp rfl (rl_ite (rl_rts (rl_ret (k := fun (r : Bool) => .sh (T.bl r)) (fun (r : Bool) => [.sh ((eQ T.int) v_script), .ol false (List.map T.int s17.1), .sh (T.int v_n_4.1), .sh ((eT (eT T.int)) s17.2), .sh ((eT (eT T.int)) v_b_8.1), .sh ((o2 2 (eT (eT T.int)) T.int) w20.1), .sh ((o2 2 (eT (eT T.int)) T.int) w20.2), .sh (T.int w23.1), .sh (T.int w23.2), .sh ((o2 2 (eT (eT T.int)) T.int) v_adjugate_34), .un, .un, .un, .un, .un, .un, .un]) (rl_top (rl_p r_c (rl_k))))) (rl_nx0 (rl_seqE (E := fun (r : List (List Int)) => [.sh ((eQ T.int) v_script), .ol false (List.map T.int s17.1), .sh (T.int v_n_4.1), .sh ((eT (eT T.int)) s17.2), .sh ((eT (eT T.int)) v_b_8.1), .sh ((o2 2 (eT (eT T.int)) T.int) w20.1), .sh ((o2 2 (eT (eT T.int)) T.int) w20.2), .sh (T.int w23.1), .sh (T.int w23.2), .sh ((o2 2 (eT (eT T.int)) T.int) v_adjugate_34), .ol false (List.map (eT T.int) r), .un, .un, .un, .un, .un, .un]) (u_set (u_lst (u_nil (rl_fits rfl (rl_p (o := Out.fr (([] : List (List Int)).map (eT T.int))) rfl (rl_setS (E := fun (r : List (List Int)) => [.sh ((eQ T.int) v_script), .ol false (List.map T.int s17.1), .sh (T.int v_n_4.1), .sh ((eT (eT T.int)) s17.2), .sh ((eT (eT T.int)) v_b_8.1), .sh ((o2 2 (eT (eT T.int)) T.int) w20.1), .sh ((o2 2 (eT (eT T.int)) T.int) w20.2), .sh (T.int w23.1), .sh (T.int w23.2), .sh ((o2 2 (eT (eT T.int)) T.int) v_adjugate_34), .ol false (List.map (eT T.int) r), .un, .un, .un, .un, .un, .un]) rfl)))))) (fun v_due_36 => rl_seqP (P := fun (s66 : List (List Int)) e => ∃ j67 : Jk, ∃ j68 : Jk, ∃ j69 : Jk, ∃ j70 : Jk, e = [.sh ((eQ T.int) v_script), .ol false (List.map T.int s17.1), .sh (T.int v_n_4.1), .sh ((eT (eT T.int)) s17.2), .sh ((eT (eT T.int)) v_b_8.1), .sh ((o2 2 (eT (eT T.int)) T.int) w20.1), .sh ((o2 2 (eT (eT T.int)) T.int) w20.2), .sh (T.int w23.1), .sh (T.int w23.2), .sh ((o2 2 (eT (eT T.int)) T.int) v_adjugate_34), .ol false (List.map (eT T.int) s66), j67.s, j68.s, j69.s, j70.s, .un, .un]) (u_for (u_rng (u_cons (rl_p (r_var rfl) (u_nil (rl_of op_rng1 (fun r37 => rl_for1 (f := T.int) (P := fun (s38 : List (List Int)) e => ∃ j40 : Jk, ∃ j41 : Jk, ∃ j42 : Jk, ∃ j43 : Jk, e = [.sh ((eQ T.int) v_script), .ol false (List.map T.int s17.1), .sh (T.int v_n_4.1), .sh ((eT (eT T.int)) s17.2), .sh ((eT (eT T.int)) v_b_8.1), .sh ((o2 2 (eT (eT T.int)) T.int) w20.1), .sh ((o2 2 (eT (eT T.int)) T.int) w20.2), .sh (T.int w23.1), .sh (T.int w23.2), .sh ((o2 2 (eT (eT T.int)) T.int) v_adjugate_34), .ol false (List.map (eT T.int) s38), j40.s, j41.s, j42.s, j43.s, .un, .un]) (fun s38 a39 e h => (by obtain ⟨j40, j41, j42, j43, rfl⟩ := h; exact ⟨_, (gN_ok rfl j40.h), (rl_seqE (E := fun (r : List Int) => [.sh ((eQ T.int) v_script), .ol false (List.map T.int s17.1), .sh (T.int v_n_4.1), .sh ((eT (eT T.int)) s17.2), .sh ((eT (eT T.int)) v_b_8.1), .sh ((o2 2 (eT (eT T.int)) T.int) w20.1), .sh ((o2 2 (eT (eT T.int)) T.int) w20.2), .sh (T.int w23.1), .sh (T.int w23.2), .sh ((o2 2 (eT (eT T.int)) T.int) v_adjugate_34), .ol false (List.map (eT T.int) s38), .sh (T.int a39), .ol false (List.map T.int r), j42.s, j43.s, .un, .un]) (u_set (u_lst (u_nil (rl_fits rfl (rl_p (o := Out.fr (([] : List Int).map T.int)) rfl (rl_setS (E := fun (r : List Int) => [.sh ((eQ T.int) v_script), .ol false (List.map T.int s17.1), .sh (T.int v_n_4.1), .sh ((eT (eT T.int)) s17.2), .sh ((eT (eT T.int)) v_b_8.1), .sh ((o2 2 (eT (eT T.int)) T.int) w20.1), .sh ((o2 2 (eT (eT T.int)) T.int) w20.2), .sh (T.int w23.1), .sh (T.int w23.2), .sh ((o2 2 (eT (eT T.int)) T.int) v_adjugate_34), .ol false (List.map (eT T.int) s38), .sh (T.int a39), .ol false (List.map T.int r), j42.s, j43.s, .un, .un]) (r_store rfl j41.h))))))) (fun v_line_44 => rl_seqP (P := fun (s61 : List Int) e => ∃ j62 : Jk, ∃ j63 : Jk, e = [.sh ((eQ T.int) v_script), .ol false (List.map T.int s17.1), .sh (T.int v_n_4.1), .sh ((eT (eT T.int)) s17.2), .sh ((eT (eT T.int)) v_b_8.1), .sh ((o2 2 (eT (eT T.int)) T.int) w20.1), .sh ((o2 2 (eT (eT T.int)) T.int) w20.2), .sh (T.int w23.1), .sh (T.int w23.2), .sh ((o2 2 (eT (eT T.int)) T.int) v_adjugate_34), .ol false (List.map (eT T.int) s38), .sh (T.int a39), .ol false (List.map T.int s61), j62.s, j63.s, .un, .un]) (u_for (u_rng (u_cons (rl_p (r_var rfl) (u_nil (rl_of op_rng1 (fun r45 => rl_for1 (f := T.int) (P := fun (s46 : List Int) e => ∃ j48 : Jk, ∃ j49 : Jk, e = [.sh ((eQ T.int) v_script), .ol false (List.map T.int s17.1), .sh (T.int v_n_4.1), .sh ((eT (eT T.int)) s17.2), .sh ((eT (eT T.int)) v_b_8.1), .sh ((o2 2 (eT (eT T.int)) T.int) w20.1), .sh ((o2 2 (eT (eT T.int)) T.int) w20.2), .sh (T.int w23.1), .sh (T.int w23.2), .sh ((o2 2 (eT (eT T.int)) T.int) v_adjugate_34), .ol false (List.map (eT T.int) s38), .sh (T.int a39), .ol false (List.map T.int s46), j48.s, j49.s, .un, .un]) (fun s46 a47 e h => (by obtain ⟨j48, j49, rfl⟩ := h; exact ⟨_, (gN_ok rfl j48.h), (rl_seqE (E := fun (r : List (List Int)) => [.sh ((eQ T.int) v_script), .ol false (List.map T.int s17.1), .sh (T.int v_n_4.1), .sh ((eT (eT T.int)) s17.2), .sh ((eT (eT T.int)) v_b_8.1), .sh ((o2 2 (eT (eT T.int)) T.int) w20.1), .sh ((o2 2 (eT (eT T.int)) T.int) w20.2), .sh (T.int w23.1), .sh (T.int w23.2), .sh ((o2 2 (eT (eT T.int)) T.int) v_adjugate_34), .ol false (List.map (eT T.int) s38), .sh (T.int a39), .ol false (List.map T.int s46), .sh (T.int a47), .ol false (List.map (eT T.int) r), .un, .un]) (u_set (u_lc (u_items (u_op (u_sl (rl_p (r_var rfl) (u_noPart (u_part (rl_p (r_var rfl) (rl_ofp rfl (rl_ofp (fSl_T (f := (eT T.int)) (xs := s17.2)) (u_sl (rl_p (r_var rfl) (u_part (u_op (rl_p (r_var rfl) (rl_p (o := Out.sh (.int 1)) rfl (rl_ofp op_addI (rl_ofp rfl (u_noPart (rl_ofp (fSl_T (f := (eT T.int)) (xs := s17.2)) (rl_of (op_catT (f := (eT T.int)) (xs := (cutL s17.2 none (some a47))) (ys := (cutL s17.2 (some (a47 + (1 : Int))) none))) (fun t50 => rl_ofp (items_T (f := (eT T.int)) (xs := t50)) (rl_lc (fun (a51 : List Int) => [.sh ((eQ T.int) v_script), .ol false (List.map T.int s17.1), .sh (T.int v_n_4.1), .sh ((eT (eT T.int)) s17.2), .sh ((eT (eT T.int)) v_b_8.1), .sh ((o2 2 (eT (eT T.int)) T.int) w20.1), .sh ((o2 2 (eT (eT T.int)) T.int) w20.2), .sh (T.int w23.1), .sh (T.int w23.2), .sh ((o2 2 (eT (eT T.int)) T.int) v_adjugate_34), .ol false (List.map (eT T.int) s38), .sh (T.int a39), .ol false (List.map T.int s46), .sh (T.int a47), j49.s, .un, .sh ((eT T.int) a51)]) (fun (a51 : List Int) (r : List Int) => [.sh ((eQ T.int) v_script), .ol false (List.map T.int s17.1), .sh (T.int v_n_4.1), .sh ((eT (eT T.int)) s17.2), .sh ((eT (eT T.int)) v_b_8.1), .sh ((o2 2 (eT (eT T.int)) T.int) w20.1), .sh ((o2 2 (eT (eT T.int)) T.int) w20.2), .sh (T.int w23.1), .sh (T.int w23.2), .sh ((o2 2 (eT (eT T.int)) T.int) v_adjugate_34), .ol false (List.map (eT T.int) s38), .sh (T.int a39), .ol false (List.map T.int s46), .sh (T.int a47), j49.s, .un, .sh ((eT T.int) a51)]) (kb := (eT T.int)) (k := fun (r : List Int) => .sh ((eT T.int) r)) (fun a51 => (gN_ok rfl rfl)) (fun a51 => rl_top (u_op (u_sl (rl_p (r_var rfl) (u_noPart (u_part (rl_p (r_var rfl) (rl_ofp rfl (rl_ofp (fSl_T (f := T.int) (xs := a51)) (u_sl (rl_p (r_var rfl) (u_part (u_op (rl_p (r_var rfl) (rl_p (o := Out.sh (.int 1)) rfl (rl_ofp op_addI (rl_ofp rfl (u_noPart (rl_ofp (fSl_T (f := T.int) (xs := a51)) (rl_of (op_catT (f := T.int) (xs := (cutL a51 none (some a39))) (ys := (cutL a51 (some (a39 + (1 : Int))) none))) (fun t52 => rl_k))))))))))))))))))))) (fun t53 => rl_setS (E := fun (r : List (List Int)) => [.sh ((eQ T.int) v_script), .ol false (List.map T.int s17.1), .sh (T.int v_n_4.1), .sh ((eT (eT T.int)) s17.2), .sh ((eT (eT T.int)) v_b_8.1), .sh ((o2 2 (eT (eT T.int)) T.int) w20.1), .sh ((o2 2 (eT (eT T.int)) T.int) w20.2), .sh (T.int w23.1), .sh (T.int w23.2), .sh ((o2 2 (eT (eT T.int)) T.int) v_adjugate_34), .ol false (List.map (eT T.int) s38), .sh (T.int a39), .ol false (List.map T.int s46), .sh (T.int a47), .ol false (List.map (eT T.int) r), .un, .un]) (r_store rfl j49.h)))))))))))))))))))))))))) (fun v_minor_54 => rl_last (rl_seqE (E := fun (r : List Int) => [.sh ((eQ T.int) v_script), .ol false (List.map T.int s17.1), .sh (T.int v_n_4.1), .sh ((eT (eT T.int)) s17.2), .sh ((eT (eT T.int)) v_b_8.1), .sh ((o2 2 (eT (eT T.int)) T.int) w20.1), .sh ((o2 2 (eT (eT T.int)) T.int) w20.2), .sh (T.int w23.1), .sh (T.int w23.2), .sh ((o2 2 (eT (eT T.int)) T.int) v_adjugate_34), .ol false (List.map (eT T.int) s38), .sh (T.int a39), .ol false (List.map T.int r), .sh (T.int a47), .sh ((eL (eT T.int)) v_minor_54), .un, .un]) (u_app rfl (u_op (u_op (rl_p (o := Out.sh (.int 1)) rfl (u_op (rl_p (o := Out.sh (.int 2)) rfl (u_op (u_op (rl_p (r_var rfl) (rl_p (r_var rfl) (rl_ofp op_addI (rl_p (o := Out.sh (.int 2)) rfl (rl_of op_modI (fun t55 => rl_of op_mulI (fun t56 => rl_ofp op_subI (u_call (u_cval (rl_p (e1 := [.sh ((eQ T.int) v_script), .ol false (List.map T.int s17.1), .sh (T.int v_n_4.1), .sh ((eT (eT T.int)) s17.2), .sh ((eT (eT T.int)) v_b_8.1), .sh ((o2 2 (eT (eT T.int)) T.int) w20.1), .sh ((o2 2 (eT (eT T.int)) T.int) w20.2), .sh (T.int w23.1), .sh (T.int w23.2), .sh ((o2 2 (eT (eT T.int)) T.int) v_adjugate_34), .ol false (List.map (eT T.int) s38), .sh (T.int a39), .ol false (List.map T.int s46), .sh (T.int a47), .sh ((eL (eT T.int)) v_minor_54), .un, .un]) (r_varO rfl) (u_cnil (rl_run (ss := [.sh ((eL (eT T.int)) v_minor_54)]) (k := fun (r : Int) => .sh (T.int r)) (w_law_determinant_2 6 v_minor_54) (fun _ => trivial) (fun t57 => rl_of op_mulI (fun t58 => rl_app (xs := s46) (v := t58) (f := T.int) (r := fun z59 => z59) rfl rfl (fun _ => ⟨rfl, rfl⟩))))))))))))))))))))))) (fun v_line_60 => rl_nx ⟨.inl rfl, ⟨⟨.sh (T.int a47), rfl⟩, ⟨.sh ((eL (eT T.int)) v_minor_54), rfl⟩, rfl⟩⟩))))⟩)) ⟨j42, j43, rfl⟩))))))) (fun s61 e h => (by obtain ⟨j62, j63, rfl⟩ := h; exact rl_last (rl_seqE (E := fun (r : List (List Int)) => [.sh ((eQ T.int) v_script), .ol false (List.map T.int s17.1), .sh (T.int v_n_4.1), .sh ((eT (eT T.int)) s17.2), .sh ((eT (eT T.int)) v_b_8.1), .sh ((o2 2 (eT (eT T.int)) T.int) w20.1), .sh ((o2 2 (eT (eT T.int)) T.int) w20.2), .sh (T.int w23.1), .sh (T.int w23.2), .sh ((o2 2 (eT (eT T.int)) T.int) v_adjugate_34), .ol false (List.map (eT T.int) r), .sh (T.int a39), .sh ((eL T.int) s61), j62.s, j63.s, .un, .un]) (u_app rfl (u_cb (u_cons (rl_p (e1 := [.sh ((eQ T.int) v_script), .ol false (List.map T.int s17.1), .sh (T.int v_n_4.1), .sh ((eT (eT T.int)) s17.2), .sh ((eT (eT T.int)) v_b_8.1), .sh ((o2 2 (eT (eT T.int)) T.int) w20.1), .sh ((o2 2 (eT (eT T.int)) T.int) w20.2), .sh (T.int w23.1), .sh (T.int w23.2), .sh ((o2 2 (eT (eT T.int)) T.int) v_adjugate_34), .ol false (List.map (eT T.int) s38), .sh (T.int a39), .sh ((eL T.int) s61), j62.s, j63.s, .un, .un]) (r_varO rfl) (u_nil (rl_ofp (fTuple_L (f := T.int) (xs := s61)) (rl_app (xs := s38) (v := s61) (f := (eT T.int)) (r := fun z64 => z64) rfl rfl (fun _ => ⟨rfl, rfl⟩)))))))) (fun v_due_65 => rl_nx ⟨.inl rfl, ⟨⟨.sh (T.int a39), rfl⟩, ⟨.sh ((eL T.int) s61), rfl⟩, j62, j63, rfl⟩⟩))))))⟩)) ⟨⟨.un, rfl⟩, ⟨.un, rfl⟩, ⟨.un, rfl⟩, ⟨.un, rfl⟩, rfl⟩))))))) (fun s66 e h => (by obtain ⟨j67, j68, j69, j70, rfl⟩ := h; exact u_ifR (u_tst (u_op (u_fld (rl_p (r_var rfl) (rl_ofp (v := Out.sh ((eT (eT T.int)) v_adjugate_34.1)) rfl (u_cb (u_cons (rl_p (e1 := [.sh ((eQ T.int) v_script), .ol false (List.map T.int s17.1), .sh (T.int v_n_4.1), .sh ((eT (eT T.int)) s17.2), .sh ((eT (eT T.int)) v_b_8.1), .sh ((o2 2 (eT (eT T.int)) T.int) w20.1), .sh ((o2 2 (eT (eT T.int)) T.int) w20.2), .sh (T.int w23.1), .sh (T.int w23.2), .sh ((o2 2 (eT (eT T.int)) T.int) v_adjugate_34), .sh ((eL (eT T.int)) s66), j67.s, j68.s, j69.s, j70.s, .un, .un]) (r_varO rfl) (u_nil (rl_ofp (fTuple_L (f := (eT T.int)) (xs := s66)) (rl_ofp (op_ne (f := (eT (eT T.int))) (a := v_adjugate_34.1) (b := s66) (by decide)) (rl_ofp rfl (rl_ite (rl_rts (rl_ret (k := fun (r : Bool) => .sh (T.bl r)) (fun (r : Bool) => [.sh ((eQ T.int) v_script), .ol false (List.map T.int s17.1), .sh (T.int v_n_4.1), .sh ((eT (eT T.int)) s17.2), .sh ((eT (eT T.int)) v_b_8.1), .sh ((o2 2 (eT (eT T.int)) T.int) w20.1), .sh ((o2 2 (eT (eT T.int)) T.int) w20.2), .sh (T.int w23.1), .sh (T.int w23.2), .sh ((o2 2 (eT (eT T.int)) T.int) v_adjugate_34), .sh ((eL (eT T.int)) s66), j67.s, j68.s, j69.s, j70.s, .un, .un]) (rl_top (rl_p r_c (rl_k))))) (rl_nx0 (rl_seqE (E := fun (r : List (List Int)) => [.sh ((eQ T.int) v_script), .ol false (List.map T.int s17.1), .sh (T.int v_n_4.1), .sh ((eT (eT T.int)) s17.2), .sh ((eT (eT T.int)) v_b_8.1), .sh ((o2 2 (eT (eT T.int)) T.int) w20.1), .sh ((o2 2 (eT (eT T.int)) T.int) w20.2), .sh (T.int w23.1), .sh (T.int w23.2), .sh ((o2 2 (eT (eT T.int)) T.int) v_adjugate_34), .sh ((eL (eT T.int)) s66), j67.s, j68.s, j69.s, j70.s, .sh ((eT (eT T.int)) r), .un]) (u_set (u_cb (u_cons (u_lc (u_rng (u_cons (rl_p (r_var rfl) (u_nil (rl_of op_rng1 (fun r71 => rl_lc (fun (a72 : Int) => [.sh ((eQ T.int) v_script), .ol false (List.map T.int s17.1), .sh (T.int v_n_4.1), .sh ((eT (eT T.int)) s17.2), .sh ((eT (eT T.int)) v_b_8.1), .sh ((o2 2 (eT (eT T.int)) T.int) w20.1), .sh ((o2 2 (eT (eT T.int)) T.int) w20.2), .sh (T.int w23.1), .sh (T.int w23.2), .sh ((o2 2 (eT (eT T.int)) T.int) v_adjugate_34), .sh ((eL (eT T.int)) s66), .sh (T.int a72), j68.s, j69.s, j70.s, .un, .un]) (fun (a72 : Int) (r : List Int) => [.sh ((eQ T.int) v_script), .ol false (List.map T.int s17.1), .sh (T.int v_n_4.1), .sh ((eT (eT T.int)) s17.2), .sh ((eT (eT T.int)) v_b_8.1), .sh ((o2 2 (eT (eT T.int)) T.int) w20.1), .sh ((o2 2 (eT (eT T.int)) T.int) w20.2), .sh (T.int w23.1), .sh (T.int w23.2), .sh ((o2 2 (eT (eT T.int)) T.int) v_adjugate_34), .sh ((eL (eT T.int)) s66), .sh (T.int a72), j68.s, j69.s, j70.s, .un, .un]) (kb := (eT T.int)) (k := fun (r : List Int) => .sh ((eT T.int) r)) (fun a72 => (gN_ok rfl rfl)) (fun a72 => rl_top (u_cb (u_cons (u_lc (u_rng (u_cons (rl_p (r_var rfl) (u_nil (rl_of op_rng1 (fun r73 => rl_lc (fun (a74 : Int) => [.sh ((eQ T.int) v_script), .ol false (List.map T.int s17.1), .sh (T.int v_n_4.1), .sh ((eT (eT T.int)) s17.2), .sh ((eT (eT T.int)) v_b_8.1), .sh ((o2 2 (eT (eT T.int)) T.int) w20.1), .sh ((o2 2 (eT (eT T.int)) T.int) w20.2), .sh (T.int w23.1), .sh (T.int w23.2), .sh ((o2 2 (eT (eT T.int)) T.int) v_adjugate_34), .sh ((eL (eT T.int)) s66), .sh (T.int a72), j68.s, .sh (T.int a74), j70.s, .un, .un]) (fun (a74 : Int) (r : Int) => [.sh ((eQ T.int) v_script), .ol false (List.map T.int s17.1), .sh (T.int v_n_4.1), .sh ((eT (eT T.int)) s17.2), .sh ((eT (eT T.int)) v_b_8.1), .sh ((o2 2 (eT (eT T.int)) T.int) w20.1), .sh ((o2 2 (eT (eT T.int)) T.int) w20.2), .sh (T.int w23.1), .sh (T.int w23.2), .sh ((o2 2 (eT (eT T.int)) T.int) v_adjugate_34), .sh ((eL (eT T.int)) s66), .sh (T.int a72), j68.s, .sh (T.int a74), j70.s, .un, .un]) (kb := T.int) (k := fun (r : Int) => .sh (T.int r)) (fun a74 => (gN_ok rfl rfl)) (fun a74 => rl_top (u_op (rl_p (r_var rfl) (u_cb (u_cons (u_op (rl_p (r_var rfl) (rl_p (r_var rfl) (rl_ofp (op_eq (f := T.int) (a := a72) (b := a74) (by decide)) (u_nil (rl_ofp op_intB (rl_of op_mulI (fun t75 => rl_k))))))))))))) (fun t76 => u_nil (rl_ofp (fTuple_L (f := T.int) (xs := t76)) (rl_k))))))))))))) (fun t77 => u_nil (rl_ofp (fTuple_L (f := (eT T.int)) (xs := t77)) (rl_setS (E := fun (r : List (List Int)) => [.sh ((eQ T.int) v_script), .ol false (List.map T.int s17.1), .sh (T.int v_n_4.1), .sh ((eT (eT T.int)) s17.2), .sh ((eT (eT T.int)) v_b_8.1), .sh ((o2 2 (eT (eT T.int)) T.int) w20.1), .sh ((o2 2 (eT (eT T.int)) T.int) w20.2), .sh (T.int w23.1), .sh (T.int w23.2), .sh ((o2 2 (eT (eT T.int)) T.int) v_adjugate_34), .sh ((eL (eT T.int)) s66), j67.s, j68.s, j69.s, j70.s, .sh ((eT (eT T.int)) r), .un]) rfl))))))))))))) (fun v_scalar_78 => u_ifR (u_or (u_tst (u_op (u_call (u_cval (rl_p (r_var rfl) (u_cval (u_fld (rl_p (r_var rfl) (rl_ofp (v := Out.sh ((eT (eT T.int)) v_adjugate_34.1)) rfl (u_cval (rl_p (r_var rfl) (u_cnil (rl_run (np := 3) (F := f_law_product) (ss := [.sh ((eT (eT T.int)) s17.2), .sh ((eT (eT T.int)) v_adjugate_34.1), .sh (T.int v_n_4.1)]) (k := fun (r : List (List Int)) => .sh ((eT (eT T.int)) r)) (w_law_product s17.2 v_adjugate_34.1 v_n_4.1) (fun _ => trivial) (fun t79 => rl_p (r_var rfl) (rl_ofp (op_ne (f := (eT (eT T.int))) (a := t79) (b := v_scalar_78) (by decide)) (rl_ofp rfl (rl_orm (k := fun (r : Bool) => r) (E := fun (r : Bool) => [.sh ((eQ T.int) v_script), .ol false (List.map T.int s17.1), .sh (T.int v_n_4.1), .sh ((eT (eT T.int)) s17.2), .sh ((eT (eT T.int)) v_b_8.1), .sh ((o2 2 (eT (eT T.int)) T.int) w20.1), .sh ((o2 2 (eT (eT T.int)) T.int) w20.2), .sh (T.int w23.1), .sh (T.int w23.2), .sh ((o2 2 (eT (eT T.int)) T.int) v_adjugate_34), .sh ((eL (eT T.int)) s66), j67.s, j68.s, j69.s, j70.s, .sh ((eT (eT T.int)) v_scalar_78), .un]) (a0 := true) (rl_top (u_tst (u_op (u_call (u_cval (u_fld (rl_p (r_var rfl) (rl_ofp (v := Out.sh ((eT (eT T.int)) v_adjugate_34.1)) rfl (u_cval (rl_p (r_var rfl) (u_cval (rl_p (r_var rfl) (u_cnil (rl_run (np := 3) (F := f_law_product) (ss := [.sh ((eT (eT T.int)) v_adjugate_34.1), .sh ((eT (eT T.int)) s17.2), .sh (T.int v_n_4.1)]) (k := fun (r : List (List Int)) => .sh ((eT (eT T.int)) r)) (w_law_product v_adjugate_34.1 s17.2 v_n_4.1) (fun _ => trivial) (fun t80 => rl_p (r_var rfl) (rl_ofp (op_ne (f := (eT (eT T.int))) (a := t80) (b := v_scalar_78) (by decide)) (rl_ofp rfl (rl_k)))))))))))))))))) (fun t81 => rl_ite (rl_rts (rl_ret (k := fun (r : Bool) => .sh (T.bl r)) (fun (r : Bool) => [.sh ((eQ T.int) v_script), .ol false (List.map T.int s17.1), .sh (T.int v_n_4.1), .sh ((eT (eT T.int)) s17.2), .sh ((eT (eT T.int)) v_b_8.1), .sh ((o2 2 (eT (eT T.int)) T.int) w20.1), .sh ((o2 2 (eT (eT T.int)) T.int) w20.2), .sh (T.int w23.1), .sh (T.int w23.2), .sh ((o2 2 (eT (eT T.int)) T.int) v_adjugate_34), .sh ((eL (eT T.int)) s66), j67.s, j68.s, j69.s, j70.s, .sh ((eT (eT T.int)) v_scalar_78), .un]) (rl_top (rl_p r_c (rl_k))))) (rl_nx0 (u_ifR (u_tst (u_op (u_meth (rl_p (r_var rfl) (rl_meth (me := ⟨1, f_Grid_is_unimodular, []⟩) rfl rfl (u_cnil (rl_run (np := 1) (F := f_Grid_is_unimodular) (ss := [.sh ((o2 2 (eT (eT T.int)) T.int) w20.1)]) (k := fun (r : Bool) => .sh (T.bl r)) (w_Grid_is_unimodular w20.1) (fun _ => trivial) (fun t82 => u_op (u_cb (u_cons (rl_p (r_var rfl) (u_nil (rl_ofp op_absI (rl_p (o := Out.sh (.int 1)) rfl (rl_ofp (op_eq (f := T.int) (a := (absI w23.1)) (b := (1 : Int)) (by decide)) (rl_ofp (op_ne (f := T.bl) (a := t82) (b := (decide ((absI w23.1) = (1 : Int)))) (by decide)) (rl_ofp rfl (rl_ite (rl_rts (rl_ret (k := fun (r : Bool) => .sh (T.bl r)) (fun (r : Bool) => [.sh ((eQ T.int) v_script), .ol false (List.map T.int s17.1), .sh (T.int v_n_4.1), .sh ((eT (eT T.int)) s17.2), .sh ((eT (eT T.int)) v_b_8.1), .sh ((o2 2 (eT (eT T.int)) T.int) w20.1), .sh ((o2 2 (eT (eT T.int)) T.int) w20.2), .sh (T.int w23.1), .sh (T.int w23.2), .sh ((o2 2 (eT (eT T.int)) T.int) v_adjugate_34), .sh ((eL (eT T.int)) s66), j67.s, j68.s, j69.s, j70.s, .sh ((eT (eT T.int)) v_scalar_78), .un]) (rl_top (rl_p r_c (rl_k))))) (rl_nx0 (rl_last (rl_rts (rl_ret (k := fun (r : Bool) => .sh (T.bl r)) (fun (r : Bool) => [.sh ((eQ T.int) v_script), .ol false (List.map T.int s17.1), .sh (T.int v_n_4.1), .sh ((eT (eT T.int)) s17.2), .sh ((eT (eT T.int)) v_b_8.1), .sh ((o2 2 (eT (eT T.int)) T.int) w20.1), .sh ((o2 2 (eT (eT T.int)) T.int) w20.2), .sh (T.int w23.1), .sh (T.int w23.2), .sh ((o2 2 (eT (eT T.int)) T.int) v_adjugate_34), .sh ((eL (eT T.int)) s66), j67.s, j68.s, j69.s, j70.s, .sh ((eT (eT T.int)) v_scalar_78), .un]) (rl_top (u_call (u_cval (u_make (u_cons (u_lc (u_rng (u_cons (rl_p (r_var rfl) (u_nil (rl_of op_rng1 (fun r83 => rl_lc (fun (a84 : Int) => [.sh ((eQ T.int) v_script), .ol false (List.map T.int s17.1), .sh (T.int v_n_4.1), .sh ((eT (eT T.int)) s17.2), .sh ((eT (eT T.int)) v_b_8.1), .sh ((o2 2 (eT (eT T.int)) T.int) w20.1), .sh ((o2 2 (eT (eT T.int)) T.int) w20.2), .sh (T.int w23.1), .sh (T.int w23.2), .sh ((o2 2 (eT (eT T.int)) T.int) v_adjugate_34), .sh ((eL (eT T.int)) s66), .sh (T.int a84), j68.s, j69.s, j70.s, .sh ((eT (eT T.int)) v_scalar_78), .un]) (fun (a84 : Int) (r : List Int) => [.sh ((eQ T.int) v_script), .ol false (List.map T.int s17.1), .sh (T.int v_n_4.1), .sh ((eT (eT T.int)) s17.2), .sh ((eT (eT T.int)) v_b_8.1), .sh ((o2 2 (eT (eT T.int)) T.int) w20.1), .sh ((o2 2 (eT (eT T.int)) T.int) w20.2), .sh (T.int w23.1), .sh (T.int w23.2), .sh ((o2 2 (eT (eT T.int)) T.int) v_adjugate_34), .sh ((eL (eT T.int)) s66), .sh (T.int a84), j68.s, j69.s, j70.s, .sh ((eT (eT T.int)) v_scalar_78), .un]) (kb := (eL T.int)) (k := fun (r : List Int) => .fr (List.map T.int r)) (fun a84 => (gN_ok rfl rfl)) (fun a84 => rl_top (u_lc (u_rng (u_cons (u_op (rl_p (r_var rfl) (rl_p (o := Out.sh (.int 1)) rfl (rl_ofp op_addI (u_nil (rl_of op_rng1 (fun r85 => rl_lc (fun (a86 : Int) => [.sh ((eQ T.int) v_script), .ol false (List.map T.int s17.1), .sh (T.int v_n_4.1), .sh ((eT (eT T.int)) s17.2), .sh ((eT (eT T.int)) v_b_8.1), .sh ((o2 2 (eT (eT T.int)) T.int) w20.1), .sh ((o2 2 (eT (eT T.int)) T.int) w20.2), .sh (T.int w23.1), .sh (T.int w23.2), .sh ((o2 2 (eT (eT T.int)) T.int) v_adjugate_34), .sh ((eL (eT T.int)) s66), .sh (T.int a84), j68.s, .sh (T.int a86), j70.s, .sh ((eT (eT T.int)) v_scalar_78), .un]) (fun (a86 : Int) (r : Int) => [.sh ((eQ T.int) v_script), .ol false (List.map T.int s17.1), .sh (T.int v_n_4.1), .sh ((eT (eT T.int)) s17.2), .sh ((eT (eT T.int)) v_b_8.1), .sh ((o2 2 (eT (eT T.int)) T.int) w20.1), .sh ((o2 2 (eT (eT T.int)) T.int) w20.2), .sh (T.int w23.1), .sh (T.int w23.2), .sh ((o2 2 (eT (eT T.int)) T.int) v_adjugate_34), .sh ((eL (eT T.int)) s66), .sh (T.int a84), j68.s, .sh (T.int a86), j70.s, .sh ((eT (eT T.int)) v_scalar_78), .un]) (kb := T.int) (k := fun (r : Int) => .sh (T.int r)) (fun a86 => (gN_ok rfl rfl)) (fun a86 => rl_top (rl_p (o := Out.sh (.int 1)) rfl (rl_k))) (fun t87 => rl_k)))))))))))) (fun t88 => u_cons (u_op (rl_p (r_var rfl) (rl_p (o := Out.sh (.int 1)) rfl (rl_ofp op_addI (u_nil (rl_make (em := (o2 2 (eT (eT T.int)) T.int)) (w_Grid_init_2 t88 (v_n_4.1 + (1 : Int))) (fun _ => trivial) (fun t89 => u_cnil (rl_run (np := 1) (F := f_law_refused) (ss := [.sh ((o2 2 (eT (eT T.int)) T.int) t89)]) (k := fun (r : Bool) => .sh (T.bl r)) (w_law_refused t89) (fun _ => trivial) (fun t90 => rl_k))))))))))))))))))))))))))))))))))))))))))))))))))))))))))))))))))))))))))))))))))))))))))))))))))))))))))))))))))))))))))))
end L2.VD.K02

namespace L2.VD
open PySem PySem.Spec PyProof.Rows
section
variable {α β σ : Type}
theorem fits_le6 {n : Nat} (h : n ≤ 1000000) : fits n = true := Nat.ble_eq_true_of_le (Nat.le_trans h (by decide))
theorem rngIn_le6 {i : Int} (h0 : -1000000 ≤ i) (h1 : i ≤ 1000000) : rngIn i = true := by
  unfold rngIn
  rw [Bool.and_eq_true, decide_eq_true_eq, decide_eq_true_eq]
  exact ⟨Int.le_trans (by decide) h0, Int.lt_of_le_of_lt h1 (by decide)⟩
theorem appM_ok {xs : List α} {v : α} (h : xs.length < 1000000) : appM xs v = .ok (xs ++ [v]) := by
  unfold appM; rw [if_pos (fits_le6 h)]
theorem catM_ok {xs ys : List α} (h : xs.length + ys.length ≤ 1000000) : catM xs ys = .ok (xs ++ ys) := by
  unfold catM; rw [if_pos (fits_le6 h)]
def upto (n : Nat) : List Int := (List.range n).map fun (k : Nat) => (k : Int)
theorem irange0 (n : Nat) : irange 0 n = upto n := by
  unfold irange upto
  exact List.map_congr_left fun k _ => Int.zero_add _
theorem rng1M_ok {n : Nat} (h : n ≤ 1000000) : rng1M (n : Int) = .ok (upto n) := by
  unfold rng1M
  rw [if_pos (rngIn_le6 (by omega) (by omega)), Int.toNat_natCast, irange0]
theorem rng2M_ok {i j : Nat} (hi : i ≤ 1000000) (h : j ≤ 1000000) : rng2M (i : Int) (j : Int) = .ok (irange i (j - i)) := by
  unfold rng2M
  rw [if_pos (by rw [rngIn_le6 (by omega) (by omega), rngIn_le6 (by omega) (by omega)]; rfl), show ((j : Int) - (i : Int)).toNat = j - i by omega]
theorem upto_length (n : Nat) : (upto n).length = n := by unfold upto; rw [List.length_map, List.length_range]
theorem mem_upto {n : Nat} {i : Int} : i ∈ upto n ↔ ∃ k : Nat, k < n ∧ i = k := by
  unfold upto
  rw [List.mem_map]
  constructor
  · rintro ⟨k, h, rfl⟩; exact ⟨k, List.mem_range.mp h, rfl⟩
  · rintro ⟨k, h, rfl⟩; exact ⟨k, List.mem_range.mpr h, rfl⟩
theorem ixN_nat {n k : Nat} (h : k < n) : ixN n (k : Int) = some k := by
  unfold ixN
  first | (simp; omega) | (split <;> simp_all <;> omega)
theorem idxM_nat {xs : List α} {k : Nat} (h : k < xs.length) : idxM xs (k : Int) = .ok xs[k] := by
  unfold idxM atI
  rw [ixN_nat h, Option.bind_some, List.getElem?_eq_getElem h]
  rfl
theorem setM_nat {xs : List α} {k : Nat} {v : α} (h : k < xs.length) : setM xs (k : Int) v = .ok (xs.set k v) := by
  unfold setM
  rw [ixN_nat h]
  rfl
theorem cut_take {xs : List α} {k : Nat} : cutL xs none (some (k : Int)) = xs.take k := by
  unfold cutL
  rw [HT.sIx_nat, HT.sIx_none, List.drop_zero, Nat.sub_zero]
  rcases Nat.le_total k xs.length with h | h
  · rw [Nat.min_eq_left h]
  · rw [Nat.min_eq_right h, List.take_of_length_le (Nat.le_refl _), List.take_of_length_le h]
theorem cut_drop {xs : List α} {k : Nat} : cutL xs (some (k : Int)) none = xs.drop k := by
  unfold cutL
  rw [HT.sIx_nat, HT.sIx_none]
  rcases Nat.le_total k xs.length with h | h
  · rw [Nat.min_eq_left h, List.take_of_length_le (by rw [List.length_drop]; omega)]
  · rw [Nat.min_eq_right h, List.drop_of_length_le (Nat.le_refl _), List.drop_of_length_le h, List.take_nil]
theorem cut_gt {xs : List α} {k : Nat} (i : Int) (h : i = k) : cutL xs (some i) none = xs.drop k := by subst h; exact cut_drop
theorem lcR_map {f : α → M β} {g : α → β} : ∀ {xs : List α}, (∀ a ∈ xs, f a = .ok (g a)) → lcR f xs = .ok (xs.map g)
  | [], _ => rfl
  | a :: as, h => by
    show (match f a with | .ok b => (match lcR f as with | .ok bs => M.ok (b :: bs) | _ => .bad) | _ => .bad) = _
    rw [h a (List.mem_cons_self ..), lcR_map fun b hb => h b (List.mem_cons_of_mem _ hb)]
    rfl
theorem lcM_map {f : α → M β} (g : α → β) {xs : List α} (hl : xs.length ≤ 1000000) (h : ∀ a ∈ xs, f a = .ok (g a)) : lcM xs f = .ok (xs.map g) := by
  unfold lcM; rw [if_pos (fits_le6 hl), lcR_map h]
theorem lcfR_map {c : α → M Bool} {f : α → M β} {p : α → Bool} {g : α → β} : ∀ {xs : List α}, (∀ a ∈ xs, c a = .ok (p a)) → (∀ a ∈ xs, p a = true → f a = .ok (g a)) → lcfR c f xs = .ok ((xs.filter p).map g)
  | [], _, _ => rfl
  | a :: as, hc, hf => by
    show (match c a with | .ok true => (match f a with | .ok b => (match lcfR c f as with | .ok bs => M.ok (b :: bs) | _ => .bad) | _ => .bad) | .ok false => lcfR c f as | _ => .bad) = _
    rw [hc a (List.mem_cons_self ..)]
    have ih := lcfR_map (xs := as) (fun b hb => hc b (List.mem_cons_of_mem _ hb)) fun b hb => hf b (List.mem_cons_of_mem _ hb)
    cases hp : p a with
    | true =>
      rw [List.filter_cons_of_pos hp, hf a (List.mem_cons_self ..) hp, ih]
      rfl
    | false => rw [List.filter_cons_of_neg (by rw [hp]; decide)]; exact ih
theorem lcfM_map {c : α → M Bool} {f : α → M β} (p : α → Bool) (g : α → β) {xs : List α} (hl : xs.length ≤ 1000000) (hc : ∀ a ∈ xs, c a = .ok (p a)) (hf : ∀ a ∈ xs, p a = true → f a = .ok (g a)) : lcfM xs c f = .ok ((xs.filter p).map g) := by
  unfold lcfM; rw [if_pos (fits_le6 hl), lcfR_map hc hf]
@[simp] theorem foldM_nil {step : σ → α → M σ} {s : σ} : foldM step [] s = .ok s := rfl
theorem foldM_cons {step : σ → α → M σ} {s s' : σ} {a : α} {as : List α} (h : step s a = .ok s') : foldM step (a :: as) s = foldM step as s' := by
  show (step s a).bind (foldM step as) = _
  rw [h]; rfl
theorem foldM_app {step : List β → α → M (List β)} {g : α → β} : ∀ {xs : List α} {acc : List β}, acc.length + xs.length ≤ 1000000 → (∀ a ∈ xs, ∀ s : List β, s.length < 1000000 → step s a = .ok (s ++ [g a])) → foldM step xs acc = .ok (acc ++ xs.map g)
  | [], acc, _, _ => by rw [List.map_nil, List.append_nil]; rfl
  | a :: as, acc, hl, h => by
    rw [List.length_cons] at hl
    rw [foldM_cons (h a (List.mem_cons_self ..) acc (by omega)), foldM_app (by rw [List.length_append, List.length_singleton]; omega) fun b hb => h b (List.mem_cons_of_mem _ hb), List.append_assoc]
    rfl
theorem foldM_sum {step : Int → α → M Int} {g : α → Int} : ∀ {xs : List α} {acc : Int}, (∀ a ∈ xs, ∀ s : Int, step s a = .ok (s + g a)) → foldM step xs acc = .ok (acc + (xs.map g).sum)
  | [], acc, _ => by rw [List.map_nil, List.sum_nil, Int.add_zero]; rfl
  | a :: as, acc, h => by
    rw [foldM_cons (h a (List.mem_cons_self ..) acc), foldM_sum fun b hb => h b (List.mem_cons_of_mem _ hb), List.map_cons, List.sum_cons, Int.add_assoc]
def Rm (i : Int) : Prop := i = 0 ∨ i.natAbs.log2 ≤ 50000000
theorem mulFits_rm {i j : Int} (hi : Rm i) (hj : Rm j) : mulFits i j = true := by
  unfold mulFits
  rcases hi with rfl | hi
  · rw [Bool.or_eq_true, Bool.or_eq_true]; exact .inl (.inr (by decide))
  · rcases hj with rfl | hj
    · rw [Bool.or_eq_true, Bool.or_eq_true]; exact .inl (.inl (by decide))
    · rw [Bool.or_eq_true]; exact .inr (Nat.ble_eq_true_of_le (by omega))
theorem mulM_rm {i j : Int} (hi : Rm i) (hj : Rm j) : mulM i j = .ok (i * j) := by unfold mulM; rw [if_pos (mulFits_rm hi hj)]
theorem mulM_l {i j : Int} (h : i.natAbs ≤ 9223372036854775807) : mulM i j = .ok (i * j) := by
  unfold mulM
  rw [if_pos]
  unfold mulFits
  rw [Bool.or_eq_true, Bool.or_eq_true]
  exact .inl (.inr (Nat.ble_eq_true_of_le h))
theorem mulM_r {i j : Int} (h : j.natAbs ≤ 9223372036854775807) : mulM i j = .ok (i * j) := by
  unfold mulM
  rw [if_pos]
  unfold mulFits
  rw [Bool.or_eq_true, Bool.or_eq_true]
  exact .inl (.inl (Nat.ble_eq_true_of_le h))
theorem modM_ok {i j : Int} (h : j ≠ 0) : modM i j = .ok (i.fmod j) := by unfold modM; rw [if_pos (decide_eq_true h)]
theorem divM_small {i j : Int} (h : j ≠ 0) (h1 : j.natAbs < 1000000000) : divM i j = .ok (i.fdiv j) := by
  unfold divM
  rw [if_pos]
  unfold divFits
  rw [Bool.and_eq_true, decide_eq_true_eq]
  refine ⟨h, Nat.ble_eq_true_of_le ?_⟩
  have : j.natAbs.log2 < 30 := (Nat.log2_lt (by omega)).mpr (by omega)
  omega
end
end L2.VD

namespace L2.VD
open PySem PySem.Spec PyProof.Rows
section
variable {α β σ ρ τ : Type}
theorem okb {α β : Type} (a : α) (f : α → M β) : (M.ok a).bind f = f a := Eq.trans (Eq.refl ((M.ok a).bind f)) rfl
theorem noxb {α : Type} (a : α) : (M.ok a).nox = .ok a := Eq.trans (Eq.refl ((M.ok a).nox)) rfl
@[simp] theorem tryM_ok (a : α) (tbl : Nat → Option Bool) (y : Exn → M α) : tryM (.ok a) tbl y = .ok a := rfl
@[simp] theorem foldM_cons_ (step : σ → α → M σ) (s : σ) (a : α) (as : List α) : foldM step (a :: as) s = (step s a).bind (foldM step as) := rfl
@[simp] theorem foldF_nil_ (step : σ → α → M (F σ ρ)) (s : σ) : foldF step [] s = .ok (F.nx s) := rfl
@[simp] theorem lcM_nil (f : α → M β) : lcM [] f = .ok [] := by unfold lcM; exact if_pos (fits_le6 (Nat.zero_le _))
theorem lcM_eq {as : List α} {f : α → M β} (h : as.length < 1000000) : lcM as f = lcR f as := by unfold lcM; rw [if_pos (fits_le6 (Nat.le_of_lt h))]
@[simp] theorem lcM_cons (f : α → M β) (a : α) (as : List α) (h : as.length < 999999) : lcM (a :: as) f = (f a).nox.bind fun b => (lcM as f).bind fun bs => .ok (b :: bs) := by
  rw [lcM_eq (by rw [List.length_cons]; omega), lcM_eq (by omega)]
  show (match f a with | .ok b => (match lcR f as with | .ok bs => M.ok (b :: bs) | _ => .bad) | _ => .bad) = _
  cases f a with
  | ok b =>
    show (match lcR f as with | .ok bs => M.ok (b :: bs) | _ => .bad) = (lcR f as).bind fun bs => .ok (b :: bs)
    cases h : lcR f as with
    | ok bs => rfl
    | ex n => exact absurd h (lcR_nx n as)
    | bad => rfl
  | _ => rfl
@[simp] theorem lcsM_nil (f : σ → α → M (β × σ)) (s : σ) : lcsM [] s f = .ok ([], s) := by unfold lcsM; exact if_pos (fits_le6 (Nat.zero_le _))
theorem lcsM_eq {as : List α} {f : σ → α → M (β × σ)} {s : σ} (h : as.length < 1000000) : lcsM as s f = lcsR f as s := by unfold lcsM; rw [if_pos (fits_le6 (Nat.le_of_lt h))]
@[simp] theorem lcsM_cons (f : σ → α → M (β × σ)) (s : σ) (a : α) (as : List α) (h : as.length < 999999) : lcsM (a :: as) s f = (f s a).nox.bind fun b => (lcsM as b.2 f).nox.bind fun bs => .ok (b.1 :: bs.1, bs.2) := by
  rw [lcsM_eq (by rw [List.length_cons]; omega), lcsR]
  cases f s a with
  | ok b =>
    show _ = (lcsM as b.2 f).nox.bind fun bs => .ok (b.1 :: bs.1, bs.2)
    rw [lcsM_eq (by omega)]
    show (match lcsR f as b.2 with | .ok bs => M.ok (b.1 :: bs.1, bs.2) | _ => .bad) = _
    cases lcsR f as b.2 <;> rfl
  | _ => rfl
@[simp] theorem rng_0 : rng1M 0 = .ok [] := rng1M_ok (n := 0) (by omega)
@[simp] theorem rng_1 : rng1M 1 = .ok [0] := rng1M_ok (n := 1) (by omega)
@[simp] theorem rng_2 : rng1M 2 = .ok [0, 1] := rng1M_ok (n := 2) (by omega)
@[simp] theorem rng_3 : rng1M 3 = .ok [0, 1, 2] := rng1M_ok (n := 3) (by omega)
@[simp] theorem rng_4 : rng1M 4 = .ok [0, 1, 2, 3] := rng1M_ok (n := 4) (by omega)
@[simp] theorem idx_0 (a : α) (as : List α) : idxM (a :: as) 0 = .ok a := idxM_nat (k := 0) (by rw [List.length_cons]; omega)
@[simp] theorem idx_1 (a b : α) (as : List α) : idxM (a :: b :: as) 1 = .ok b := idxM_nat (k := 1) (by simp only [List.length_cons]; omega)
@[simp] theorem idx_2 (a b c : α) (as : List α) : idxM (a :: b :: c :: as) 2 = .ok c := idxM_nat (k := 2) (by simp only [List.length_cons]; omega)
@[simp] theorem idx_3 (a b c d : α) (as : List α) : idxM (a :: b :: c :: d :: as) 3 = .ok d := idxM_nat (k := 3) (by simp only [List.length_cons]; omega)
@[simp] theorem idx_4 (a b c d e : α) (as : List α) : idxM (a :: b :: c :: d :: e :: as) 4 = .ok e := idxM_nat (k := 4) (by simp only [List.length_cons]; omega)
@[simp] theorem idx_5 (a b c d e f : α) (as : List α) : idxM (a :: b :: c :: d :: e :: f :: as) 5 = .ok f := idxM_nat (k := 5) (by simp only [List.length_cons]; omega)
@[simp] theorem idx_6 (a b c d e f g : α) (as : List α) : idxM (a :: b :: c :: d :: e :: f :: g :: as) 6 = .ok g := idxM_nat (k := 6) (by simp only [List.length_cons]; omega)
theorem setLM_nat {xs : List (List α)} {i j : Nat} {v : α} {ys : List α} (h : xs[i]? = some ys) (hj : j < ys.length) : setLM xs (i : Int) (j : Int) v = .ok (xs.set i (ys.set j v)) := by
  unfold setLM
  rw [ixN_nat (List.getElem?_eq_some_iff.mp h).1, Option.bind_some, h, Option.bind_some, ixN_nat hj]
  rfl
@[simp] theorem cat_ (xs ys : List α) (h : xs.length + ys.length ≤ 1000000) : catM xs ys = .ok (xs ++ ys) := catM_ok h
@[simp] theorem app_ (xs : List α) (v : α) (h : xs.length < 1000000) : appM xs v = .ok (xs ++ [v]) := appM_ok h
@[simp] theorem cutL_1 (a : α) (as : List α) : cutL (a :: as) (some 1) none = as := cut_drop (k := 1)
@[simp] theorem absI_0 : absI 0 = 0 := rfl
theorem absI_nonneg (i : Int) : 0 ≤ absI i := by unfold absI; split <;> omega
end
@[simp] theorem setL_00 {α : Type} (y : α) (ys : List α) (zs : List (List α)) (v : α) : setLM ((y :: ys) :: zs) 0 0 v = .ok ((v :: ys) :: zs) := setLM_nat (i := 0) (j := 0) (ys := y :: ys) rfl (by simp)
@[simp] theorem setL_01 {α : Type} (x0 y : α) (ys : List α) (zs : List (List α)) (v : α) : setLM ((x0 :: y :: ys) :: zs) 0 1 v = .ok ((x0 :: v :: ys) :: zs) := setLM_nat (i := 0) (j := 1) (ys := x0 :: y :: ys) rfl (by simp)
@[simp] theorem setL_02 {α : Type} (x0 x1 y : α) (ys : List α) (zs : List (List α)) (v : α) : setLM ((x0 :: x1 :: y :: ys) :: zs) 0 2 v = .ok ((x0 :: x1 :: v :: ys) :: zs) := setLM_nat (i := 0) (j := 2) (ys := x0 :: x1 :: y :: ys) rfl (by simp)
@[simp] theorem setL_10 {α : Type} (r0 : List α) (y : α) (ys : List α) (zs : List (List α)) (v : α) : setLM (r0 :: (y :: ys) :: zs) 1 0 v = .ok (r0 :: (v :: ys) :: zs) := setLM_nat (i := 1) (j := 0) (ys := y :: ys) rfl (by simp)
@[simp] theorem setL_11 {α : Type} (r0 : List α) (x0 y : α) (ys : List α) (zs : List (List α)) (v : α) : setLM (r0 :: (x0 :: y :: ys) :: zs) 1 1 v = .ok (r0 :: (x0 :: v :: ys) :: zs) := setLM_nat (i := 1) (j := 1) (ys := x0 :: y :: ys) rfl (by simp)
@[simp] theorem setL_12 {α : Type} (r0 : List α) (x0 x1 y : α) (ys : List α) (zs : List (List α)) (v : α) : setLM (r0 :: (x0 :: x1 :: y :: ys) :: zs) 1 2 v = .ok (r0 :: (x0 :: x1 :: v :: ys) :: zs) := setLM_nat (i := 1) (j := 2) (ys := x0 :: x1 :: y :: ys) rfl (by simp)
@[simp] theorem setL_20 {α : Type} (r0 r1 : List α) (y : α) (ys : List α) (zs : List (List α)) (v : α) : setLM (r0 :: r1 :: (y :: ys) :: zs) 2 0 v = .ok (r0 :: r1 :: (v :: ys) :: zs) := setLM_nat (i := 2) (j := 0) (ys := y :: ys) rfl (by simp)
@[simp] theorem setL_21 {α : Type} (r0 r1 : List α) (x0 y : α) (ys : List α) (zs : List (List α)) (v : α) : setLM (r0 :: r1 :: (x0 :: y :: ys) :: zs) 2 1 v = .ok (r0 :: r1 :: (x0 :: v :: ys) :: zs) := setLM_nat (i := 2) (j := 1) (ys := x0 :: y :: ys) rfl (by simp)
@[simp] theorem setL_22 {α : Type} (r0 r1 : List α) (x0 x1 y : α) (ys : List α) (zs : List (List α)) (v : α) : setLM (r0 :: r1 :: (x0 :: x1 :: y :: ys) :: zs) 2 2 v = .ok (r0 :: r1 :: (x0 :: x1 :: v :: ys) :: zs) := setLM_nat (i := 2) (j := 2) (ys := x0 :: x1 :: y :: ys) rfl (by simp)
def q_state (v_script : List Int) : M (List Int) :=
  (M.ok (0 : Int)).bind fun v_seed_1 =>
  (M.ok (1 : Int)).bind fun v_total_2 =>
  (foldM (fun (s3 : Int × Int) (a4 : Int) =>
    ((mulM s3.1 (1000003 : Int)).bind fun t6 => M.ok (t6 + (absI a4))).bind fun v_seed_7 =>
  ((mulM s3.2 (48271 : Int)).bind fun t8 =>
  (modM (t8 + a4) (2147483647 : Int)).bind fun t9 => M.ok t9).bind fun v_total_10 => M.ok (v_seed_7, v_total_10)) (cutL v_script none (some (63 : Int))) (v_seed_1, v_total_2)).bind fun s11 => M.ok ([s11.1, s11.2])
def q_take (v_state_here : List Int) (v_m : Int) : M (Int × List Int) :=
  (idxM v_state_here (0 : Int)).bind fun t1 =>
  if (decide ((0 : Int) < t1)) = true then
  ((idxM v_state_here (0 : Int)).bind fun t2 =>
  (modM t2 v_m).bind fun t3 => M.ok t3).bind fun v_value_4 =>
  ((idxM v_state_here (0 : Int)).bind fun t5 =>
  (divM t5 v_m).bind fun t6 =>
  (setM v_state_here (0 : Int) t6).bind fun z7 => M.ok z7).bind fun v_state_here_8 =>
  (M.ok v_value_4).bind fun r => M.ok (r, v_state_here_8)
  else
  ((idxM v_state_here (1 : Int)).bind fun t9 =>
  (mulM t9 (48271 : Int)).bind fun t10 =>
  (modM (t10 + (11 : Int)) (2147483647 : Int)).bind fun t11 =>
  (setM v_state_here (1 : Int) t11).bind fun z12 => M.ok z12).bind fun v_state_here_13 =>
  ((idxM v_state_here_13 (1 : Int)).bind fun t14 =>
  (divM t14 (7 : Int)).bind fun t15 =>
  (modM t15 v_m).bind fun t16 => M.ok t16).bind fun r => M.ok (r, v_state_here_13)
def St (s : List Int) : Prop := ∃ a b : Int, s = [a, b] ∧ 0 ≤ a ∧ 0 ≤ b
theorem state_ok (ns : List Int) : ∃ s, q_state ns = .ok s ∧ St s := by
  have h : ∀ (xs : List Int) (a b : Int), 0 ≤ a → 0 ≤ b → ∃ a' b' : Int, foldM (fun (s3 : Int × Int) (a4 : Int) =>
      ((mulM s3.1 (1000003 : Int)).bind fun t6 => M.ok (t6 + (absI a4))).bind fun v_seed_7 =>
      ((mulM s3.2 (48271 : Int)).bind fun t8 =>
      (modM (t8 + a4) (2147483647 : Int)).bind fun t9 => M.ok t9).bind fun v_total_10 => M.ok (v_seed_7, v_total_10)) xs (a, b) = .ok (a', b') ∧ 0 ≤ a' ∧ 0 ≤ b' := by
    intro xs
    induction xs with
    | nil => exact fun a b ha hb => ⟨a, b, rfl, ha, hb⟩
    | cons x xs ih =>
      intro a b ha hb
      rw [foldM_cons_]
      simp only [mulM_r (i := a) (j := 1000003) (by decide), mulM_r (i := b) (j := 48271) (by decide), M.ok_bind, modM_ok (i := b * 48271 + x) (j := 2147483647) (by decide)]
      exact ih _ _ (by have := absI_nonneg x; omega) (Int.fmod_nonneg_of_pos _ (by decide))
  obtain ⟨a, b, h1, ha, hb⟩ := h (cutL ns none (some 63)) 0 1 (by decide) (by decide)
  refine ⟨[a, b], ?_, a, b, rfl, ha, hb⟩
  unfold q_state
  simp only [M.ok_bind, h1]
theorem take_ok {s : List Int} {m : Int} (hs : St s) (h0 : 0 < m) (h1 : m < 1000000000) : ∃ v s', q_take s m = .ok (v, s') ∧ 0 ≤ v ∧ v < m ∧ St s' := by
  obtain ⟨a, b, rfl, ha, hb⟩ := hs
  unfold q_take
  have hset0 : ∀ v : Int, setM [a, b] 0 v = .ok [v, b] := fun v => setM_nat (k := 0) (by simp)
  have hset1 : ∀ v : Int, setM [a, b] 1 v = .ok [a, v] := fun v => setM_nat (k := 1) (by simp)
  by_cases h : 0 < a
  · simp only [idx_0, M.ok_bind, decide_eq_true_eq, if_pos h, modM_ok (i := a) (j := m) (by omega), divM_small (i := a) (j := m) (by omega) (by omega), hset0]
    exact ⟨_, _, rfl, Int.fmod_nonneg_of_pos _ h0, Int.fmod_lt_of_pos _ h0, _, _, rfl, Int.fdiv_nonneg ha (by omega), hb⟩
  · simp only [idx_0, idx_1, M.ok_bind, decide_eq_true_eq, if_neg h, mulM_r (i := b) (j := 48271) (by decide), modM_ok (i := b * 48271 + 11) (j := 2147483647) (by decide), hset1, divM_small (j := 7) (by decide) (by decide)]
    simp only [modM_ok (j := m) (show m ≠ 0 by omega), M.ok_bind]
    exact ⟨_, _, rfl, Int.fmod_nonneg_of_pos _ h0, Int.fmod_lt_of_pos _ h0, _, _, rfl, ha, Int.fmod_nonneg_of_pos _ (by decide)⟩
def g1 (t : Int) : List (List Int) := [[1 + t]]
def g2 (a t u : Int) : List (List Int) := [[1 + t + absI a, a], [a, 1 + u + absI a]]
def g3 (a b c t u w : Int) : List (List Int) := [[1 + t + (absI a + absI b), a, b], [a, 1 + u + (absI a + absI c), c], [b, c, 1 + w + (absI b + absI c)]]
def o3 : List Int := [-1, 0, 1]
def d3 : List Int := [0, 1, 2]
end L2.VD

namespace L2.VD
open PySem PySem.Spec PyProof.Rows
def Bn (m : Nat) (x : Int) : Prop := x.natAbs < 2 ^ m
theorem Bn.mono {m n : Nat} {x : Int} (h : Bn m x) (hn : m ≤ n) : Bn n x := Nat.lt_of_lt_of_le h (Nat.pow_le_pow_right (by decide) hn)
theorem Bn.mul {m n : Nat} {x y : Int} (h : Bn m x) (h' : Bn n y) : Bn (m + n) (x * y) := by
  unfold Bn at *
  rw [Int.natAbs_mul, Nat.pow_add]
  rcases Nat.eq_zero_or_pos x.natAbs with e | e
  · rw [e, Nat.zero_mul]; exact Nat.mul_pos (Nat.pow_pos (by decide)) (Nat.pow_pos (by decide))
  · exact Nat.lt_of_lt_of_le ((Nat.mul_lt_mul_left e).mpr h') (Nat.mul_le_mul_right _ (Nat.le_of_lt h))
theorem Bn.sub {m : Nat} {x y : Int} (h : Bn m x) (h' : Bn m y) : Bn (m + 1) (x - y) := by
  unfold Bn at *
  rw [Nat.pow_succ]; omega
theorem Bn.add {m : Nat} {x y : Int} (h : Bn m x) (h' : Bn m y) : Bn (m + 1) (x + y) := by
  unfold Bn at *
  rw [Nat.pow_succ]; omega
theorem Bn.neg {m : Nat} {x : Int} (h : Bn m x) : Bn m (-x) := by
  unfold Bn at *; rw [Int.natAbs_neg]; exact h
theorem Bn.fdiv {m : Nat} {x : Int} (h : Bn m x) (b : Int) : Bn m (x.fdiv b) := Nat.lt_of_le_of_lt (Int.natAbs_fdiv_le_natAbs _ _) h
theorem Bn.rm {m : Nat} {x : Int} (h : Bn m x) (hm : m ≤ 4000) : Rm x := by
  unfold Rm
  by_cases hx : x = 0
  · exact .inl hx
  · have : x.natAbs.log2 < m := (Nat.log2_lt (by omega)).mpr h
    exact .inr (by omega)
theorem Bn.small {m : Nat} {x : Int} (h : x.natAbs < 2 ^ m) : Bn m x := h
theorem mulM_bn {m n : Nat} {x y : Int} (h : Bn m x) (h' : Bn n y) (hm : m ≤ 4000) (hn : n ≤ 4000) : mulM x y = .ok (x * y) := mulM_rm (h.rm hm) (h'.rm hn)
theorem divM_bn {m : Nat} {x y : Int} (h : Bn m y) (h0 : y ≠ 0) (hm : m ≤ 4000) : divM x y = .ok (x.fdiv y) := by
  unfold divM
  rw [if_pos]
  unfold divFits
  rw [Bool.and_eq_true, decide_eq_true_eq]
  refine ⟨h0, Nat.ble_eq_true_of_le ?_⟩
  have : y.natAbs.log2 < m := (Nat.log2_lt (by omega)).mpr h
  omega
def rowM (h : List Int) (kk f b : Int) (r : List Int) : M (List Int) := lcM (r.zip h) fun a46 =>
    (idxM h kk).bind fun t47 =>
  (mulM t47 a46.1).bind fun t48 =>
  (mulM f a46.2).bind fun t49 =>
  (divM (t48 - t49) b).bind fun t50 => M.ok t50
def rowE (p f b : Int) (r h : List Int) : List Int := (r.zip h).map fun a => (p * a.1 - f * a.2).fdiv b
def Bl (m : Nat) (l : List Int) : Prop := ∀ x ∈ l, Bn m x
theorem row_ok {m : Nat} {h r : List Int} {kk p f b : Int} (hp : idxM h kk = .ok p) (hh : Bl m h) (hr : Bl m r) (bp : Bn m p) (bf : Bn m f) (bb : Bn m b) (b0 : b ≠ 0) (hm : m ≤ 1000) (hl : r.length < 1000) : rowM h kk f b r = .ok (rowE p f b r h) ∧ Bl (2 * m + 1) (rowE p f b r h) := by
  constructor
  · unfold rowM rowE
    refine lcM_map (f := _) _ ?_ ?_
    · rw [List.length_zip]; omega
    · intro a ha
      obtain ⟨x, y⟩ := a
      obtain ⟨hx, hy⟩ := List.of_mem_zip ha
      rw [hp, M.ok_bind, mulM_bn bp (hr x hx) (by omega) (by omega), M.ok_bind, mulM_bn bf (hh y hy) (by omega) (by omega), M.ok_bind, divM_bn bb b0 (by omega)]
      rfl
  · intro x hx
    unfold rowE at hx
    obtain ⟨⟨u, v⟩, ha, rfl⟩ := List.mem_map.mp hx
    obtain ⟨hu, hv⟩ := List.of_mem_zip ha
    have h1 := (bp.mul (hr u hu)).sub (bf.mul (hh v hv))
    exact (h1.mono (by omega)).fdiv b
def bstepM (n : Int) (s7 : (List (List Int)) × Int × Int) (a8 : Int) : M (F ((List (List Int)) × Int × Int) Int) :=
    ((rng2M a8 n).bind fun r15 =>
  (lcfM r15 (fun a16 => (idxM s7.1 a16).bind fun t17 =>
  (idxM t17 a8).bind fun t18 => M.ok (!decide (t18 = (0 : Int)))) fun a16 =>
    M.ok a16).bind fun t19 => M.ok t19).bind fun v_chosen_20 =>
  if (decide ((v_chosen_20.length : Int) = (0 : Int))) = true then
  (M.ok (0 : Int)).bind fun r => M.ok (F.rt r)
  else
  ((idxM v_chosen_20 (0 : Int)).bind fun t21 =>
  if (!decide (t21 = a8)) = true then ((idxM s7.1 a8).bind fun t23 => M.ok t23).bind fun v_row_24 =>
  ((idxM v_chosen_20 (0 : Int)).bind fun t25 =>
  (idxM s7.1 t25).bind fun t26 =>
  (setM s7.1 a8 t26).bind fun z27 => M.ok z27).bind fun v_table_28 =>
  ((idxM v_chosen_20 (0 : Int)).bind fun t29 =>
  (setM v_table_28 t29 v_row_24).bind fun z30 => M.ok z30).bind fun v_table_31 =>
  (M.ok (-s7.2.1)).bind fun v_sign_32 => M.ok (v_table_31, v_sign_32) else M.ok (s7.1, s7.2.1)).bind fun s33 =>
  ((idxM s33.1 a8).bind fun t35 => M.ok t35).bind fun v_head_36 =>
  ((rng2M (a8 + (1 : Int)) n).bind fun r37 =>
  foldM (fun (s38 : List (List Int)) (a39 : Int) =>
    ((idxM s38 a39).bind fun t42 =>
  (idxM t42 a8).bind fun t43 => M.ok t43).bind fun v_factor_44 =>
  ((idxM s38 a39).bind fun t45 =>
  (rowM v_head_36 a8 v_factor_44 s7.2.2 t45).bind fun t51 =>
  (setM s38 a39 t51).bind fun z52 => M.ok z52).bind fun v_table_53 => M.ok v_table_53) r37 s33.1).bind fun s54 =>
  ((idxM v_head_36 a8).bind fun t57 => M.ok t57).bind fun v_before_58 => M.ok (F.nx (s54, s33.2, v_before_58))
def q_determinant (v_rows : List (List Int)) : M (Int) :=
  ((lcM v_rows fun a1 =>
    M.ok a1).bind fun t2 => M.ok t2).bind fun v_table_3 =>
  (M.ok (v_table_3.length : Int)).bind fun v_size_4 =>
  (M.ok ((1 : Int), (1 : Int))).bind fun w5 =>
  goM ((rng1M v_size_4).bind fun r6 =>
  foldF (bstepM v_size_4) r6 (v_table_3, w5.1, w5.2)) (fun v => v) fun s59 =>
  (mulM s59.2.1 s59.2.2).bind fun t66 => M.ok t66
section
variable {α β σ : Type}
@[simp] theorem lcfM_nil (c : α → M Bool) (f : α → M β) : lcfM [] c f = .ok [] := by unfold lcfM; exact if_pos (fits_le6 (Nat.zero_le _))
theorem lcfM_eq {as : List α} {c : α → M Bool} {f : α → M β} (h : as.length < 1000000) : lcfM as c f = lcfR c f as := by unfold lcfM; rw [if_pos (fits_le6 (Nat.le_of_lt h))]
@[simp] theorem lcfM_cons (c : α → M Bool) (f : α → M β) (a : α) (as : List α) (h : as.length < 999999) : lcfM (a :: as) c f = (c a).nox.bind fun b => if b = true then (f a).nox.bind fun v => (lcfM as c f).nox.bind fun vs => .ok (v :: vs) else (lcfM as c f) := by
  rw [lcfM_eq (by rw [List.length_cons]; omega), lcfM_eq (by omega), lcfR]
  cases c a with
  | ok b =>
    cases b with
    | false => rfl
    | true =>
      show (match f a with | .ok b => (match lcfR c f as with | .ok bs => M.ok (b :: bs) | _ => .bad) | _ => .bad) = (if true = true then (f a).nox.bind fun v => (lcfR c f as).nox.bind fun vs => .ok (v :: vs) else lcfR c f as)
      rw [if_pos rfl]
      cases f a with
      | ok v =>
        show (match lcfR c f as with | .ok bs => M.ok (v :: bs) | _ => .bad) = (lcfR c f as).nox.bind fun vs => .ok (v :: vs)
        cases lcfR c f as <;> rfl
      | _ => rfl
  | _ => rfl
end
theorem rng2_nil : ∀ i : Nat, i ≤ 4 → rng2M (i : Int) (i : Int) = .ok [] := fun i h => by rw [rng2M_ok (by omega) (by omega), Nat.sub_self]; rfl
@[simp] theorem rg_11 : rng2M 1 1 = .ok [] := rng2_nil 1 (by decide)
@[simp] theorem rg_22 : rng2M 2 2 = .ok [] := rng2_nil 2 (by decide)
@[simp] theorem rg_33 : rng2M 3 3 = .ok [] := rng2_nil 3 (by decide)
@[simp] theorem rg_44 : rng2M 4 4 = .ok [] := rng2_nil 4 (by decide)
@[simp] theorem rg_01 : rng2M 0 1 = .ok [0] := rng2M_ok (i := 0) (j := 1) (by decide) (by decide)
@[simp] theorem rg_02 : rng2M 0 2 = .ok [0, 1] := rng2M_ok (i := 0) (j := 2) (by decide) (by decide)
@[simp] theorem rg_12 : rng2M 1 2 = .ok [1] := rng2M_ok (i := 1) (j := 2) (by decide) (by decide)
@[simp] theorem rg_03 : rng2M 0 3 = .ok [0, 1, 2] := rng2M_ok (i := 0) (j := 3) (by decide) (by decide)
@[simp] theorem rg_13 : rng2M 1 3 = .ok [1, 2] := rng2M_ok (i := 1) (j := 3) (by decide) (by decide)
@[simp] theorem rg_23 : rng2M 2 3 = .ok [2] := rng2M_ok (i := 2) (j := 3) (by decide) (by decide)
@[simp] theorem rg_04 : rng2M 0 4 = .ok [0, 1, 2, 3] := rng2M_ok (i := 0) (j := 4) (by decide) (by decide)
@[simp] theorem rg_14 : rng2M 1 4 = .ok [1, 2, 3] := rng2M_ok (i := 1) (j := 4) (by decide) (by decide)
@[simp] theorem rg_24 : rng2M 2 4 = .ok [2, 3] := rng2M_ok (i := 2) (j := 4) (by decide) (by decide)
@[simp] theorem rg_34 : rng2M 3 4 = .ok [3] := rng2M_ok (i := 3) (j := 4) (by decide) (by decide)
@[simp] theorem st_0 {α : Type} (a v : α) (as : List α) : setM (a :: as) 0 v = .ok (v :: as) := setM_nat (k := 0) (by simp)
@[simp] theorem st_1 {α : Type} (a b v : α) (as : List α) : setM (a :: b :: as) 1 v = .ok (a :: v :: as) := setM_nat (k := 1) (by simp)
@[simp] theorem st_2 {α : Type} (a b c v : α) (as : List α) : setM (a :: b :: c :: as) 2 v = .ok (a :: b :: v :: as) := setM_nat (k := 2) (by simp)
@[simp] theorem st_3 {α : Type} (a b c d v : α) (as : List α) : setM (a :: b :: c :: d :: as) 3 v = .ok (a :: b :: c :: v :: as) := setM_nat (k := 3) (by simp)
def Rok (k b : Int) (rs : List (List Int)) : Prop := ∀ h ∈ rs, ∀ r ∈ rs, ∀ p f, idxM h k = .ok p → idxM r k = .ok f → rowM h k f b r = .ok (rowE p f b r h)
theorem rok_of {m : Nat} {k b : Int} {rs : List (List Int)} (hb : ∀ r ∈ rs, Bl m r) (hl : ∀ r ∈ rs, r.length < 1000) (bb : Bn m b) (b0 : b ≠ 0) (hm : m ≤ 1000) (hi : ∀ r ∈ rs, ∀ p, idxM r k = .ok p → p ∈ r) : Rok k b rs := fun h hh r hr p f hp hf =>
  (row_ok hp (hb h hh) (hb r hr) (hb h hh p (hi h hh p hp)) (hb r hr f (hi r hr f hf)) bb b0 hm (hl r hr)).1
theorem bs_10 {t0 : List Int} {c0 s b : Int} (h0 : idxM t0 0 = .ok c0) (R : Rok 0 b [t0]) : bstepM 1 ([t0], s, b) 0 = .ok (if c0 ≠ 0 then F.nx ([t0], s, c0) else F.rt 0) := by
  clear R
  (by_cases g0 : c0 = 0 <;> try subst g0) <;> simp [bstepM, *]
theorem bs_20 {t0 t1 : List Int} {c0 c1 s b : Int} (h0 : idxM t0 0 = .ok c0) (h1 : idxM t1 0 = .ok c1) (R : Rok 0 b [t0, t1]) : bstepM 2 ([t0, t1], s, b) 0 = .ok (if c0 ≠ 0 then F.nx ([t0, rowE c0 c1 b t1 t0], s, c0) else if c1 ≠ 0 then F.nx ([t1, rowE c1 c0 b t0 t1], -s, c1) else F.rt 0) := by
  have e01 := R t0 (by simp) t1 (by simp) c0 c1 h0 h1
  have e10 := R t1 (by simp) t0 (by simp) c1 c0 h1 h0
  clear R
  (by_cases g0 : c0 = 0 <;> try subst g0) <;> (by_cases g1 : c1 = 0 <;> try subst g1) <;> simp [bstepM, *]
theorem bs_21 {p0 t1 : List Int} {c1 s b : Int} (h1 : idxM t1 1 = .ok c1) (R : Rok 1 b [t1]) : bstepM 2 ([p0, t1], s, b) 1 = .ok (if c1 ≠ 0 then F.nx ([p0, t1], s, c1) else F.rt 0) := by
  clear R
  (by_cases g1 : c1 = 0 <;> try subst g1) <;> simp [bstepM, *]
theorem bs_30 {t0 t1 t2 : List Int} {c0 c1 c2 s b : Int} (h0 : idxM t0 0 = .ok c0) (h1 : idxM t1 0 = .ok c1) (h2 : idxM t2 0 = .ok c2) (R : Rok 0 b [t0, t1, t2]) : bstepM 3 ([t0, t1, t2], s, b) 0 = .ok (if c0 ≠ 0 then F.nx ([t0, rowE c0 c1 b t1 t0, rowE c0 c2 b t2 t0], s, c0) else if c1 ≠ 0 then F.nx ([t1, rowE c1 c0 b t0 t1, rowE c1 c2 b t2 t1], -s, c1) else if c2 ≠ 0 then F.nx ([t2, rowE c2 c1 b t1 t2, rowE c2 c0 b t0 t2], -s, c2) else F.rt 0) := by
  have e01 := R t0 (by simp) t1 (by simp) c0 c1 h0 h1
  have e02 := R t0 (by simp) t2 (by simp) c0 c2 h0 h2
  have e10 := R t1 (by simp) t0 (by simp) c1 c0 h1 h0
  have e12 := R t1 (by simp) t2 (by simp) c1 c2 h1 h2
  have e20 := R t2 (by simp) t0 (by simp) c2 c0 h2 h0
  have e21 := R t2 (by simp) t1 (by simp) c2 c1 h2 h1
  clear R
  (by_cases g0 : c0 = 0 <;> try subst g0) <;> (by_cases g1 : c1 = 0 <;> try subst g1) <;> (by_cases g2 : c2 = 0 <;> try subst g2) <;> simp [bstepM, *]
theorem bs_31 {p0 t1 t2 : List Int} {c1 c2 s b : Int} (h1 : idxM t1 1 = .ok c1) (h2 : idxM t2 1 = .ok c2) (R : Rok 1 b [t1, t2]) : bstepM 3 ([p0, t1, t2], s, b) 1 = .ok (if c1 ≠ 0 then F.nx ([p0, t1, rowE c1 c2 b t2 t1], s, c1) else if c2 ≠ 0 then F.nx ([p0, t2, rowE c2 c1 b t1 t2], -s, c2) else F.rt 0) := by
  have e12 := R t1 (by simp) t2 (by simp) c1 c2 h1 h2
  have e21 := R t2 (by simp) t1 (by simp) c2 c1 h2 h1
  clear R
  (by_cases g1 : c1 = 0 <;> try subst g1) <;> (by_cases g2 : c2 = 0 <;> try subst g2) <;> simp [bstepM, *]
theorem bs_32 {p0 p1 t2 : List Int} {c2 s b : Int} (h2 : idxM t2 2 = .ok c2) (R : Rok 2 b [t2]) : bstepM 3 ([p0, p1, t2], s, b) 2 = .ok (if c2 ≠ 0 then F.nx ([p0, p1, t2], s, c2) else F.rt 0) := by
  clear R
  (by_cases g2 : c2 = 0 <;> try subst g2) <;> simp [bstepM, *]
theorem bs_40 {t0 t1 t2 t3 : List Int} {c0 c1 c2 c3 s b : Int} (h0 : idxM t0 0 = .ok c0) (h1 : idxM t1 0 = .ok c1) (h2 : idxM t2 0 = .ok c2) (h3 : idxM t3 0 = .ok c3) (R : Rok 0 b [t0, t1, t2, t3]) : bstepM 4 ([t0, t1, t2, t3], s, b) 0 = .ok (if c0 ≠ 0 then F.nx ([t0, rowE c0 c1 b t1 t0, rowE c0 c2 b t2 t0, rowE c0 c3 b t3 t0], s, c0) else if c1 ≠ 0 then F.nx ([t1, rowE c1 c0 b t0 t1, rowE c1 c2 b t2 t1, rowE c1 c3 b t3 t1], -s, c1) else if c2 ≠ 0 then F.nx ([t2, rowE c2 c1 b t1 t2, rowE c2 c0 b t0 t2, rowE c2 c3 b t3 t2], -s, c2) else if c3 ≠ 0 then F.nx ([t3, rowE c3 c1 b t1 t3, rowE c3 c2 b t2 t3, rowE c3 c0 b t0 t3], -s, c3) else F.rt 0) := by
  have e01 := R t0 (by simp) t1 (by simp) c0 c1 h0 h1
  have e02 := R t0 (by simp) t2 (by simp) c0 c2 h0 h2
  have e03 := R t0 (by simp) t3 (by simp) c0 c3 h0 h3
  have e10 := R t1 (by simp) t0 (by simp) c1 c0 h1 h0
  have e12 := R t1 (by simp) t2 (by simp) c1 c2 h1 h2
  have e13 := R t1 (by simp) t3 (by simp) c1 c3 h1 h3
  have e20 := R t2 (by simp) t0 (by simp) c2 c0 h2 h0
  have e21 := R t2 (by simp) t1 (by simp) c2 c1 h2 h1
  have e23 := R t2 (by simp) t3 (by simp) c2 c3 h2 h3
  have e30 := R t3 (by simp) t0 (by simp) c3 c0 h3 h0
  have e31 := R t3 (by simp) t1 (by simp) c3 c1 h3 h1
  have e32 := R t3 (by simp) t2 (by simp) c3 c2 h3 h2
  clear R
  (by_cases g0 : c0 = 0 <;> try subst g0) <;> (by_cases g1 : c1 = 0 <;> try subst g1) <;> (by_cases g2 : c2 = 0 <;> try subst g2) <;> (by_cases g3 : c3 = 0 <;> try subst g3) <;> simp [bstepM, *]
theorem bs_41 {p0 t1 t2 t3 : List Int} {c1 c2 c3 s b : Int} (h1 : idxM t1 1 = .ok c1) (h2 : idxM t2 1 = .ok c2) (h3 : idxM t3 1 = .ok c3) (R : Rok 1 b [t1, t2, t3]) : bstepM 4 ([p0, t1, t2, t3], s, b) 1 = .ok (if c1 ≠ 0 then F.nx ([p0, t1, rowE c1 c2 b t2 t1, rowE c1 c3 b t3 t1], s, c1) else if c2 ≠ 0 then F.nx ([p0, t2, rowE c2 c1 b t1 t2, rowE c2 c3 b t3 t2], -s, c2) else if c3 ≠ 0 then F.nx ([p0, t3, rowE c3 c2 b t2 t3, rowE c3 c1 b t1 t3], -s, c3) else F.rt 0) := by
  have e12 := R t1 (by simp) t2 (by simp) c1 c2 h1 h2
  have e13 := R t1 (by simp) t3 (by simp) c1 c3 h1 h3
  have e21 := R t2 (by simp) t1 (by simp) c2 c1 h2 h1
  have e23 := R t2 (by simp) t3 (by simp) c2 c3 h2 h3
  have e31 := R t3 (by simp) t1 (by simp) c3 c1 h3 h1
  have e32 := R t3 (by simp) t2 (by simp) c3 c2 h3 h2
  clear R
  (by_cases g1 : c1 = 0 <;> try subst g1) <;> (by_cases g2 : c2 = 0 <;> try subst g2) <;> (by_cases g3 : c3 = 0 <;> try subst g3) <;> simp [bstepM, *]
theorem bs_42 {p0 p1 t2 t3 : List Int} {c2 c3 s b : Int} (h2 : idxM t2 2 = .ok c2) (h3 : idxM t3 2 = .ok c3) (R : Rok 2 b [t2, t3]) : bstepM 4 ([p0, p1, t2, t3], s, b) 2 = .ok (if c2 ≠ 0 then F.nx ([p0, p1, t2, rowE c2 c3 b t3 t2], s, c2) else if c3 ≠ 0 then F.nx ([p0, p1, t3, rowE c3 c2 b t2 t3], -s, c3) else F.rt 0) := by
  have e23 := R t2 (by simp) t3 (by simp) c2 c3 h2 h3
  have e32 := R t3 (by simp) t2 (by simp) c3 c2 h3 h2
  clear R
  (by_cases g2 : c2 = 0 <;> try subst g2) <;> (by_cases g3 : c3 = 0 <;> try subst g3) <;> simp [bstepM, *]
theorem bs_43 {p0 p1 p2 t3 : List Int} {c3 s b : Int} (h3 : idxM t3 3 = .ok c3) (R : Rok 3 b [t3]) : bstepM 4 ([p0, p1, p2, t3], s, b) 3 = .ok (if c3 ≠ 0 then F.nx ([p0, p1, p2, t3], s, c3) else F.rt 0) := by
  clear R
  (by_cases g3 : c3 = 0 <;> try subst g3) <;> simp [bstepM, *]
end L2.VD

namespace L2.VD
open PySem PySem.Spec PyProof.Rows
theorem idx_mem {xs : List Int} {i p : Int} (h : idxM xs i = .ok p) : p ∈ xs := by
  unfold idxM atI at h
  cases hk : ixN xs.length i with
  | none => rw [hk] at h; cases h
  | some k =>
    rw [hk] at h
    cases hx : xs[k]? with
    | none => simp [hx] at h
    | some y =>
      have : y = p := by simpa [hx] using h
      subst this
      exact List.mem_of_getElem? hx
theorem rok_ {m : Nat} {k b : Int} {rs : List (List Int)} (hb : ∀ r ∈ rs, Bl m r ∧ r.length < 1000) (bb : Bn m b) (b0 : b ≠ 0) (hm : m ≤ 1000) : Rok k b rs := rok_of (fun r hr => (hb r hr).1) (fun r hr => (hb r hr).2) bb b0 hm fun r _ p => idx_mem
def D2 (a0 a1 b0 b1 : Int) : Int := a0 * b1 - b0 * a1
def D3 (a0 a1 a2 b0 b1 b2 c0 c1 c2 : Int) : Int := a0 * D2 b1 b2 c1 c2 - a1 * D2 b0 b2 c0 c2 + a2 * D2 b0 b1 c0 c1
def D4 (a0 a1 a2 a3 b0 b1 b2 b3 c0 c1 c2 c3 d0 d1 d2 d3 : Int) : Int := a0 * D3 b1 b2 b3 c1 c2 c3 d1 d2 d3 - a1 * D3 b0 b2 b3 c0 c2 c3 d0 d2 d3 + a2 * D3 b0 b1 b3 c0 c1 c3 d0 d1 d3 - a3 * D3 b0 b1 b2 c0 c1 c2 d0 d1 d2
def fin (x : M (F ((List (List Int)) × Int × Int) Int)) : M Int := goM x (fun v => v) fun s59 => (mulM s59.2.1 s59.2.2).bind fun t66 => M.ok t66
theorem fin_nx (T : List (List Int)) (s b : Int) (h : s = 1 ∨ s = -1) : fin (.ok (F.nx (T, s, b))) = .ok (s * b) := by
  show (mulM s b).bind _ = _
  rw [mulM_l (by omega)]
  rfl
theorem fin_rt (v : Int) : fin (.ok (F.rt v)) = .ok v := rfl
theorem foldF_nx {σ ρ α : Type} {step : σ → α → M (F σ ρ)} {s s' : σ} {a : α} {as : List α} (h : step s a = .ok (F.nx s')) : foldF step (a :: as) s = foldF step as s' := by
  show (step s a).bind _ = _
  rw [h]; rfl
theorem foldF_rt {σ ρ α : Type} {step : σ → α → M (F σ ρ)} {s : σ} {v : ρ} {a : α} {as : List α} (h : step s a = .ok (F.rt v)) : foldF step (a :: as) s = .ok (F.rt v) := by
  show (step s a).bind _ = _
  rw [h]; rfl
theorem fdiv_of {x b y : Int} (h : x = b * y) (hb : b ≠ 0) : x.fdiv b = y := by rw [h, Int.mul_fdiv_cancel_left _ hb]
theorem pow_z {x : Int} {n : Nat} (h : x ^ n = 0) : x = 0 := by
  induction n with
  | zero => simp at h
  | succ n ih =>
    rw [Int.pow_succ] at h
    rcases Int.mul_eq_zero.mp h with h | h
    · exact ih h
    · exact h
theorem sg {s : Int} (h : s = 1 ∨ s = -1) : -s = 1 ∨ -s = -1 := by omega

theorem dt_10 (a0 s : Int) (hs : s = 1 ∨ s = -1) (la : Bl 20 [a0]) : fin (foldF (bstepM 1) [0] ([[a0]], s, 1)) = .ok (s * a0) := by
  have b0 : (1 : Int) ≠ 0 := by decide
  have bb : Bn 20 (1 : Int) := Bn.small (by decide)
  have R : Rok 0 (1) [[a0]] := rok_ (by simp only [List.mem_cons, List.not_mem_nil, or_false, forall_eq]; exact ⟨la, by simp⟩) bb b0 (by decide)
  have h := bs_10 (s := s)  (idx_0 ..) R
  by_cases ga : a0 = 0
  · rw [if_neg (fun q => q ga)] at h
    rw [foldF_rt h, fin_rt]
    rw [ga, Int.mul_zero]
  · rw [if_pos ga] at h
    rw [foldF_nx h, foldF_nil_, fin_nx _ _ _ hs]
theorem dt_21 (a0 a1 c0 c1 s : Int) {p0 : List Int} (hs : s = 1 ∨ s = -1) (lc : Bl 41 [0, D2 a0 a1 c0 c1]) (bb : Bn 41 (a0)) (b0 : a0 ≠ 0) : fin (foldF (bstepM 2) [1] ([p0, [0, D2 a0 a1 c0 c1]], s, a0)) = .ok (s * (D2 a0 a1 c0 c1)) := by
  have R : Rok 1 (a0) [[0, D2 a0 a1 c0 c1]] := rok_ (by simp only [List.mem_cons, List.not_mem_nil, or_false, forall_eq]; exact ⟨lc, by simp⟩) bb b0 (by decide)
  have h := bs_21 (s := s) (p0 := p0) (idx_1 ..) R
  by_cases gc : D2 a0 a1 c0 c1 = 0
  · rw [if_neg (fun q => q gc)] at h
    rw [foldF_rt h, fin_rt]
    rw [gc, Int.mul_zero]
  · rw [if_pos gc] at h
    rw [foldF_nx h, foldF_nil_, fin_nx _ _ _ hs]
theorem dt_20 (a0 a1 c0 c1 s : Int) (hs : s = 1 ∨ s = -1) (la : Bl 20 [a0, a1]) (lc : Bl 20 [c0, c1]) : fin (foldF (bstepM 2) [0, 1] ([[a0, a1], [c0, c1]], s, 1)) = .ok (s * (D2 a0 a1 c0 c1)) := by
  have b0 : (1 : Int) ≠ 0 := by decide
  have bb : Bn 20 (1 : Int) := Bn.small (by decide)
  have R : Rok 0 (1) [[a0, a1], [c0, c1]] := rok_ (by simp only [List.mem_cons, List.not_mem_nil, or_false, forall_eq_or_imp, forall_eq]; exact ⟨⟨la, by simp⟩, ⟨lc, by simp⟩⟩) bb b0 (by decide)
  have h := bs_20 (s := s)  (idx_0 ..) (idx_0 ..) R
  by_cases ga : a0 = 0
  · rw [if_neg (fun q => q ga)] at h
    by_cases gc : c0 = 0
    · rw [if_neg (fun q => q gc)] at h
      rw [foldF_rt h, fin_rt]
      congr 1
      simp only [D2, ga, gc]
      grind
    · rw [if_pos gc] at h
      have u0 := row_ok (h := [c0, c1]) (r := [a0, a1]) (kk := 0) (f := a0) (b := 1) (idx_0 ..) lc la (lc _ (by simp)) (la _ (by simp)) bb b0 (by decide) (by simp)
      have v0 : rowE (c0) (a0) (1) [a0, a1] [c0, c1] = [0, D2 c0 c1 a0 a1] := by
        unfold rowE
        simp only [List.zip_cons_cons, List.zip_nil_right, List.map_cons, List.map_nil]
        congr 1
        · exact fdiv_of (y := 0) (by first | (simp only [D2]; grind) | grind) b0
        · congr 1
          · exact fdiv_of (y := D2 c0 c1 a0 a1) (by first | (simp only [D2]; grind) | grind) b0
      have w0 := u0.2
      rw [v0] at w0 h
      rw [foldF_nx h]
      have y := dt_21 c0 c1 a0 a1 (-s) (p0 := [c0, c1]) (sg hs) w0 (Bn.mono (lc _ (by simp)) (by decide)) gc
      refine y.trans ?_
      congr 1
      simp only [D2]
      grind
  · rw [if_pos ga] at h
    have u0 := row_ok (h := [a0, a1]) (r := [c0, c1]) (kk := 0) (f := c0) (b := 1) (idx_0 ..) la lc (la _ (by simp)) (lc _ (by simp)) bb b0 (by decide) (by simp)
    have v0 : rowE (a0) (c0) (1) [c0, c1] [a0, a1] = [0, D2 a0 a1 c0 c1] := by
      unfold rowE
      simp only [List.zip_cons_cons, List.zip_nil_right, List.map_cons, List.map_nil]
      congr 1
      · exact fdiv_of (y := 0) (by first | (simp only [D2]; grind) | grind) b0
      · congr 1
        · exact fdiv_of (y := D2 a0 a1 c0 c1) (by first | (simp only [D2]; grind) | grind) b0
    have w0 := u0.2
    rw [v0] at w0 h
    rw [foldF_nx h]
    have y := dt_21 a0 a1 c0 c1 (s) (p0 := [a0, a1]) hs w0 (Bn.mono (la _ (by simp)) (by decide)) ga
    exact y
theorem dt_32 (a0 a1 a2 c0 c1 c2 d0 d1 d2 s : Int) {p0 p1 : List Int} (hs : s = 1 ∨ s = -1) (ld : Bl 83 [0, 0, D3 a0 a1 a2 c0 c1 c2 d0 d1 d2]) (bb : Bn 83 (D2 a0 a1 c0 c1)) (b0 : D2 a0 a1 c0 c1 ≠ 0) : fin (foldF (bstepM 3) [2] ([p0, p1, [0, 0, D3 a0 a1 a2 c0 c1 c2 d0 d1 d2]], s, D2 a0 a1 c0 c1)) = .ok (s * (D3 a0 a1 a2 c0 c1 c2 d0 d1 d2)) := by
  have R : Rok 2 (D2 a0 a1 c0 c1) [[0, 0, D3 a0 a1 a2 c0 c1 c2 d0 d1 d2]] := rok_ (by simp only [List.mem_cons, List.not_mem_nil, or_false, forall_eq]; exact ⟨ld, by simp⟩) bb b0 (by decide)
  have h := bs_32 (s := s) (p0 := p0) (p1 := p1) (idx_2 ..) R
  by_cases gd : D3 a0 a1 a2 c0 c1 c2 d0 d1 d2 = 0
  · rw [if_neg (fun q => q gd)] at h
    rw [foldF_rt h, fin_rt]
    rw [gd, Int.mul_zero]
  · rw [if_pos gd] at h
    rw [foldF_nx h, foldF_nil_, fin_nx _ _ _ hs]
theorem dt_31 (a0 a1 a2 c0 c1 c2 d0 d1 d2 s : Int) {p0 : List Int} (hs : s = 1 ∨ s = -1) (lc : Bl 41 [0, D2 a0 a1 c0 c1, D2 a0 a2 c0 c2]) (ld : Bl 41 [0, D2 a0 a1 d0 d1, D2 a0 a2 d0 d2]) (bb : Bn 41 (a0)) (b0 : a0 ≠ 0) : fin (foldF (bstepM 3) [1, 2] ([p0, [0, D2 a0 a1 c0 c1, D2 a0 a2 c0 c2], [0, D2 a0 a1 d0 d1, D2 a0 a2 d0 d2]], s, a0)) = .ok (s * (D3 a0 a1 a2 c0 c1 c2 d0 d1 d2)) := by
  have R : Rok 1 (a0) [[0, D2 a0 a1 c0 c1, D2 a0 a2 c0 c2], [0, D2 a0 a1 d0 d1, D2 a0 a2 d0 d2]] := rok_ (by simp only [List.mem_cons, List.not_mem_nil, or_false, forall_eq_or_imp, forall_eq]; exact ⟨⟨lc, by simp⟩, ⟨ld, by simp⟩⟩) bb b0 (by decide)
  have h := bs_31 (s := s) (p0 := p0) (idx_1 ..) (idx_1 ..) R
  by_cases gc : D2 a0 a1 c0 c1 = 0
  · rw [if_neg (fun q => q gc)] at h
    by_cases gd : D2 a0 a1 d0 d1 = 0
    · rw [if_neg (fun q => q gd)] at h
      rw [foldF_rt h, fin_rt]
      have z : (a0) ^ 1 * (D3 a0 a1 a2 c0 c1 c2 d0 d1 d2) = 0 := by
        simp only [D2, D3] at gc gd ⊢
        grind
      rcases Int.mul_eq_zero.mp z with z | z
      · exact absurd (pow_z z) b0
      · rw [z, Int.mul_zero]
    · rw [if_pos gd] at h
      have u0 := row_ok (h := [0, D2 a0 a1 d0 d1, D2 a0 a2 d0 d2]) (r := [0, D2 a0 a1 c0 c1, D2 a0 a2 c0 c2]) (kk := 1) (f := D2 a0 a1 c0 c1) (b := a0) (idx_1 ..) ld lc (ld _ (by simp)) (lc _ (by simp)) bb b0 (by decide) (by simp)
      have v0 : rowE (D2 a0 a1 d0 d1) (D2 a0 a1 c0 c1) (a0) [0, D2 a0 a1 c0 c1, D2 a0 a2 c0 c2] [0, D2 a0 a1 d0 d1, D2 a0 a2 d0 d2] = [0, 0, D3 a0 a1 a2 d0 d1 d2 c0 c1 c2] := by
        unfold rowE
        simp only [List.zip_cons_cons, List.zip_nil_right, List.map_cons, List.map_nil]
        congr 1
        · exact fdiv_of (y := 0) (by first | (simp only [D2, D3]; grind) | grind) b0
        · congr 1
          · exact fdiv_of (y := 0) (by first | (simp only [D2, D3]; grind) | grind) b0
          · congr 1
            · exact fdiv_of (y := D3 a0 a1 a2 d0 d1 d2 c0 c1 c2) (by first | (simp only [D2, D3]; grind) | grind) b0
      have w0 := u0.2
      rw [v0] at w0 h
      rw [foldF_nx h]
      have y := dt_32 a0 a1 a2 d0 d1 d2 c0 c1 c2 (-s) (p0 := p0) (p1 := [0, D2 a0 a1 d0 d1, D2 a0 a2 d0 d2]) (sg hs) w0 (Bn.mono (ld _ (by simp)) (by decide)) gd
      refine y.trans ?_
      congr 1
      simp only [D2, D3]
      grind
  · rw [if_pos gc] at h
    have u0 := row_ok (h := [0, D2 a0 a1 c0 c1, D2 a0 a2 c0 c2]) (r := [0, D2 a0 a1 d0 d1, D2 a0 a2 d0 d2]) (kk := 1) (f := D2 a0 a1 d0 d1) (b := a0) (idx_1 ..) lc ld (lc _ (by simp)) (ld _ (by simp)) bb b0 (by decide) (by simp)
    have v0 : rowE (D2 a0 a1 c0 c1) (D2 a0 a1 d0 d1) (a0) [0, D2 a0 a1 d0 d1, D2 a0 a2 d0 d2] [0, D2 a0 a1 c0 c1, D2 a0 a2 c0 c2] = [0, 0, D3 a0 a1 a2 c0 c1 c2 d0 d1 d2] := by
      unfold rowE
      simp only [List.zip_cons_cons, List.zip_nil_right, List.map_cons, List.map_nil]
      congr 1
      · exact fdiv_of (y := 0) (by first | (simp only [D2, D3]; grind) | grind) b0
      · congr 1
        · exact fdiv_of (y := 0) (by first | (simp only [D2, D3]; grind) | grind) b0
        · congr 1
          · exact fdiv_of (y := D3 a0 a1 a2 c0 c1 c2 d0 d1 d2) (by first | (simp only [D2, D3]; grind) | grind) b0
    have w0 := u0.2
    rw [v0] at w0 h
    rw [foldF_nx h]
    have y := dt_32 a0 a1 a2 c0 c1 c2 d0 d1 d2 (s) (p0 := p0) (p1 := [0, D2 a0 a1 c0 c1, D2 a0 a2 c0 c2]) hs w0 (Bn.mono (lc _ (by simp)) (by decide)) gc
    exact y
theorem dt_30 (a0 a1 a2 c0 c1 c2 d0 d1 d2 s : Int) (hs : s = 1 ∨ s = -1) (la : Bl 20 [a0, a1, a2]) (lc : Bl 20 [c0, c1, c2]) (ld : Bl 20 [d0, d1, d2]) : fin (foldF (bstepM 3) [0, 1, 2] ([[a0, a1, a2], [c0, c1, c2], [d0, d1, d2]], s, 1)) = .ok (s * (D3 a0 a1 a2 c0 c1 c2 d0 d1 d2)) := by
  have b0 : (1 : Int) ≠ 0 := by decide
  have bb : Bn 20 (1 : Int) := Bn.small (by decide)
  have R : Rok 0 (1) [[a0, a1, a2], [c0, c1, c2], [d0, d1, d2]] := rok_ (by simp only [List.mem_cons, List.not_mem_nil, or_false, forall_eq_or_imp, forall_eq]; exact ⟨⟨la, by simp⟩, ⟨lc, by simp⟩, ⟨ld, by simp⟩⟩) bb b0 (by decide)
  have h := bs_30 (s := s)  (idx_0 ..) (idx_0 ..) (idx_0 ..) R
  by_cases ga : a0 = 0
  · rw [if_neg (fun q => q ga)] at h
    by_cases gc : c0 = 0
    · rw [if_neg (fun q => q gc)] at h
      by_cases gd : d0 = 0
      · rw [if_neg (fun q => q gd)] at h
        rw [foldF_rt h, fin_rt]
        congr 1
        simp only [D2, D3, ga, gc, gd]
        grind
      · rw [if_pos gd] at h
        have u0 := row_ok (h := [d0, d1, d2]) (r := [c0, c1, c2]) (kk := 0) (f := c0) (b := 1) (idx_0 ..) ld lc (ld _ (by simp)) (lc _ (by simp)) bb b0 (by decide) (by simp)
        have v0 : rowE (d0) (c0) (1) [c0, c1, c2] [d0, d1, d2] = [0, D2 d0 d1 c0 c1, D2 d0 d2 c0 c2] := by
          unfold rowE
          simp only [List.zip_cons_cons, List.zip_nil_right, List.map_cons, List.map_nil]
          congr 1
          · exact fdiv_of (y := 0) (by first | (simp only [D2, D3]; grind) | grind) b0
          · congr 1
            · exact fdiv_of (y := D2 d0 d1 c0 c1) (by first | (simp only [D2, D3]; grind) | grind) b0
            · congr 1
              · exact fdiv_of (y := D2 d0 d2 c0 c2) (by first | (simp only [D2, D3]; grind) | grind) b0
        have w0 := u0.2
        rw [v0] at w0 h
        have u1 := row_ok (h := [d0, d1, d2]) (r := [a0, a1, a2]) (kk := 0) (f := a0) (b := 1) (idx_0 ..) ld la (ld _ (by simp)) (la _ (by simp)) bb b0 (by decide) (by simp)
        have v1 : rowE (d0) (a0) (1) [a0, a1, a2] [d0, d1, d2] = [0, D2 d0 d1 a0 a1, D2 d0 d2 a0 a2] := by
          unfold rowE
          simp only [List.zip_cons_cons, List.zip_nil_right, List.map_cons, List.map_nil]
          congr 1
          · exact fdiv_of (y := 0) (by first | (simp only [D2, D3]; grind) | grind) b0
          · congr 1
            · exact fdiv_of (y := D2 d0 d1 a0 a1) (by first | (simp only [D2, D3]; grind) | grind) b0
            · congr 1
              · exact fdiv_of (y := D2 d0 d2 a0 a2) (by first | (simp only [D2, D3]; grind) | grind) b0
        have w1 := u1.2
        rw [v1] at w1 h
        rw [foldF_nx h]
        have y := dt_31 d0 d1 d2 c0 c1 c2 a0 a1 a2 (-s) (p0 := [d0, d1, d2]) (sg hs) w0 w1 (Bn.mono (ld _ (by simp)) (by decide)) gd
        refine y.trans ?_
        congr 1
        simp only [D2, D3]
        grind
    · rw [if_pos gc] at h
      have u0 := row_ok (h := [c0, c1, c2]) (r := [a0, a1, a2]) (kk := 0) (f := a0) (b := 1) (idx_0 ..) lc la (lc _ (by simp)) (la _ (by simp)) bb b0 (by decide) (by simp)
      have v0 : rowE (c0) (a0) (1) [a0, a1, a2] [c0, c1, c2] = [0, D2 c0 c1 a0 a1, D2 c0 c2 a0 a2] := by
        unfold rowE
        simp only [List.zip_cons_cons, List.zip_nil_right, List.map_cons, List.map_nil]
        congr 1
        · exact fdiv_of (y := 0) (by first | (simp only [D2, D3]; grind) | grind) b0
        · congr 1
          · exact fdiv_of (y := D2 c0 c1 a0 a1) (by first | (simp only [D2, D3]; grind) | grind) b0
          · congr 1
            · exact fdiv_of (y := D2 c0 c2 a0 a2) (by first | (simp only [D2, D3]; grind) | grind) b0
      have w0 := u0.2
      rw [v0] at w0 h
      have u1 := row_ok (h := [c0, c1, c2]) (r := [d0, d1, d2]) (kk := 0) (f := d0) (b := 1) (idx_0 ..) lc ld (lc _ (by simp)) (ld _ (by simp)) bb b0 (by decide) (by simp)
      have v1 : rowE (c0) (d0) (1) [d0, d1, d2] [c0, c1, c2] = [0, D2 c0 c1 d0 d1, D2 c0 c2 d0 d2] := by
        unfold rowE
        simp only [List.zip_cons_cons, List.zip_nil_right, List.map_cons, List.map_nil]
        congr 1
        · exact fdiv_of (y := 0) (by first | (simp only [D2, D3]; grind) | grind) b0
        · congr 1
          · exact fdiv_of (y := D2 c0 c1 d0 d1) (by first | (simp only [D2, D3]; grind) | grind) b0
          · congr 1
            · exact fdiv_of (y := D2 c0 c2 d0 d2) (by first | (simp only [D2, D3]; grind) | grind) b0
      have w1 := u1.2
      rw [v1] at w1 h
      rw [foldF_nx h]
      have y := dt_31 c0 c1 c2 a0 a1 a2 d0 d1 d2 (-s) (p0 := [c0, c1, c2]) (sg hs) w0 w1 (Bn.mono (lc _ (by simp)) (by decide)) gc
      refine y.trans ?_
      congr 1
      simp only [D2, D3]
      grind
  · rw [if_pos ga] at h
    have u0 := row_ok (h := [a0, a1, a2]) (r := [c0, c1, c2]) (kk := 0) (f := c0) (b := 1) (idx_0 ..) la lc (la _ (by simp)) (lc _ (by simp)) bb b0 (by decide) (by simp)
    have v0 : rowE (a0) (c0) (1) [c0, c1, c2] [a0, a1, a2] = [0, D2 a0 a1 c0 c1, D2 a0 a2 c0 c2] := by
      unfold rowE
      simp only [List.zip_cons_cons, List.zip_nil_right, List.map_cons, List.map_nil]
      congr 1
      · exact fdiv_of (y := 0) (by first | (simp only [D2, D3]; grind) | grind) b0
      · congr 1
        · exact fdiv_of (y := D2 a0 a1 c0 c1) (by first | (simp only [D2, D3]; grind) | grind) b0
        · congr 1
          · exact fdiv_of (y := D2 a0 a2 c0 c2) (by first | (simp only [D2, D3]; grind) | grind) b0
    have w0 := u0.2
    rw [v0] at w0 h
    have u1 := row_ok (h := [a0, a1, a2]) (r := [d0, d1, d2]) (kk := 0) (f := d0) (b := 1) (idx_0 ..) la ld (la _ (by simp)) (ld _ (by simp)) bb b0 (by decide) (by simp)
    have v1 : rowE (a0) (d0) (1) [d0, d1, d2] [a0, a1, a2] = [0, D2 a0 a1 d0 d1, D2 a0 a2 d0 d2] := by
      unfold rowE
      simp only [List.zip_cons_cons, List.zip_nil_right, List.map_cons, List.map_nil]
      congr 1
      · exact fdiv_of (y := 0) (by first | (simp only [D2, D3]; grind) | grind) b0
      · congr 1
        · exact fdiv_of (y := D2 a0 a1 d0 d1) (by first | (simp only [D2, D3]; grind) | grind) b0
        · congr 1
          · exact fdiv_of (y := D2 a0 a2 d0 d2) (by first | (simp only [D2, D3]; grind) | grind) b0
    have w1 := u1.2
    rw [v1] at w1 h
    rw [foldF_nx h]
    have y := dt_31 a0 a1 a2 c0 c1 c2 d0 d1 d2 (s) (p0 := [a0, a1, a2]) hs w0 w1 (Bn.mono (la _ (by simp)) (by decide)) ga
    exact y
theorem dt_43 (a0 a1 a2 a3 c0 c1 c2 c3 d0 d1 d2 d3 e0 e1 e2 e3 s : Int) {p0 p1 p2 : List Int} (hs : s = 1 ∨ s = -1) (le : Bl 167 [0, 0, 0, D4 a0 a1 a2 a3 c0 c1 c2 c3 d0 d1 d2 d3 e0 e1 e2 e3]) (bb : Bn 167 (D3 a0 a1 a2 c0 c1 c2 d0 d1 d2)) (b0 : D3 a0 a1 a2 c0 c1 c2 d0 d1 d2 ≠ 0) : fin (foldF (bstepM 4) [3] ([p0, p1, p2, [0, 0, 0, D4 a0 a1 a2 a3 c0 c1 c2 c3 d0 d1 d2 d3 e0 e1 e2 e3]], s, D3 a0 a1 a2 c0 c1 c2 d0 d1 d2)) = .ok (s * (D4 a0 a1 a2 a3 c0 c1 c2 c3 d0 d1 d2 d3 e0 e1 e2 e3)) := by
  have R : Rok 3 (D3 a0 a1 a2 c0 c1 c2 d0 d1 d2) [[0, 0, 0, D4 a0 a1 a2 a3 c0 c1 c2 c3 d0 d1 d2 d3 e0 e1 e2 e3]] := rok_ (by simp only [List.mem_cons, List.not_mem_nil, or_false, forall_eq]; exact ⟨le, by simp⟩) bb b0 (by decide)
  have h := bs_43 (s := s) (p0 := p0) (p1 := p1) (p2 := p2) (idx_3 ..) R
  by_cases ge : D4 a0 a1 a2 a3 c0 c1 c2 c3 d0 d1 d2 d3 e0 e1 e2 e3 = 0
  · rw [if_neg (fun q => q ge)] at h
    rw [foldF_rt h, fin_rt]
    rw [ge, Int.mul_zero]
  · rw [if_pos ge] at h
    rw [foldF_nx h, foldF_nil_, fin_nx _ _ _ hs]
theorem dt_42 (a0 a1 a2 a3 c0 c1 c2 c3 d0 d1 d2 d3 e0 e1 e2 e3 s : Int) {p0 p1 : List Int} (hs : s = 1 ∨ s = -1) (ld : Bl 83 [0, 0, D3 a0 a1 a2 c0 c1 c2 d0 d1 d2, D3 a0 a1 a3 c0 c1 c3 d0 d1 d3]) (le : Bl 83 [0, 0, D3 a0 a1 a2 c0 c1 c2 e0 e1 e2, D3 a0 a1 a3 c0 c1 c3 e0 e1 e3]) (bb : Bn 83 (D2 a0 a1 c0 c1)) (b0 : D2 a0 a1 c0 c1 ≠ 0) : fin (foldF (bstepM 4) [2, 3] ([p0, p1, [0, 0, D3 a0 a1 a2 c0 c1 c2 d0 d1 d2, D3 a0 a1 a3 c0 c1 c3 d0 d1 d3], [0, 0, D3 a0 a1 a2 c0 c1 c2 e0 e1 e2, D3 a0 a1 a3 c0 c1 c3 e0 e1 e3]], s, D2 a0 a1 c0 c1)) = .ok (s * (D4 a0 a1 a2 a3 c0 c1 c2 c3 d0 d1 d2 d3 e0 e1 e2 e3)) := by
  have R : Rok 2 (D2 a0 a1 c0 c1) [[0, 0, D3 a0 a1 a2 c0 c1 c2 d0 d1 d2, D3 a0 a1 a3 c0 c1 c3 d0 d1 d3], [0, 0, D3 a0 a1 a2 c0 c1 c2 e0 e1 e2, D3 a0 a1 a3 c0 c1 c3 e0 e1 e3]] := rok_ (by simp only [List.mem_cons, List.not_mem_nil, or_false, forall_eq_or_imp, forall_eq]; exact ⟨⟨ld, by simp⟩, ⟨le, by simp⟩⟩) bb b0 (by decide)
  have h := bs_42 (s := s) (p0 := p0) (p1 := p1) (idx_2 ..) (idx_2 ..) R
  by_cases gd : D3 a0 a1 a2 c0 c1 c2 d0 d1 d2 = 0
  · rw [if_neg (fun q => q gd)] at h
    by_cases ge : D3 a0 a1 a2 c0 c1 c2 e0 e1 e2 = 0
    · rw [if_neg (fun q => q ge)] at h
      rw [foldF_rt h, fin_rt]
      have z : (D2 a0 a1 c0 c1) ^ 1 * (D4 a0 a1 a2 a3 c0 c1 c2 c3 d0 d1 d2 d3 e0 e1 e2 e3) = 0 := by
        simp only [D2, D3, D4] at gd ge ⊢
        grind
      rcases Int.mul_eq_zero.mp z with z | z
      · exact absurd (pow_z z) b0
      · rw [z, Int.mul_zero]
    · rw [if_pos ge] at h
      have u0 := row_ok (h := [0, 0, D3 a0 a1 a2 c0 c1 c2 e0 e1 e2, D3 a0 a1 a3 c0 c1 c3 e0 e1 e3]) (r := [0, 0, D3 a0 a1 a2 c0 c1 c2 d0 d1 d2, D3 a0 a1 a3 c0 c1 c3 d0 d1 d3]) (kk := 2) (f := D3 a0 a1 a2 c0 c1 c2 d0 d1 d2) (b := D2 a0 a1 c0 c1) (idx_2 ..) le ld (le _ (by simp)) (ld _ (by simp)) bb b0 (by decide) (by simp)
      have v0 : rowE (D3 a0 a1 a2 c0 c1 c2 e0 e1 e2) (D3 a0 a1 a2 c0 c1 c2 d0 d1 d2) (D2 a0 a1 c0 c1) [0, 0, D3 a0 a1 a2 c0 c1 c2 d0 d1 d2, D3 a0 a1 a3 c0 c1 c3 d0 d1 d3] [0, 0, D3 a0 a1 a2 c0 c1 c2 e0 e1 e2, D3 a0 a1 a3 c0 c1 c3 e0 e1 e3] = [0, 0, 0, D4 a0 a1 a2 a3 c0 c1 c2 c3 e0 e1 e2 e3 d0 d1 d2 d3] := by
        unfold rowE
        simp only [List.zip_cons_cons, List.zip_nil_right, List.map_cons, List.map_nil]
        congr 1
        · exact fdiv_of (y := 0) (by first | (simp only [D2, D3, D4]; grind) | grind) b0
        · congr 1
          · exact fdiv_of (y := 0) (by first | (simp only [D2, D3, D4]; grind) | grind) b0
          · congr 1
            · exact fdiv_of (y := 0) (by first | (simp only [D2, D3, D4]; grind) | grind) b0
            · congr 1
              · exact fdiv_of (y := D4 a0 a1 a2 a3 c0 c1 c2 c3 e0 e1 e2 e3 d0 d1 d2 d3) (by first | (simp only [D2, D3, D4]; grind) | grind) b0
      have w0 := u0.2
      rw [v0] at w0 h
      rw [foldF_nx h]
      have y := dt_43 a0 a1 a2 a3 c0 c1 c2 c3 e0 e1 e2 e3 d0 d1 d2 d3 (-s) (p0 := p0) (p1 := p1) (p2 := [0, 0, D3 a0 a1 a2 c0 c1 c2 e0 e1 e2, D3 a0 a1 a3 c0 c1 c3 e0 e1 e3]) (sg hs) w0 (Bn.mono (le _ (by simp)) (by decide)) ge
      refine y.trans ?_
      congr 1
      simp only [D2, D3, D4]
      grind
  · rw [if_pos gd] at h
    have u0 := row_ok (h := [0, 0, D3 a0 a1 a2 c0 c1 c2 d0 d1 d2, D3 a0 a1 a3 c0 c1 c3 d0 d1 d3]) (r := [0, 0, D3 a0 a1 a2 c0 c1 c2 e0 e1 e2, D3 a0 a1 a3 c0 c1 c3 e0 e1 e3]) (kk := 2) (f := D3 a0 a1 a2 c0 c1 c2 e0 e1 e2) (b := D2 a0 a1 c0 c1) (idx_2 ..) ld le (ld _ (by simp)) (le _ (by simp)) bb b0 (by decide) (by simp)
    have v0 : rowE (D3 a0 a1 a2 c0 c1 c2 d0 d1 d2) (D3 a0 a1 a2 c0 c1 c2 e0 e1 e2) (D2 a0 a1 c0 c1) [0, 0, D3 a0 a1 a2 c0 c1 c2 e0 e1 e2, D3 a0 a1 a3 c0 c1 c3 e0 e1 e3] [0, 0, D3 a0 a1 a2 c0 c1 c2 d0 d1 d2, D3 a0 a1 a3 c0 c1 c3 d0 d1 d3] = [0, 0, 0, D4 a0 a1 a2 a3 c0 c1 c2 c3 d0 d1 d2 d3 e0 e1 e2 e3] := by
      unfold rowE
      simp only [List.zip_cons_cons, List.zip_nil_right, List.map_cons, List.map_nil]
      congr 1
      · exact fdiv_of (y := 0) (by first | (simp only [D2, D3, D4]; grind) | grind) b0
      · congr 1
        · exact fdiv_of (y := 0) (by first | (simp only [D2, D3, D4]; grind) | grind) b0
        · congr 1
          · exact fdiv_of (y := 0) (by first | (simp only [D2, D3, D4]; grind) | grind) b0
          · congr 1
            · exact fdiv_of (y := D4 a0 a1 a2 a3 c0 c1 c2 c3 d0 d1 d2 d3 e0 e1 e2 e3) (by first | (simp only [D2, D3, D4]; grind) | grind) b0
    have w0 := u0.2
    rw [v0] at w0 h
    rw [foldF_nx h]
    have y := dt_43 a0 a1 a2 a3 c0 c1 c2 c3 d0 d1 d2 d3 e0 e1 e2 e3 (s) (p0 := p0) (p1 := p1) (p2 := [0, 0, D3 a0 a1 a2 c0 c1 c2 d0 d1 d2, D3 a0 a1 a3 c0 c1 c3 d0 d1 d3]) hs w0 (Bn.mono (ld _ (by simp)) (by decide)) gd
    exact y
theorem dt_41 (a0 a1 a2 a3 c0 c1 c2 c3 d0 d1 d2 d3 e0 e1 e2 e3 s : Int) {p0 : List Int} (hs : s = 1 ∨ s = -1) (lc : Bl 41 [0, D2 a0 a1 c0 c1, D2 a0 a2 c0 c2, D2 a0 a3 c0 c3]) (ld : Bl 41 [0, D2 a0 a1 d0 d1, D2 a0 a2 d0 d2, D2 a0 a3 d0 d3]) (le : Bl 41 [0, D2 a0 a1 e0 e1, D2 a0 a2 e0 e2, D2 a0 a3 e0 e3]) (bb : Bn 41 (a0)) (b0 : a0 ≠ 0) : fin (foldF (bstepM 4) [1, 2, 3] ([p0, [0, D2 a0 a1 c0 c1, D2 a0 a2 c0 c2, D2 a0 a3 c0 c3], [0, D2 a0 a1 d0 d1, D2 a0 a2 d0 d2, D2 a0 a3 d0 d3], [0, D2 a0 a1 e0 e1, D2 a0 a2 e0 e2, D2 a0 a3 e0 e3]], s, a0)) = .ok (s * (D4 a0 a1 a2 a3 c0 c1 c2 c3 d0 d1 d2 d3 e0 e1 e2 e3)) := by
  have R : Rok 1 (a0) [[0, D2 a0 a1 c0 c1, D2 a0 a2 c0 c2, D2 a0 a3 c0 c3], [0, D2 a0 a1 d0 d1, D2 a0 a2 d0 d2, D2 a0 a3 d0 d3], [0, D2 a0 a1 e0 e1, D2 a0 a2 e0 e2, D2 a0 a3 e0 e3]] := rok_ (by simp only [List.mem_cons, List.not_mem_nil, or_false, forall_eq_or_imp, forall_eq]; exact ⟨⟨lc, by simp⟩, ⟨ld, by simp⟩, ⟨le, by simp⟩⟩) bb b0 (by decide)
  have h := bs_41 (s := s) (p0 := p0) (idx_1 ..) (idx_1 ..) (idx_1 ..) R
  by_cases gc : D2 a0 a1 c0 c1 = 0
  · rw [if_neg (fun q => q gc)] at h
    by_cases gd : D2 a0 a1 d0 d1 = 0
    · rw [if_neg (fun q => q gd)] at h
      by_cases ge : D2 a0 a1 e0 e1 = 0
      · rw [if_neg (fun q => q ge)] at h
        rw [foldF_rt h, fin_rt]
        have z : (a0) ^ 2 * (D4 a0 a1 a2 a3 c0 c1 c2 c3 d0 d1 d2 d3 e0 e1 e2 e3) = 0 := by
          simp only [D2, D3, D4] at gc gd ge ⊢
          grind
        rcases Int.mul_eq_zero.mp z with z | z
        · exact absurd (pow_z z) b0
        · rw [z, Int.mul_zero]
      · rw [if_pos ge] at h
        have u0 := row_ok (h := [0, D2 a0 a1 e0 e1, D2 a0 a2 e0 e2, D2 a0 a3 e0 e3]) (r := [0, D2 a0 a1 d0 d1, D2 a0 a2 d0 d2, D2 a0 a3 d0 d3]) (kk := 1) (f := D2 a0 a1 d0 d1) (b := a0) (idx_1 ..) le ld (le _ (by simp)) (ld _ (by simp)) bb b0 (by decide) (by simp)
        have v0 : rowE (D2 a0 a1 e0 e1) (D2 a0 a1 d0 d1) (a0) [0, D2 a0 a1 d0 d1, D2 a0 a2 d0 d2, D2 a0 a3 d0 d3] [0, D2 a0 a1 e0 e1, D2 a0 a2 e0 e2, D2 a0 a3 e0 e3] = [0, 0, D3 a0 a1 a2 e0 e1 e2 d0 d1 d2, D3 a0 a1 a3 e0 e1 e3 d0 d1 d3] := by
          unfold rowE
          simp only [List.zip_cons_cons, List.zip_nil_right, List.map_cons, List.map_nil]
          congr 1
          · exact fdiv_of (y := 0) (by first | (simp only [D2, D3, D4]; grind) | grind) b0
          · congr 1
            · exact fdiv_of (y := 0) (by first | (simp only [D2, D3, D4]; grind) | grind) b0
            · congr 1
              · exact fdiv_of (y := D3 a0 a1 a2 e0 e1 e2 d0 d1 d2) (by first | (simp only [D2, D3, D4]; grind) | grind) b0
              · congr 1
                · exact fdiv_of (y := D3 a0 a1 a3 e0 e1 e3 d0 d1 d3) (by first | (simp only [D2, D3, D4]; grind) | grind) b0
        have w0 := u0.2
        rw [v0] at w0 h
        have u1 := row_ok (h := [0, D2 a0 a1 e0 e1, D2 a0 a2 e0 e2, D2 a0 a3 e0 e3]) (r := [0, D2 a0 a1 c0 c1, D2 a0 a2 c0 c2, D2 a0 a3 c0 c3]) (kk := 1) (f := D2 a0 a1 c0 c1) (b := a0) (idx_1 ..) le lc (le _ (by simp)) (lc _ (by simp)) bb b0 (by decide) (by simp)
        have v1 : rowE (D2 a0 a1 e0 e1) (D2 a0 a1 c0 c1) (a0) [0, D2 a0 a1 c0 c1, D2 a0 a2 c0 c2, D2 a0 a3 c0 c3] [0, D2 a0 a1 e0 e1, D2 a0 a2 e0 e2, D2 a0 a3 e0 e3] = [0, 0, D3 a0 a1 a2 e0 e1 e2 c0 c1 c2, D3 a0 a1 a3 e0 e1 e3 c0 c1 c3] := by
          unfold rowE
          simp only [List.zip_cons_cons, List.zip_nil_right, List.map_cons, List.map_nil]
          congr 1
          · exact fdiv_of (y := 0) (by first | (simp only [D2, D3, D4]; grind) | grind) b0
          · congr 1
            · exact fdiv_of (y := 0) (by first | (simp only [D2, D3, D4]; grind) | grind) b0
            · congr 1
              · exact fdiv_of (y := D3 a0 a1 a2 e0 e1 e2 c0 c1 c2) (by first | (simp only [D2, D3, D4]; grind) | grind) b0
              · congr 1
                · exact fdiv_of (y := D3 a0 a1 a3 e0 e1 e3 c0 c1 c3) (by first | (simp only [D2, D3, D4]; grind) | grind) b0
        have w1 := u1.2
        rw [v1] at w1 h
        rw [foldF_nx h]
        have y := dt_42 a0 a1 a2 a3 e0 e1 e2 e3 d0 d1 d2 d3 c0 c1 c2 c3 (-s) (p0 := p0) (p1 := [0, D2 a0 a1 e0 e1, D2 a0 a2 e0 e2, D2 a0 a3 e0 e3]) (sg hs) w0 w1 (Bn.mono (le _ (by simp)) (by decide)) ge
        refine y.trans ?_
        congr 1
        simp only [D2, D3, D4]
        grind
    · rw [if_pos gd] at h
      have u0 := row_ok (h := [0, D2 a0 a1 d0 d1, D2 a0 a2 d0 d2, D2 a0 a3 d0 d3]) (r := [0, D2 a0 a1 c0 c1, D2 a0 a2 c0 c2, D2 a0 a3 c0 c3]) (kk := 1) (f := D2 a0 a1 c0 c1) (b := a0) (idx_1 ..) ld lc (ld _ (by simp)) (lc _ (by simp)) bb b0 (by decide) (by simp)
      have v0 : rowE (D2 a0 a1 d0 d1) (D2 a0 a1 c0 c1) (a0) [0, D2 a0 a1 c0 c1, D2 a0 a2 c0 c2, D2 a0 a3 c0 c3] [0, D2 a0 a1 d0 d1, D2 a0 a2 d0 d2, D2 a0 a3 d0 d3] = [0, 0, D3 a0 a1 a2 d0 d1 d2 c0 c1 c2, D3 a0 a1 a3 d0 d1 d3 c0 c1 c3] := by
        unfold rowE
        simp only [List.zip_cons_cons, List.zip_nil_right, List.map_cons, List.map_nil]
        congr 1
        · exact fdiv_of (y := 0) (by first | (simp only [D2, D3, D4]; grind) | grind) b0
        · congr 1
          · exact fdiv_of (y := 0) (by first | (simp only [D2, D3, D4]; grind) | grind) b0
          · congr 1
            · exact fdiv_of (y := D3 a0 a1 a2 d0 d1 d2 c0 c1 c2) (by first | (simp only [D2, D3, D4]; grind) | grind) b0
            · congr 1
              · exact fdiv_of (y := D3 a0 a1 a3 d0 d1 d3 c0 c1 c3) (by first | (simp only [D2, D3, D4]; grind) | grind) b0
      have w0 := u0.2
      rw [v0] at w0 h
      have u1 := row_ok (h := [0, D2 a0 a1 d0 d1, D2 a0 a2 d0 d2, D2 a0 a3 d0 d3]) (r := [0, D2 a0 a1 e0 e1, D2 a0 a2 e0 e2, D2 a0 a3 e0 e3]) (kk := 1) (f := D2 a0 a1 e0 e1) (b := a0) (idx_1 ..) ld le (ld _ (by simp)) (le _ (by simp)) bb b0 (by decide) (by simp)
      have v1 : rowE (D2 a0 a1 d0 d1) (D2 a0 a1 e0 e1) (a0) [0, D2 a0 a1 e0 e1, D2 a0 a2 e0 e2, D2 a0 a3 e0 e3] [0, D2 a0 a1 d0 d1, D2 a0 a2 d0 d2, D2 a0 a3 d0 d3] = [0, 0, D3 a0 a1 a2 d0 d1 d2 e0 e1 e2, D3 a0 a1 a3 d0 d1 d3 e0 e1 e3] := by
        unfold rowE
        simp only [List.zip_cons_cons, List.zip_nil_right, List.map_cons, List.map_nil]
        congr 1
        · exact fdiv_of (y := 0) (by first | (simp only [D2, D3, D4]; grind) | grind) b0
        · congr 1
          · exact fdiv_of (y := 0) (by first | (simp only [D2, D3, D4]; grind) | grind) b0
          · congr 1
            · exact fdiv_of (y := D3 a0 a1 a2 d0 d1 d2 e0 e1 e2) (by first | (simp only [D2, D3, D4]; grind) | grind) b0
            · congr 1
              · exact fdiv_of (y := D3 a0 a1 a3 d0 d1 d3 e0 e1 e3) (by first | (simp only [D2, D3, D4]; grind) | grind) b0
      have w1 := u1.2
      rw [v1] at w1 h
      rw [foldF_nx h]
      have y := dt_42 a0 a1 a2 a3 d0 d1 d2 d3 c0 c1 c2 c3 e0 e1 e2 e3 (-s) (p0 := p0) (p1 := [0, D2 a0 a1 d0 d1, D2 a0 a2 d0 d2, D2 a0 a3 d0 d3]) (sg hs) w0 w1 (Bn.mono (ld _ (by simp)) (by decide)) gd
      refine y.trans ?_
      congr 1
      simp only [D2, D3, D4]
      grind
  · rw [if_pos gc] at h
    have u0 := row_ok (h := [0, D2 a0 a1 c0 c1, D2 a0 a2 c0 c2, D2 a0 a3 c0 c3]) (r := [0, D2 a0 a1 d0 d1, D2 a0 a2 d0 d2, D2 a0 a3 d0 d3]) (kk := 1) (f := D2 a0 a1 d0 d1) (b := a0) (idx_1 ..) lc ld (lc _ (by simp)) (ld _ (by simp)) bb b0 (by decide) (by simp)
    have v0 : rowE (D2 a0 a1 c0 c1) (D2 a0 a1 d0 d1) (a0) [0, D2 a0 a1 d0 d1, D2 a0 a2 d0 d2, D2 a0 a3 d0 d3] [0, D2 a0 a1 c0 c1, D2 a0 a2 c0 c2, D2 a0 a3 c0 c3] = [0, 0, D3 a0 a1 a2 c0 c1 c2 d0 d1 d2, D3 a0 a1 a3 c0 c1 c3 d0 d1 d3] := by
      unfold rowE
      simp only [List.zip_cons_cons, List.zip_nil_right, List.map_cons, List.map_nil]
      congr 1
      · exact fdiv_of (y := 0) (by first | (simp only [D2, D3, D4]; grind) | grind) b0
      · congr 1
        · exact fdiv_of (y := 0) (by first | (simp only [D2, D3, D4]; grind) | grind) b0
        · congr 1
          · exact fdiv_of (y := D3 a0 a1 a2 c0 c1 c2 d0 d1 d2) (by first | (simp only [D2, D3, D4]; grind) | grind) b0
          · congr 1
            · exact fdiv_of (y := D3 a0 a1 a3 c0 c1 c3 d0 d1 d3) (by first | (simp only [D2, D3, D4]; grind) | grind) b0
    have w0 := u0.2
    rw [v0] at w0 h
    have u1 := row_ok (h := [0, D2 a0 a1 c0 c1, D2 a0 a2 c0 c2, D2 a0 a3 c0 c3]) (r := [0, D2 a0 a1 e0 e1, D2 a0 a2 e0 e2, D2 a0 a3 e0 e3]) (kk := 1) (f := D2 a0 a1 e0 e1) (b := a0) (idx_1 ..) lc le (lc _ (by simp)) (le _ (by simp)) bb b0 (by decide) (by simp)
    have v1 : rowE (D2 a0 a1 c0 c1) (D2 a0 a1 e0 e1) (a0) [0, D2 a0 a1 e0 e1, D2 a0 a2 e0 e2, D2 a0 a3 e0 e3] [0, D2 a0 a1 c0 c1, D2 a0 a2 c0 c2, D2 a0 a3 c0 c3] = [0, 0, D3 a0 a1 a2 c0 c1 c2 e0 e1 e2, D3 a0 a1 a3 c0 c1 c3 e0 e1 e3] := by
      unfold rowE
      simp only [List.zip_cons_cons, List.zip_nil_right, List.map_cons, List.map_nil]
      congr 1
      · exact fdiv_of (y := 0) (by first | (simp only [D2, D3, D4]; grind) | grind) b0
      · congr 1
        · exact fdiv_of (y := 0) (by first | (simp only [D2, D3, D4]; grind) | grind) b0
        · congr 1
          · exact fdiv_of (y := D3 a0 a1 a2 c0 c1 c2 e0 e1 e2) (by first | (simp only [D2, D3, D4]; grind) | grind) b0
          · congr 1
            · exact fdiv_of (y := D3 a0 a1 a3 c0 c1 c3 e0 e1 e3) (by first | (simp only [D2, D3, D4]; grind) | grind) b0
    have w1 := u1.2
    rw [v1] at w1 h
    rw [foldF_nx h]
    have y := dt_42 a0 a1 a2 a3 c0 c1 c2 c3 d0 d1 d2 d3 e0 e1 e2 e3 (s) (p0 := p0) (p1 := [0, D2 a0 a1 c0 c1, D2 a0 a2 c0 c2, D2 a0 a3 c0 c3]) hs w0 w1 (Bn.mono (lc _ (by simp)) (by decide)) gc
    exact y
theorem dt_40 (a0 a1 a2 a3 c0 c1 c2 c3 d0 d1 d2 d3 e0 e1 e2 e3 s : Int) (hs : s = 1 ∨ s = -1) (la : Bl 20 [a0, a1, a2, a3]) (lc : Bl 20 [c0, c1, c2, c3]) (ld : Bl 20 [d0, d1, d2, d3]) (le : Bl 20 [e0, e1, e2, e3]) : fin (foldF (bstepM 4) [0, 1, 2, 3] ([[a0, a1, a2, a3], [c0, c1, c2, c3], [d0, d1, d2, d3], [e0, e1, e2, e3]], s, 1)) = .ok (s * (D4 a0 a1 a2 a3 c0 c1 c2 c3 d0 d1 d2 d3 e0 e1 e2 e3)) := by
  have b0 : (1 : Int) ≠ 0 := by decide
  have bb : Bn 20 (1 : Int) := Bn.small (by decide)
  have R : Rok 0 (1) [[a0, a1, a2, a3], [c0, c1, c2, c3], [d0, d1, d2, d3], [e0, e1, e2, e3]] := rok_ (by simp only [List.mem_cons, List.not_mem_nil, or_false, forall_eq_or_imp, forall_eq]; exact ⟨⟨la, by simp⟩, ⟨lc, by simp⟩, ⟨ld, by simp⟩, ⟨le, by simp⟩⟩) bb b0 (by decide)
  have h := bs_40 (s := s)  (idx_0 ..) (idx_0 ..) (idx_0 ..) (idx_0 ..) R
  by_cases ga : a0 = 0
  · rw [if_neg (fun q => q ga)] at h
    by_cases gc : c0 = 0
    · rw [if_neg (fun q => q gc)] at h
      by_cases gd : d0 = 0
      · rw [if_neg (fun q => q gd)] at h
        by_cases ge : e0 = 0
        · rw [if_neg (fun q => q ge)] at h
          rw [foldF_rt h, fin_rt]
          congr 1
          simp only [D2, D3, D4, ga, gc, gd, ge]
          grind
        · rw [if_pos ge] at h
          have u0 := row_ok (h := [e0, e1, e2, e3]) (r := [c0, c1, c2, c3]) (kk := 0) (f := c0) (b := 1) (idx_0 ..) le lc (le _ (by simp)) (lc _ (by simp)) bb b0 (by decide) (by simp)
          have v0 : rowE (e0) (c0) (1) [c0, c1, c2, c3] [e0, e1, e2, e3] = [0, D2 e0 e1 c0 c1, D2 e0 e2 c0 c2, D2 e0 e3 c0 c3] := by
            unfold rowE
            simp only [List.zip_cons_cons, List.zip_nil_right, List.map_cons, List.map_nil]
            congr 1
            · exact fdiv_of (y := 0) (by first | (simp only [D2, D3, D4]; grind) | grind) b0
            · congr 1
              · exact fdiv_of (y := D2 e0 e1 c0 c1) (by first | (simp only [D2, D3, D4]; grind) | grind) b0
              · congr 1
                · exact fdiv_of (y := D2 e0 e2 c0 c2) (by first | (simp only [D2, D3, D4]; grind) | grind) b0
                · congr 1
                  · exact fdiv_of (y := D2 e0 e3 c0 c3) (by first | (simp only [D2, D3, D4]; grind) | grind) b0
          have w0 := u0.2
          rw [v0] at w0 h
          have u1 := row_ok (h := [e0, e1, e2, e3]) (r := [d0, d1, d2, d3]) (kk := 0) (f := d0) (b := 1) (idx_0 ..) le ld (le _ (by simp)) (ld _ (by simp)) bb b0 (by decide) (by simp)
          have v1 : rowE (e0) (d0) (1) [d0, d1, d2, d3] [e0, e1, e2, e3] = [0, D2 e0 e1 d0 d1, D2 e0 e2 d0 d2, D2 e0 e3 d0 d3] := by
            unfold rowE
            simp only [List.zip_cons_cons, List.zip_nil_right, List.map_cons, List.map_nil]
            congr 1
            · exact fdiv_of (y := 0) (by first | (simp only [D2, D3, D4]; grind) | grind) b0
            · congr 1
              · exact fdiv_of (y := D2 e0 e1 d0 d1) (by first | (simp only [D2, D3, D4]; grind) | grind) b0
              · congr 1
                · exact fdiv_of (y := D2 e0 e2 d0 d2) (by first | (simp only [D2, D3, D4]; grind) | grind) b0
                · congr 1
                  · exact fdiv_of (y := D2 e0 e3 d0 d3) (by first | (simp only [D2, D3, D4]; grind) | grind) b0
          have w1 := u1.2
          rw [v1] at w1 h
          have u2 := row_ok (h := [e0, e1, e2, e3]) (r := [a0, a1, a2, a3]) (kk := 0) (f := a0) (b := 1) (idx_0 ..) le la (le _ (by simp)) (la _ (by simp)) bb b0 (by decide) (by simp)
          have v2 : rowE (e0) (a0) (1) [a0, a1, a2, a3] [e0, e1, e2, e3] = [0, D2 e0 e1 a0 a1, D2 e0 e2 a0 a2, D2 e0 e3 a0 a3] := by
            unfold rowE
            simp only [List.zip_cons_cons, List.zip_nil_right, List.map_cons, List.map_nil]
            congr 1
            · exact fdiv_of (y := 0) (by first | (simp only [D2, D3, D4]; grind) | grind) b0
            · congr 1
              · exact fdiv_of (y := D2 e0 e1 a0 a1) (by first | (simp only [D2, D3, D4]; grind) | grind) b0
              · congr 1
                · exact fdiv_of (y := D2 e0 e2 a0 a2) (by first | (simp only [D2, D3, D4]; grind) | grind) b0
                · congr 1
                  · exact fdiv_of (y := D2 e0 e3 a0 a3) (by first | (simp only [D2, D3, D4]; grind) | grind) b0
          have w2 := u2.2
          rw [v2] at w2 h
          rw [foldF_nx h]
          have y := dt_41 e0 e1 e2 e3 c0 c1 c2 c3 d0 d1 d2 d3 a0 a1 a2 a3 (-s) (p0 := [e0, e1, e2, e3]) (sg hs) w0 w1 w2 (Bn.mono (le _ (by simp)) (by decide)) ge
          refine y.trans ?_
          congr 1
          simp only [D2, D3, D4]
          grind
      · rw [if_pos gd] at h
        have u0 := row_ok (h := [d0, d1, d2, d3]) (r := [c0, c1, c2, c3]) (kk := 0) (f := c0) (b := 1) (idx_0 ..) ld lc (ld _ (by simp)) (lc _ (by simp)) bb b0 (by decide) (by simp)
        have v0 : rowE (d0) (c0) (1) [c0, c1, c2, c3] [d0, d1, d2, d3] = [0, D2 d0 d1 c0 c1, D2 d0 d2 c0 c2, D2 d0 d3 c0 c3] := by
          unfold rowE
          simp only [List.zip_cons_cons, List.zip_nil_right, List.map_cons, List.map_nil]
          congr 1
          · exact fdiv_of (y := 0) (by first | (simp only [D2, D3, D4]; grind) | grind) b0
          · congr 1
            · exact fdiv_of (y := D2 d0 d1 c0 c1) (by first | (simp only [D2, D3, D4]; grind) | grind) b0
            · congr 1
              · exact fdiv_of (y := D2 d0 d2 c0 c2) (by first | (simp only [D2, D3, D4]; grind) | grind) b0
              · congr 1
                · exact fdiv_of (y := D2 d0 d3 c0 c3) (by first | (simp only [D2, D3, D4]; grind) | grind) b0
        have w0 := u0.2
        rw [v0] at w0 h
        have u1 := row_ok (h := [d0, d1, d2, d3]) (r := [a0, a1, a2, a3]) (kk := 0) (f := a0) (b := 1) (idx_0 ..) ld la (ld _ (by simp)) (la _ (by simp)) bb b0 (by decide) (by simp)
        have v1 : rowE (d0) (a0) (1) [a0, a1, a2, a3] [d0, d1, d2, d3] = [0, D2 d0 d1 a0 a1, D2 d0 d2 a0 a2, D2 d0 d3 a0 a3] := by
          unfold rowE
          simp only [List.zip_cons_cons, List.zip_nil_right, List.map_cons, List.map_nil]
          congr 1
          · exact fdiv_of (y := 0) (by first | (simp only [D2, D3, D4]; grind) | grind) b0
          · congr 1
            · exact fdiv_of (y := D2 d0 d1 a0 a1) (by first | (simp only [D2, D3, D4]; grind) | grind) b0
            · congr 1
              · exact fdiv_of (y := D2 d0 d2 a0 a2) (by first | (simp only [D2, D3, D4]; grind) | grind) b0
              · congr 1
                · exact fdiv_of (y := D2 d0 d3 a0 a3) (by first | (simp only [D2, D3, D4]; grind) | grind) b0
        have w1 := u1.2
        rw [v1] at w1 h
        have u2 := row_ok (h := [d0, d1, d2, d3]) (r := [e0, e1, e2, e3]) (kk := 0) (f := e0) (b := 1) (idx_0 ..) ld le (ld _ (by simp)) (le _ (by simp)) bb b0 (by decide) (by simp)
        have v2 : rowE (d0) (e0) (1) [e0, e1, e2, e3] [d0, d1, d2, d3] = [0, D2 d0 d1 e0 e1, D2 d0 d2 e0 e2, D2 d0 d3 e0 e3] := by
          unfold rowE
          simp only [List.zip_cons_cons, List.zip_nil_right, List.map_cons, List.map_nil]
          congr 1
          · exact fdiv_of (y := 0) (by first | (simp only [D2, D3, D4]; grind) | grind) b0
          · congr 1
            · exact fdiv_of (y := D2 d0 d1 e0 e1) (by first | (simp only [D2, D3, D4]; grind) | grind) b0
            · congr 1
              · exact fdiv_of (y := D2 d0 d2 e0 e2) (by first | (simp only [D2, D3, D4]; grind) | grind) b0
              · congr 1
                · exact fdiv_of (y := D2 d0 d3 e0 e3) (by first | (simp only [D2, D3, D4]; grind) | grind) b0
        have w2 := u2.2
        rw [v2] at w2 h
        rw [foldF_nx h]
        have y := dt_41 d0 d1 d2 d3 c0 c1 c2 c3 a0 a1 a2 a3 e0 e1 e2 e3 (-s) (p0 := [d0, d1, d2, d3]) (sg hs) w0 w1 w2 (Bn.mono (ld _ (by simp)) (by decide)) gd
        refine y.trans ?_
        congr 1
        simp only [D2, D3, D4]
        grind
    · rw [if_pos gc] at h
      have u0 := row_ok (h := [c0, c1, c2, c3]) (r := [a0, a1, a2, a3]) (kk := 0) (f := a0) (b := 1) (idx_0 ..) lc la (lc _ (by simp)) (la _ (by simp)) bb b0 (by decide) (by simp)
      have v0 : rowE (c0) (a0) (1) [a0, a1, a2, a3] [c0, c1, c2, c3] = [0, D2 c0 c1 a0 a1, D2 c0 c2 a0 a2, D2 c0 c3 a0 a3] := by
        unfold rowE
        simp only [List.zip_cons_cons, List.zip_nil_right, List.map_cons, List.map_nil]
        congr 1
        · exact fdiv_of (y := 0) (by first | (simp only [D2, D3, D4]; grind) | grind) b0
        · congr 1
          · exact fdiv_of (y := D2 c0 c1 a0 a1) (by first | (simp only [D2, D3, D4]; grind) | grind) b0
          · congr 1
            · exact fdiv_of (y := D2 c0 c2 a0 a2) (by first | (simp only [D2, D3, D4]; grind) | grind) b0
            · congr 1
              · exact fdiv_of (y := D2 c0 c3 a0 a3) (by first | (simp only [D2, D3, D4]; grind) | grind) b0
      have w0 := u0.2
      rw [v0] at w0 h
      have u1 := row_ok (h := [c0, c1, c2, c3]) (r := [d0, d1, d2, d3]) (kk := 0) (f := d0) (b := 1) (idx_0 ..) lc ld (lc _ (by simp)) (ld _ (by simp)) bb b0 (by decide) (by simp)
      have v1 : rowE (c0) (d0) (1) [d0, d1, d2, d3] [c0, c1, c2, c3] = [0, D2 c0 c1 d0 d1, D2 c0 c2 d0 d2, D2 c0 c3 d0 d3] := by
        unfold rowE
        simp only [List.zip_cons_cons, List.zip_nil_right, List.map_cons, List.map_nil]
        congr 1
        · exact fdiv_of (y := 0) (by first | (simp only [D2, D3, D4]; grind) | grind) b0
        · congr 1
          · exact fdiv_of (y := D2 c0 c1 d0 d1) (by first | (simp only [D2, D3, D4]; grind) | grind) b0
          · congr 1
            · exact fdiv_of (y := D2 c0 c2 d0 d2) (by first | (simp only [D2, D3, D4]; grind) | grind) b0
            · congr 1
              · exact fdiv_of (y := D2 c0 c3 d0 d3) (by first | (simp only [D2, D3, D4]; grind) | grind) b0
      have w1 := u1.2
      rw [v1] at w1 h
      have u2 := row_ok (h := [c0, c1, c2, c3]) (r := [e0, e1, e2, e3]) (kk := 0) (f := e0) (b := 1) (idx_0 ..) lc le (lc _ (by simp)) (le _ (by simp)) bb b0 (by decide) (by simp)
      have v2 : rowE (c0) (e0) (1) [e0, e1, e2, e3] [c0, c1, c2, c3] = [0, D2 c0 c1 e0 e1, D2 c0 c2 e0 e2, D2 c0 c3 e0 e3] := by
        unfold rowE
        simp only [List.zip_cons_cons, List.zip_nil_right, List.map_cons, List.map_nil]
        congr 1
        · exact fdiv_of (y := 0) (by first | (simp only [D2, D3, D4]; grind) | grind) b0
        · congr 1
          · exact fdiv_of (y := D2 c0 c1 e0 e1) (by first | (simp only [D2, D3, D4]; grind) | grind) b0
          · congr 1
            · exact fdiv_of (y := D2 c0 c2 e0 e2) (by first | (simp only [D2, D3, D4]; grind) | grind) b0
            · congr 1
              · exact fdiv_of (y := D2 c0 c3 e0 e3) (by first | (simp only [D2, D3, D4]; grind) | grind) b0
      have w2 := u2.2
      rw [v2] at w2 h
      rw [foldF_nx h]
      have y := dt_41 c0 c1 c2 c3 a0 a1 a2 a3 d0 d1 d2 d3 e0 e1 e2 e3 (-s) (p0 := [c0, c1, c2, c3]) (sg hs) w0 w1 w2 (Bn.mono (lc _ (by simp)) (by decide)) gc
      refine y.trans ?_
      congr 1
      simp only [D2, D3, D4]
      grind
  · rw [if_pos ga] at h
    have u0 := row_ok (h := [a0, a1, a2, a3]) (r := [c0, c1, c2, c3]) (kk := 0) (f := c0) (b := 1) (idx_0 ..) la lc (la _ (by simp)) (lc _ (by simp)) bb b0 (by decide) (by simp)
    have v0 : rowE (a0) (c0) (1) [c0, c1, c2, c3] [a0, a1, a2, a3] = [0, D2 a0 a1 c0 c1, D2 a0 a2 c0 c2, D2 a0 a3 c0 c3] := by
      unfold rowE
      simp only [List.zip_cons_cons, List.zip_nil_right, List.map_cons, List.map_nil]
      congr 1
      · exact fdiv_of (y := 0) (by first | (simp only [D2, D3, D4]; grind) | grind) b0
      · congr 1
        · exact fdiv_of (y := D2 a0 a1 c0 c1) (by first | (simp only [D2, D3, D4]; grind) | grind) b0
        · congr 1
          · exact fdiv_of (y := D2 a0 a2 c0 c2) (by first | (simp only [D2, D3, D4]; grind) | grind) b0
          · congr 1
            · exact fdiv_of (y := D2 a0 a3 c0 c3) (by first | (simp only [D2, D3, D4]; grind) | grind) b0
    have w0 := u0.2
    rw [v0] at w0 h
    have u1 := row_ok (h := [a0, a1, a2, a3]) (r := [d0, d1, d2, d3]) (kk := 0) (f := d0) (b := 1) (idx_0 ..) la ld (la _ (by simp)) (ld _ (by simp)) bb b0 (by decide) (by simp)
    have v1 : rowE (a0) (d0) (1) [d0, d1, d2, d3] [a0, a1, a2, a3] = [0, D2 a0 a1 d0 d1, D2 a0 a2 d0 d2, D2 a0 a3 d0 d3] := by
      unfold rowE
      simp only [List.zip_cons_cons, List.zip_nil_right, List.map_cons, List.map_nil]
      congr 1
      · exact fdiv_of (y := 0) (by first | (simp only [D2, D3, D4]; grind) | grind) b0
      · congr 1
        · exact fdiv_of (y := D2 a0 a1 d0 d1) (by first | (simp only [D2, D3, D4]; grind) | grind) b0
        · congr 1
          · exact fdiv_of (y := D2 a0 a2 d0 d2) (by first | (simp only [D2, D3, D4]; grind) | grind) b0
          · congr 1
            · exact fdiv_of (y := D2 a0 a3 d0 d3) (by first | (simp only [D2, D3, D4]; grind) | grind) b0
    have w1 := u1.2
    rw [v1] at w1 h
    have u2 := row_ok (h := [a0, a1, a2, a3]) (r := [e0, e1, e2, e3]) (kk := 0) (f := e0) (b := 1) (idx_0 ..) la le (la _ (by simp)) (le _ (by simp)) bb b0 (by decide) (by simp)
    have v2 : rowE (a0) (e0) (1) [e0, e1, e2, e3] [a0, a1, a2, a3] = [0, D2 a0 a1 e0 e1, D2 a0 a2 e0 e2, D2 a0 a3 e0 e3] := by
      unfold rowE
      simp only [List.zip_cons_cons, List.zip_nil_right, List.map_cons, List.map_nil]
      congr 1
      · exact fdiv_of (y := 0) (by first | (simp only [D2, D3, D4]; grind) | grind) b0
      · congr 1
        · exact fdiv_of (y := D2 a0 a1 e0 e1) (by first | (simp only [D2, D3, D4]; grind) | grind) b0
        · congr 1
          · exact fdiv_of (y := D2 a0 a2 e0 e2) (by first | (simp only [D2, D3, D4]; grind) | grind) b0
          · congr 1
            · exact fdiv_of (y := D2 a0 a3 e0 e3) (by first | (simp only [D2, D3, D4]; grind) | grind) b0
    have w2 := u2.2
    rw [v2] at w2 h
    rw [foldF_nx h]
    have y := dt_41 a0 a1 a2 a3 c0 c1 c2 c3 d0 d1 d2 d3 e0 e1 e2 e3 (s) (p0 := [a0, a1, a2, a3]) hs w0 w1 w2 (Bn.mono (la _ (by simp)) (by decide)) ga
    exact y
theorem q_det_fin (rows : List (List Int)) (ks : List Int) (hl : rows.length < 1000) (hr : rng1M (rows.length : Int) = .ok ks) : q_determinant rows = fin (foldF (bstepM (rows.length : Int)) ks (rows, 1, 1)) := by
  unfold q_determinant
  rw [lcM_map (f := fun a1 => M.ok a1) (fun a => a) (by omega) (fun a _ => rfl), List.map_id']
  simp only [okb]
  rw [hr]
  simp only [okb]
  rfl
theorem det0 : q_determinant [] = .ok 1 := by
  rw [q_det_fin [] [] (by decide) rng_0]
  exact (fin_nx [] 1 1 (.inl rfl))
theorem det1 {a0 : Int} (la : Bl 20 [a0]) : q_determinant [[a0]] = .ok (a0) := by
  rw [q_det_fin [[a0]] [0] (by simp) rng_1]
  refine (dt_10 a0 1 (.inl rfl) la).trans ?_
  rw [Int.one_mul]
theorem det2 {a0 a1 c0 c1 : Int} (la : Bl 20 [a0, a1]) (lc : Bl 20 [c0, c1]) : q_determinant [[a0, a1], [c0, c1]] = .ok (D2 a0 a1 c0 c1) := by
  rw [q_det_fin [[a0, a1], [c0, c1]] [0, 1] (by simp) rng_2]
  refine (dt_20 a0 a1 c0 c1 1 (.inl rfl) la lc).trans ?_
  rw [Int.one_mul]
theorem det3 {a0 a1 a2 c0 c1 c2 d0 d1 d2 : Int} (la : Bl 20 [a0, a1, a2]) (lc : Bl 20 [c0, c1, c2]) (ld : Bl 20 [d0, d1, d2]) : q_determinant [[a0, a1, a2], [c0, c1, c2], [d0, d1, d2]] = .ok (D3 a0 a1 a2 c0 c1 c2 d0 d1 d2) := by
  rw [q_det_fin [[a0, a1, a2], [c0, c1, c2], [d0, d1, d2]] [0, 1, 2] (by simp) rng_3]
  refine (dt_30 a0 a1 a2 c0 c1 c2 d0 d1 d2 1 (.inl rfl) la lc ld).trans ?_
  rw [Int.one_mul]
theorem det4 {a0 a1 a2 a3 c0 c1 c2 c3 d0 d1 d2 d3 e0 e1 e2 e3 : Int} (la : Bl 20 [a0, a1, a2, a3]) (lc : Bl 20 [c0, c1, c2, c3]) (ld : Bl 20 [d0, d1, d2, d3]) (le : Bl 20 [e0, e1, e2, e3]) : q_determinant [[a0, a1, a2, a3], [c0, c1, c2, c3], [d0, d1, d2, d3], [e0, e1, e2, e3]] = .ok (D4 a0 a1 a2 a3 c0 c1 c2 c3 d0 d1 d2 d3 e0 e1 e2 e3) := by
  rw [q_det_fin [[a0, a1, a2, a3], [c0, c1, c2, c3], [d0, d1, d2, d3], [e0, e1, e2, e3]] [0, 1, 2, 3] (by simp) rng_4]
  refine (dt_40 a0 a1 a2 a3 c0 c1 c2 c3 d0 d1 d2 d3 e0 e1 e2 e3 1 (.inl rfl) la lc ld le).trans ?_
  rw [Int.one_mul]
end L2.VD

namespace L2.VD
open PySem PySem.Spec PyProof.Rows
end L2.VD

namespace L2.VD
open PySem PySem.Spec PyProof.Rows
def q_is_integer (v_value : Int) : M (Bool) :=
  M.ok true
def q_checked (v_rows : List (List Int)) (v_width : Int) : M (List (List Int)) :=
  (M.ok ([] : List (List Int))).bind fun v_out_1 =>
  (foldM (fun (s2 : List (List Int)) (a3 : List Int) =>
    (if (!decide ((a3.length : Int) = v_width)) = true then M.ex ⟨1, []⟩ else M.ok ()).bind fun _ =>
  (foldM (fun (s8 : Unit) (a9 : Int) =>
    ((q_is_integer a9).bind fun t11 =>
  if (!t11) = true then M.ex ⟨1, []⟩ else M.ok ()).bind fun _ => M.ok ()) a3 ()).bind fun _ =>
  ((appM s2 a3).bind fun z16 => M.ok z16).bind fun v_out_17 => M.ok v_out_17) v_rows v_out_1).bind fun s18 => M.ok s18
def q_Grid_init_2 (v_rows : List (List Int)) (v_width : Int) : M ((List (List Int)) × Int) :=
  ((q_checked v_rows v_width).bind fun t1 => M.ok t1).bind fun f_rows_2 =>
  (M.ok v_width).bind fun f_width_3 => M.ok (f_rows_2, f_width_3)
theorem ints_ok : ∀ l : List Int, foldM (fun (s8 : Unit) (a9 : Int) => ((q_is_integer a9).bind fun t11 => if (!t11) = true then M.ex ⟨1, []⟩ else M.ok ()).bind fun _ => M.ok ()) l () = .ok ()
  | [] => rfl
  | a :: l => by
    rw [foldM_cons (s' := ()) rfl]
    exact ints_ok l
theorem checked_ok {rows : List (List Int)} {w : Int} (h : ∀ r ∈ rows, (r.length : Int) = w) (hl : rows.length < 100000) : q_checked rows w = .ok rows := by
  unfold q_checked
  simp only [okb]
  rw [foldM_app (g := fun a => a) (xs := rows) (acc := []) (by simp; omega) fun a ha s hs => ?_]
  · simp only [okb, List.nil_append, List.map_id']
  · rw [if_neg (by simp [h a ha])]
    simp only [okb]
    rw [ints_ok]
    simp only [okb]
    rw [appM_ok hs]
    rfl
theorem init2_ok {rows : List (List Int)} {w : Int} (h : ∀ r ∈ rows, (r.length : Int) = w) (hl : rows.length < 100000) : q_Grid_init_2 rows w = .ok (rows, w) := by
  unfold q_Grid_init_2
  rw [checked_ok h hl]
  simp only [okb]
def col (B : List (List Int)) (a : Int) : List Int := B.map fun r => r.getD a.toNat 0
theorem idx_getD {r : List Int} {k : Nat} (h : k < r.length) : idxM r (k : Int) = .ok (r.getD (k : Int).toNat 0) := by
  rw [idxM_nat h, Int.toNat_natCast, List.getD_eq_getElem?_getD, List.getElem?_eq_getElem h]
  rfl
theorem col_ok {B : List (List Int)} {w : Nat} {a : Int} (h : ∀ r ∈ B, r.length = w) (ha : a ∈ upto w) (hl : B.length < 1000) : (lcM B fun a3 => (idxM a3 a).bind fun t4 => M.ok t4) = .ok (col B a) := by
  obtain ⟨k, hk, rfl⟩ := mem_upto.mp ha
  exact lcM_map (f := fun a3 : List Int => (idxM a3 (k : Int)).bind fun t4 => M.ok t4) (fun r => r.getD (k : Int).toNat 0) (by omega) fun r hr => by
    rw [idx_getD (by rw [h r hr]; exact hk)]
    rfl
theorem cols_ok {B : List (List Int)} {w : Nat} (h : ∀ r ∈ B, r.length = w) (hl : B.length < 1000) (hw : w < 1000) : (lcM (upto w) fun a4 => (lcM B fun a5 => (idxM a5 a4).bind fun t6 => M.ok t6).bind fun t7 => M.ok t7) = .ok ((upto w).map (col B)) :=
  lcM_map (f := fun a4 : Int => (lcM B fun a5 => (idxM a5 a4).bind fun t6 => M.ok t6).bind fun t7 => M.ok t7) (col B) (by rw [upto_length]; omega) fun a ha => by
    rw [col_ok h ha hl]
    rfl
end L2.VD

namespace L2.VD.Gd
open PySem PySem.Spec PyProof.Rows
theorem bn_rm {m : Nat} {x : Int} (h : Bn m x) (hm : m ≤ 40000000) : Rm x := by
  unfold Rm
  by_cases hx : x = 0
  · exact .inl hx
  · have : x.natAbs.log2 < m := (Nat.log2_lt (by omega)).mpr h
    exact .inr (by omega)
theorem bn_one {m : Nat} (h : 1 ≤ m) : Bn m (1 : Int) := Nat.lt_of_lt_of_le (show (1 : Nat) < 2 ^ 1 by decide) (Nat.pow_le_pow_right (by decide) h)
theorem mulM_bn {m n : Nat} {x y : Int} (h : Bn m x) (h' : Bn n y) (hm : m ≤ 40000000) (hn : n ≤ 40000000) : mulM x y = .ok (x * y) := mulM_rm (bn_rm h hm) (bn_rm h' hn)
theorem divM_bn {m : Nat} {x y : Int} (h : Bn m y) (h0 : y ≠ 0) (hm : m ≤ 40000000) : divGM x y = .ok (x.fdiv y) := divG_ok h0
def rowM (h : List Int) (kk f b : Int) (r : List Int) : M (List Int) := lcM (r.zip h) fun a46 =>
    (idxM h kk).bind fun t47 =>
  (mulM t47 a46.1).bind fun t48 =>
  (mulM f a46.2).bind fun t49 =>
  (divGM (t48 - t49) b).bind fun t50 => M.ok t50
theorem row_ok {m : Nat} {h r : List Int} {kk p f b : Int} (hp : idxM h kk = .ok p) (hh : Bl m h) (hr : Bl m r) (bp : Bn m p) (bf : Bn m f) (bb : Bn m b) (b0 : b ≠ 0) (hm : m ≤ 10000000) (hl : r.length < 1000) : rowM h kk f b r = .ok (rowE p f b r h) ∧ Bl (2 * m + 1) (rowE p f b r h) := by
  constructor
  · unfold rowM rowE
    refine lcM_map (f := _) _ ?_ ?_
    · rw [List.length_zip]; omega
    · intro a ha
      obtain ⟨x, y⟩ := a
      obtain ⟨hx, hy⟩ := List.of_mem_zip ha
      rw [hp, M.ok_bind, mulM_bn bp (hr x hx) (by omega) (by omega), M.ok_bind, mulM_bn bf (hh y hy) (by omega) (by omega), M.ok_bind, divM_bn bb b0 (by omega)]
      rfl
  · intro x hx
    unfold rowE at hx
    obtain ⟨⟨u, v⟩, ha, rfl⟩ := List.mem_map.mp hx
    obtain ⟨hu, hv⟩ := List.of_mem_zip ha
    have h1 := (bp.mul (hr u hu)).sub (bf.mul (hh v hv))
    exact (h1.mono (by omega)).fdiv b
def bstepM (n : Int) (s7 : (List (List Int)) × Int × Int) (a8 : Int) : M (F ((List (List Int)) × Int × Int) Int) :=
    ((rng2M a8 n).bind fun r15 =>
  (lcfM r15 (fun a16 => (idxM s7.1 a16).bind fun t17 =>
  (idxM t17 a8).bind fun t18 => M.ok (!decide (t18 = (0 : Int)))) fun a16 =>
    M.ok a16).bind fun t19 => M.ok t19).bind fun v_chosen_20 =>
  if (decide ((v_chosen_20.length : Int) = (0 : Int))) = true then
  (M.ok (0 : Int)).bind fun r => M.ok (F.rt r)
  else
  ((idxM v_chosen_20 (0 : Int)).bind fun t21 =>
  if (!decide (t21 = a8)) = true then ((idxM s7.1 a8).bind fun t23 => M.ok t23).bind fun v_row_24 =>
  ((idxM v_chosen_20 (0 : Int)).bind fun t25 =>
  (idxM s7.1 t25).bind fun t26 =>
  (setM s7.1 a8 t26).bind fun z27 => M.ok z27).bind fun v_table_28 =>
  ((idxM v_chosen_20 (0 : Int)).bind fun t29 =>
  (setM v_table_28 t29 v_row_24).bind fun z30 => M.ok z30).bind fun v_table_31 =>
  (M.ok (-s7.2.1)).bind fun v_sign_32 => M.ok (v_table_31, v_sign_32) else M.ok (s7.1, s7.2.1)).bind fun s33 =>
  ((idxM s33.1 a8).bind fun t35 => M.ok t35).bind fun v_head_36 =>
  ((rng2M (a8 + (1 : Int)) n).bind fun r37 =>
  foldM (fun (s38 : List (List Int)) (a39 : Int) =>
    ((idxM s38 a39).bind fun t42 =>
  (idxM t42 a8).bind fun t43 => M.ok t43).bind fun v_factor_44 =>
  ((idxM s38 a39).bind fun t45 =>
  (rowM v_head_36 a8 v_factor_44 s7.2.2 t45).bind fun t51 =>
  (setM s38 a39 t51).bind fun z52 => M.ok z52).bind fun v_table_53 => M.ok v_table_53) r37 s33.1).bind fun s54 =>
  ((idxM v_head_36 a8).bind fun t57 => M.ok t57).bind fun v_before_58 => M.ok (F.nx (s54, s33.2, v_before_58))
def q_determinant (v_rows : List (List Int)) : M (Int) :=
  ((lcM v_rows fun a1 =>
    M.ok a1).bind fun t2 => M.ok t2).bind fun v_table_3 =>
  (M.ok (v_table_3.length : Int)).bind fun v_size_4 =>
  (M.ok ((1 : Int), (1 : Int))).bind fun w5 =>
  goM ((rng1M v_size_4).bind fun r6 =>
  foldF (bstepM v_size_4) r6 (v_table_3, w5.1, w5.2)) (fun v => v) fun s59 =>
  (mulM s59.2.1 s59.2.2).bind fun t66 => M.ok t66
def Rok (k b : Int) (rs : List (List Int)) : Prop := ∀ h ∈ rs, ∀ r ∈ rs, ∀ p f, idxM h k = .ok p → idxM r k = .ok f → rowM h k f b r = .ok (rowE p f b r h)
theorem rok_of {m : Nat} {k b : Int} {rs : List (List Int)} (hb : ∀ r ∈ rs, Bl m r) (hl : ∀ r ∈ rs, r.length < 1000) (bb : Bn m b) (b0 : b ≠ 0) (hm : m ≤ 10000000) (hi : ∀ r ∈ rs, ∀ p, idxM r k = .ok p → p ∈ r) : Rok k b rs := fun h hh r hr p f hp hf =>
  (row_ok hp (hb h hh) (hb r hr) (hb h hh p (hi h hh p hp)) (hb r hr f (hi r hr f hf)) bb b0 hm (hl r hr)).1
theorem bs_10 {t0 : List Int} {c0 s b : Int} (h0 : idxM t0 0 = .ok c0) (R : Rok 0 b [t0]) : bstepM 1 ([t0], s, b) 0 = .ok (if c0 ≠ 0 then F.nx ([t0], s, c0) else F.rt 0) := by
  clear R
  (by_cases g0 : c0 = 0 <;> try subst g0) <;> simp [bstepM, *]
theorem bs_20 {t0 t1 : List Int} {c0 c1 s b : Int} (h0 : idxM t0 0 = .ok c0) (h1 : idxM t1 0 = .ok c1) (R : Rok 0 b [t0, t1]) : bstepM 2 ([t0, t1], s, b) 0 = .ok (if c0 ≠ 0 then F.nx ([t0, rowE c0 c1 b t1 t0], s, c0) else if c1 ≠ 0 then F.nx ([t1, rowE c1 c0 b t0 t1], -s, c1) else F.rt 0) := by
  have e01 := R t0 (by simp) t1 (by simp) c0 c1 h0 h1
  have e10 := R t1 (by simp) t0 (by simp) c1 c0 h1 h0
  clear R
  (by_cases g0 : c0 = 0 <;> try subst g0) <;> (by_cases g1 : c1 = 0 <;> try subst g1) <;> simp [bstepM, *]
theorem bs_21 {p0 t1 : List Int} {c1 s b : Int} (h1 : idxM t1 1 = .ok c1) (R : Rok 1 b [t1]) : bstepM 2 ([p0, t1], s, b) 1 = .ok (if c1 ≠ 0 then F.nx ([p0, t1], s, c1) else F.rt 0) := by
  clear R
  (by_cases g1 : c1 = 0 <;> try subst g1) <;> simp [bstepM, *]
theorem bs_30 {t0 t1 t2 : List Int} {c0 c1 c2 s b : Int} (h0 : idxM t0 0 = .ok c0) (h1 : idxM t1 0 = .ok c1) (h2 : idxM t2 0 = .ok c2) (R : Rok 0 b [t0, t1, t2]) : bstepM 3 ([t0, t1, t2], s, b) 0 = .ok (if c0 ≠ 0 then F.nx ([t0, rowE c0 c1 b t1 t0, rowE c0 c2 b t2 t0], s, c0) else if c1 ≠ 0 then F.nx ([t1, rowE c1 c0 b t0 t1, rowE c1 c2 b t2 t1], -s, c1) else if c2 ≠ 0 then F.nx ([t2, rowE c2 c1 b t1 t2, rowE c2 c0 b t0 t2], -s, c2) else F.rt 0) := by
  have e01 := R t0 (by simp) t1 (by simp) c0 c1 h0 h1
  have e02 := R t0 (by simp) t2 (by simp) c0 c2 h0 h2
  have e10 := R t1 (by simp) t0 (by simp) c1 c0 h1 h0
  have e12 := R t1 (by simp) t2 (by simp) c1 c2 h1 h2
  have e20 := R t2 (by simp) t0 (by simp) c2 c0 h2 h0
  have e21 := R t2 (by simp) t1 (by simp) c2 c1 h2 h1
  clear R
  (by_cases g0 : c0 = 0 <;> try subst g0) <;> (by_cases g1 : c1 = 0 <;> try subst g1) <;> (by_cases g2 : c2 = 0 <;> try subst g2) <;> simp [bstepM, *]
theorem bs_31 {p0 t1 t2 : List Int} {c1 c2 s b : Int} (h1 : idxM t1 1 = .ok c1) (h2 : idxM t2 1 = .ok c2) (R : Rok 1 b [t1, t2]) : bstepM 3 ([p0, t1, t2], s, b) 1 = .ok (if c1 ≠ 0 then F.nx ([p0, t1, rowE c1 c2 b t2 t1], s, c1) else if c2 ≠ 0 then F.nx ([p0, t2, rowE c2 c1 b t1 t2], -s, c2) else F.rt 0) := by
  have e12 := R t1 (by simp) t2 (by simp) c1 c2 h1 h2
  have e21 := R t2 (by simp) t1 (by simp) c2 c1 h2 h1
  clear R
  (by_cases g1 : c1 = 0 <;> try subst g1) <;> (by_cases g2 : c2 = 0 <;> try subst g2) <;> simp [bstepM, *]
theorem bs_32 {p0 p1 t2 : List Int} {c2 s b : Int} (h2 : idxM t2 2 = .ok c2) (R : Rok 2 b [t2]) : bstepM 3 ([p0, p1, t2], s, b) 2 = .ok (if c2 ≠ 0 then F.nx ([p0, p1, t2], s, c2) else F.rt 0) := by
  clear R
  (by_cases g2 : c2 = 0 <;> try subst g2) <;> simp [bstepM, *]
theorem bs_40 {t0 t1 t2 t3 : List Int} {c0 c1 c2 c3 s b : Int} (h0 : idxM t0 0 = .ok c0) (h1 : idxM t1 0 = .ok c1) (h2 : idxM t2 0 = .ok c2) (h3 : idxM t3 0 = .ok c3) (R : Rok 0 b [t0, t1, t2, t3]) : bstepM 4 ([t0, t1, t2, t3], s, b) 0 = .ok (if c0 ≠ 0 then F.nx ([t0, rowE c0 c1 b t1 t0, rowE c0 c2 b t2 t0, rowE c0 c3 b t3 t0], s, c0) else if c1 ≠ 0 then F.nx ([t1, rowE c1 c0 b t0 t1, rowE c1 c2 b t2 t1, rowE c1 c3 b t3 t1], -s, c1) else if c2 ≠ 0 then F.nx ([t2, rowE c2 c1 b t1 t2, rowE c2 c0 b t0 t2, rowE c2 c3 b t3 t2], -s, c2) else if c3 ≠ 0 then F.nx ([t3, rowE c3 c1 b t1 t3, rowE c3 c2 b t2 t3, rowE c3 c0 b t0 t3], -s, c3) else F.rt 0) := by
  have e01 := R t0 (by simp) t1 (by simp) c0 c1 h0 h1
  have e02 := R t0 (by simp) t2 (by simp) c0 c2 h0 h2
  have e03 := R t0 (by simp) t3 (by simp) c0 c3 h0 h3
  have e10 := R t1 (by simp) t0 (by simp) c1 c0 h1 h0
  have e12 := R t1 (by simp) t2 (by simp) c1 c2 h1 h2
  have e13 := R t1 (by simp) t3 (by simp) c1 c3 h1 h3
  have e20 := R t2 (by simp) t0 (by simp) c2 c0 h2 h0
  have e21 := R t2 (by simp) t1 (by simp) c2 c1 h2 h1
  have e23 := R t2 (by simp) t3 (by simp) c2 c3 h2 h3
  have e30 := R t3 (by simp) t0 (by simp) c3 c0 h3 h0
  have e31 := R t3 (by simp) t1 (by simp) c3 c1 h3 h1
  have e32 := R t3 (by simp) t2 (by simp) c3 c2 h3 h2
  clear R
  (by_cases g0 : c0 = 0 <;> try subst g0) <;> (by_cases g1 : c1 = 0 <;> try subst g1) <;> (by_cases g2 : c2 = 0 <;> try subst g2) <;> (by_cases g3 : c3 = 0 <;> try subst g3) <;> simp [bstepM, *]
theorem bs_41 {p0 t1 t2 t3 : List Int} {c1 c2 c3 s b : Int} (h1 : idxM t1 1 = .ok c1) (h2 : idxM t2 1 = .ok c2) (h3 : idxM t3 1 = .ok c3) (R : Rok 1 b [t1, t2, t3]) : bstepM 4 ([p0, t1, t2, t3], s, b) 1 = .ok (if c1 ≠ 0 then F.nx ([p0, t1, rowE c1 c2 b t2 t1, rowE c1 c3 b t3 t1], s, c1) else if c2 ≠ 0 then F.nx ([p0, t2, rowE c2 c1 b t1 t2, rowE c2 c3 b t3 t2], -s, c2) else if c3 ≠ 0 then F.nx ([p0, t3, rowE c3 c2 b t2 t3, rowE c3 c1 b t1 t3], -s, c3) else F.rt 0) := by
  have e12 := R t1 (by simp) t2 (by simp) c1 c2 h1 h2
  have e13 := R t1 (by simp) t3 (by simp) c1 c3 h1 h3
  have e21 := R t2 (by simp) t1 (by simp) c2 c1 h2 h1
  have e23 := R t2 (by simp) t3 (by simp) c2 c3 h2 h3
  have e31 := R t3 (by simp) t1 (by simp) c3 c1 h3 h1
  have e32 := R t3 (by simp) t2 (by simp) c3 c2 h3 h2
  clear R
  (by_cases g1 : c1 = 0 <;> try subst g1) <;> (by_cases g2 : c2 = 0 <;> try subst g2) <;> (by_cases g3 : c3 = 0 <;> try subst g3) <;> simp [bstepM, *]
theorem bs_42 {p0 p1 t2 t3 : List Int} {c2 c3 s b : Int} (h2 : idxM t2 2 = .ok c2) (h3 : idxM t3 2 = .ok c3) (R : Rok 2 b [t2, t3]) : bstepM 4 ([p0, p1, t2, t3], s, b) 2 = .ok (if c2 ≠ 0 then F.nx ([p0, p1, t2, rowE c2 c3 b t3 t2], s, c2) else if c3 ≠ 0 then F.nx ([p0, p1, t3, rowE c3 c2 b t2 t3], -s, c3) else F.rt 0) := by
  have e23 := R t2 (by simp) t3 (by simp) c2 c3 h2 h3
  have e32 := R t3 (by simp) t2 (by simp) c3 c2 h3 h2
  clear R
  (by_cases g2 : c2 = 0 <;> try subst g2) <;> (by_cases g3 : c3 = 0 <;> try subst g3) <;> simp [bstepM, *]
theorem bs_43 {p0 p1 p2 t3 : List Int} {c3 s b : Int} (h3 : idxM t3 3 = .ok c3) (R : Rok 3 b [t3]) : bstepM 4 ([p0, p1, p2, t3], s, b) 3 = .ok (if c3 ≠ 0 then F.nx ([p0, p1, p2, t3], s, c3) else F.rt 0) := by
  clear R
  (by_cases g3 : c3 = 0 <;> try subst g3) <;> simp [bstepM, *]
end L2.VD.Gd

namespace L2.VD.Gd
open PySem PySem.Spec PyProof.Rows
theorem rok_ {m : Nat} {k b : Int} {rs : List (List Int)} (hb : ∀ r ∈ rs, Bl m r ∧ r.length < 1000) (bb : Bn m b) (b0 : b ≠ 0) (hm : m ≤ 10000000) : Rok k b rs := rok_of (fun r hr => (hb r hr).1) (fun r hr => (hb r hr).2) bb b0 hm fun r _ p => idx_mem
theorem dt_10 (a0 s : Int) (hs : s = 1 ∨ s = -1) (la : Bl 1100000 [a0]) : fin (foldF (bstepM 1) [0] ([[a0]], s, 1)) = .ok (s * a0) := by
  have b0 : (1 : Int) ≠ 0 := by decide
  have bb : Bn 1100000 (1 : Int) := bn_one (by decide)
  have R : Rok 0 (1) [[a0]] := rok_ (by simp only [List.mem_cons, List.not_mem_nil, or_false, forall_eq]; exact ⟨la, by simp⟩) bb b0 (by decide)
  have h := bs_10 (s := s)  (idx_0 ..) R
  by_cases ga : a0 = 0
  · rw [if_neg (fun q => q ga)] at h
    rw [foldF_rt h, fin_rt]
    rw [ga, Int.mul_zero]
  · rw [if_pos ga] at h
    rw [foldF_nx h, foldF_nil_, fin_nx _ _ _ hs]
theorem dt_21 (a0 a1 c0 c1 s : Int) {p0 : List Int} (hs : s = 1 ∨ s = -1) (lc : Bl 2200001 [0, D2 a0 a1 c0 c1]) (bb : Bn 2200001 (a0)) (b0 : a0 ≠ 0) : fin (foldF (bstepM 2) [1] ([p0, [0, D2 a0 a1 c0 c1]], s, a0)) = .ok (s * (D2 a0 a1 c0 c1)) := by
  have R : Rok 1 (a0) [[0, D2 a0 a1 c0 c1]] := rok_ (by simp only [List.mem_cons, List.not_mem_nil, or_false, forall_eq]; exact ⟨lc, by simp⟩) bb b0 (by decide)
  have h := bs_21 (s := s) (p0 := p0) (idx_1 ..) R
  by_cases gc : D2 a0 a1 c0 c1 = 0
  · rw [if_neg (fun q => q gc)] at h
    rw [foldF_rt h, fin_rt]
    rw [gc, Int.mul_zero]
  · rw [if_pos gc] at h
    rw [foldF_nx h, foldF_nil_, fin_nx _ _ _ hs]
theorem dt_20 (a0 a1 c0 c1 s : Int) (hs : s = 1 ∨ s = -1) (la : Bl 1100000 [a0, a1]) (lc : Bl 1100000 [c0, c1]) : fin (foldF (bstepM 2) [0, 1] ([[a0, a1], [c0, c1]], s, 1)) = .ok (s * (D2 a0 a1 c0 c1)) := by
  have b0 : (1 : Int) ≠ 0 := by decide
  have bb : Bn 1100000 (1 : Int) := bn_one (by decide)
  have R : Rok 0 (1) [[a0, a1], [c0, c1]] := rok_ (by simp only [List.mem_cons, List.not_mem_nil, or_false, forall_eq_or_imp, forall_eq]; exact ⟨⟨la, by simp⟩, ⟨lc, by simp⟩⟩) bb b0 (by decide)
  have h := bs_20 (s := s)  (idx_0 ..) (idx_0 ..) R
  by_cases ga : a0 = 0
  · rw [if_neg (fun q => q ga)] at h
    by_cases gc : c0 = 0
    · rw [if_neg (fun q => q gc)] at h
      rw [foldF_rt h, fin_rt]
      congr 1
      simp only [D2, ga, gc]
      grind
    · rw [if_pos gc] at h
      have u0 := row_ok (h := [c0, c1]) (r := [a0, a1]) (kk := 0) (f := a0) (b := 1) (idx_0 ..) lc la (lc _ (by simp)) (la _ (by simp)) bb b0 (by decide) (by simp)
      have v0 : rowE (c0) (a0) (1) [a0, a1] [c0, c1] = [0, D2 c0 c1 a0 a1] := by
        unfold rowE
        simp only [List.zip_cons_cons, List.zip_nil_right, List.map_cons, List.map_nil]
        congr 1
        · exact fdiv_of (y := 0) (by first | (simp only [D2]; grind) | grind) b0
        · congr 1
          · exact fdiv_of (y := D2 c0 c1 a0 a1) (by first | (simp only [D2]; grind) | grind) b0
      have w0 := u0.2
      rw [v0] at w0 h
      rw [foldF_nx h]
      have y := dt_21 c0 c1 a0 a1 (-s) (p0 := [c0, c1]) (sg hs) w0 (Bn.mono (lc _ (by simp)) (by decide)) gc
      refine y.trans ?_
      congr 1
      simp only [D2]
      grind
  · rw [if_pos ga] at h
    have u0 := row_ok (h := [a0, a1]) (r := [c0, c1]) (kk := 0) (f := c0) (b := 1) (idx_0 ..) la lc (la _ (by simp)) (lc _ (by simp)) bb b0 (by decide) (by simp)
    have v0 : rowE (a0) (c0) (1) [c0, c1] [a0, a1] = [0, D2 a0 a1 c0 c1] := by
      unfold rowE
      simp only [List.zip_cons_cons, List.zip_nil_right, List.map_cons, List.map_nil]
      congr 1
      · exact fdiv_of (y := 0) (by first | (simp only [D2]; grind) | grind) b0
      · congr 1
        · exact fdiv_of (y := D2 a0 a1 c0 c1) (by first | (simp only [D2]; grind) | grind) b0
    have w0 := u0.2
    rw [v0] at w0 h
    rw [foldF_nx h]
    have y := dt_21 a0 a1 c0 c1 (s) (p0 := [a0, a1]) hs w0 (Bn.mono (la _ (by simp)) (by decide)) ga
    exact y
theorem dt_32 (a0 a1 a2 c0 c1 c2 d0 d1 d2 s : Int) {p0 p1 : List Int} (hs : s = 1 ∨ s = -1) (ld : Bl 4400003 [0, 0, D3 a0 a1 a2 c0 c1 c2 d0 d1 d2]) (bb : Bn 4400003 (D2 a0 a1 c0 c1)) (b0 : D2 a0 a1 c0 c1 ≠ 0) : fin (foldF (bstepM 3) [2] ([p0, p1, [0, 0, D3 a0 a1 a2 c0 c1 c2 d0 d1 d2]], s, D2 a0 a1 c0 c1)) = .ok (s * (D3 a0 a1 a2 c0 c1 c2 d0 d1 d2)) := by
  have R : Rok 2 (D2 a0 a1 c0 c1) [[0, 0, D3 a0 a1 a2 c0 c1 c2 d0 d1 d2]] := rok_ (by simp only [List.mem_cons, List.not_mem_nil, or_false, forall_eq]; exact ⟨ld, by simp⟩) bb b0 (by decide)
  have h := bs_32 (s := s) (p0 := p0) (p1 := p1) (idx_2 ..) R
  by_cases gd : D3 a0 a1 a2 c0 c1 c2 d0 d1 d2 = 0
  · rw [if_neg (fun q => q gd)] at h
    rw [foldF_rt h, fin_rt]
    rw [gd, Int.mul_zero]
  · rw [if_pos gd] at h
    rw [foldF_nx h, foldF_nil_, fin_nx _ _ _ hs]
theorem dt_31 (a0 a1 a2 c0 c1 c2 d0 d1 d2 s : Int) {p0 : List Int} (hs : s = 1 ∨ s = -1) (lc : Bl 2200001 [0, D2 a0 a1 c0 c1, D2 a0 a2 c0 c2]) (ld : Bl 2200001 [0, D2 a0 a1 d0 d1, D2 a0 a2 d0 d2]) (bb : Bn 2200001 (a0)) (b0 : a0 ≠ 0) : fin (foldF (bstepM 3) [1, 2] ([p0, [0, D2 a0 a1 c0 c1, D2 a0 a2 c0 c2], [0, D2 a0 a1 d0 d1, D2 a0 a2 d0 d2]], s, a0)) = .ok (s * (D3 a0 a1 a2 c0 c1 c2 d0 d1 d2)) := by
  have R : Rok 1 (a0) [[0, D2 a0 a1 c0 c1, D2 a0 a2 c0 c2], [0, D2 a0 a1 d0 d1, D2 a0 a2 d0 d2]] := rok_ (by simp only [List.mem_cons, List.not_mem_nil, or_false, forall_eq_or_imp, forall_eq]; exact ⟨⟨lc, by simp⟩, ⟨ld, by simp⟩⟩) bb b0 (by decide)
  have h := bs_31 (s := s) (p0 := p0) (idx_1 ..) (idx_1 ..) R
  by_cases gc : D2 a0 a1 c0 c1 = 0
  · rw [if_neg (fun q => q gc)] at h
    by_cases gd : D2 a0 a1 d0 d1 = 0
    · rw [if_neg (fun q => q gd)] at h
      rw [foldF_rt h, fin_rt]
      have z : (a0) ^ 1 * (D3 a0 a1 a2 c0 c1 c2 d0 d1 d2) = 0 := by
        simp only [D2, D3] at gc gd ⊢
        grind
      rcases Int.mul_eq_zero.mp z with z | z
      · exact absurd (pow_z z) b0
      · rw [z, Int.mul_zero]
    · rw [if_pos gd] at h
      have u0 := row_ok (h := [0, D2 a0 a1 d0 d1, D2 a0 a2 d0 d2]) (r := [0, D2 a0 a1 c0 c1, D2 a0 a2 c0 c2]) (kk := 1) (f := D2 a0 a1 c0 c1) (b := a0) (idx_1 ..) ld lc (ld _ (by simp)) (lc _ (by simp)) bb b0 (by decide) (by simp)
      have v0 : rowE (D2 a0 a1 d0 d1) (D2 a0 a1 c0 c1) (a0) [0, D2 a0 a1 c0 c1, D2 a0 a2 c0 c2] [0, D2 a0 a1 d0 d1, D2 a0 a2 d0 d2] = [0, 0, D3 a0 a1 a2 d0 d1 d2 c0 c1 c2] := by
        unfold rowE
        simp only [List.zip_cons_cons, List.zip_nil_right, List.map_cons, List.map_nil]
        congr 1
        · exact fdiv_of (y := 0) (by first | (simp only [D2, D3]; grind) | grind) b0
        · congr 1
          · exact fdiv_of (y := 0) (by first | (simp only [D2, D3]; grind) | grind) b0
          · congr 1
            · exact fdiv_of (y := D3 a0 a1 a2 d0 d1 d2 c0 c1 c2) (by first | (simp only [D2, D3]; grind) | grind) b0
      have w0 := u0.2
      rw [v0] at w0 h
      rw [foldF_nx h]
      have y := dt_32 a0 a1 a2 d0 d1 d2 c0 c1 c2 (-s) (p0 := p0) (p1 := [0, D2 a0 a1 d0 d1, D2 a0 a2 d0 d2]) (sg hs) w0 (Bn.mono (ld _ (by simp)) (by decide)) gd
      refine y.trans ?_
      congr 1
      simp only [D2, D3]
      grind
  · rw [if_pos gc] at h
    have u0 := row_ok (h := [0, D2 a0 a1 c0 c1, D2 a0 a2 c0 c2]) (r := [0, D2 a0 a1 d0 d1, D2 a0 a2 d0 d2]) (kk := 1) (f := D2 a0 a1 d0 d1) (b := a0) (idx_1 ..) lc ld (lc _ (by simp)) (ld _ (by simp)) bb b0 (by decide) (by simp)
    have v0 : rowE (D2 a0 a1 c0 c1) (D2 a0 a1 d0 d1) (a0) [0, D2 a0 a1 d0 d1, D2 a0 a2 d0 d2] [0, D2 a0 a1 c0 c1, D2 a0 a2 c0 c2] = [0, 0, D3 a0 a1 a2 c0 c1 c2 d0 d1 d2] := by
      unfold rowE
      simp only [List.zip_cons_cons, List.zip_nil_right, List.map_cons, List.map_nil]
      congr 1
      · exact fdiv_of (y := 0) (by first | (simp only [D2, D3]; grind) | grind) b0
      · congr 1
        · exact fdiv_of (y := 0) (by first | (simp only [D2, D3]; grind) | grind) b0
        · congr 1
          · exact fdiv_of (y := D3 a0 a1 a2 c0 c1 c2 d0 d1 d2) (by first | (simp only [D2, D3]; grind) | grind) b0
    have w0 := u0.2
    rw [v0] at w0 h
    rw [foldF_nx h]
    have y := dt_32 a0 a1 a2 c0 c1 c2 d0 d1 d2 (s) (p0 := p0) (p1 := [0, D2 a0 a1 c0 c1, D2 a0 a2 c0 c2]) hs w0 (Bn.mono (lc _ (by simp)) (by decide)) gc
    exact y
theorem dt_30 (a0 a1 a2 c0 c1 c2 d0 d1 d2 s : Int) (hs : s = 1 ∨ s = -1) (la : Bl 1100000 [a0, a1, a2]) (lc : Bl 1100000 [c0, c1, c2]) (ld : Bl 1100000 [d0, d1, d2]) : fin (foldF (bstepM 3) [0, 1, 2] ([[a0, a1, a2], [c0, c1, c2], [d0, d1, d2]], s, 1)) = .ok (s * (D3 a0 a1 a2 c0 c1 c2 d0 d1 d2)) := by
  have b0 : (1 : Int) ≠ 0 := by decide
  have bb : Bn 1100000 (1 : Int) := bn_one (by decide)
  have R : Rok 0 (1) [[a0, a1, a2], [c0, c1, c2], [d0, d1, d2]] := rok_ (by simp only [List.mem_cons, List.not_mem_nil, or_false, forall_eq_or_imp, forall_eq]; exact ⟨⟨la, by simp⟩, ⟨lc, by simp⟩, ⟨ld, by simp⟩⟩) bb b0 (by decide)
  have h := bs_30 (s := s)  (idx_0 ..) (idx_0 ..) (idx_0 ..) R
  by_cases ga : a0 = 0
  · rw [if_neg (fun q => q ga)] at h
    by_cases gc : c0 = 0
    · rw [if_neg (fun q => q gc)] at h
      by_cases gd : d0 = 0
      · rw [if_neg (fun q => q gd)] at h
        rw [foldF_rt h, fin_rt]
        congr 1
        simp only [D2, D3, ga, gc, gd]
        grind
      · rw [if_pos gd] at h
        have u0 := row_ok (h := [d0, d1, d2]) (r := [c0, c1, c2]) (kk := 0) (f := c0) (b := 1) (idx_0 ..) ld lc (ld _ (by simp)) (lc _ (by simp)) bb b0 (by decide) (by simp)
        have v0 : rowE (d0) (c0) (1) [c0, c1, c2] [d0, d1, d2] = [0, D2 d0 d1 c0 c1, D2 d0 d2 c0 c2] := by
          unfold rowE
          simp only [List.zip_cons_cons, List.zip_nil_right, List.map_cons, List.map_nil]
          congr 1
          · exact fdiv_of (y := 0) (by first | (simp only [D2, D3]; grind) | grind) b0
          · congr 1
            · exact fdiv_of (y := D2 d0 d1 c0 c1) (by first | (simp only [D2, D3]; grind) | grind) b0
            · congr 1
              · exact fdiv_of (y := D2 d0 d2 c0 c2) (by first | (simp only [D2, D3]; grind) | grind) b0
        have w0 := u0.2
        rw [v0] at w0 h
        have u1 := row_ok (h := [d0, d1, d2]) (r := [a0, a1, a2]) (kk := 0) (f := a0) (b := 1) (idx_0 ..) ld la (ld _ (by simp)) (la _ (by simp)) bb b0 (by decide) (by simp)
        have v1 : rowE (d0) (a0) (1) [a0, a1, a2] [d0, d1, d2] = [0, D2 d0 d1 a0 a1, D2 d0 d2 a0 a2] := by
          unfold rowE
          simp only [List.zip_cons_cons, List.zip_nil_right, List.map_cons, List.map_nil]
          congr 1
          · exact fdiv_of (y := 0) (by first | (simp only [D2, D3]; grind) | grind) b0
          · congr 1
            · exact fdiv_of (y := D2 d0 d1 a0 a1) (by first | (simp only [D2, D3]; grind) | grind) b0
            · congr 1
              · exact fdiv_of (y := D2 d0 d2 a0 a2) (by first | (simp only [D2, D3]; grind) | grind) b0
        have w1 := u1.2
        rw [v1] at w1 h
        rw [foldF_nx h]
        have y := dt_31 d0 d1 d2 c0 c1 c2 a0 a1 a2 (-s) (p0 := [d0, d1, d2]) (sg hs) w0 w1 (Bn.mono (ld _ (by simp)) (by decide)) gd
        refine y.trans ?_
        congr 1
        simp only [D2, D3]
        grind
    · rw [if_pos gc] at h
      have u0 := row_ok (h := [c0, c1, c2]) (r := [a0, a1, a2]) (kk := 0) (f := a0) (b := 1) (idx_0 ..) lc la (lc _ (by simp)) (la _ (by simp)) bb b0 (by decide) (by simp)
      have v0 : rowE (c0) (a0) (1) [a0, a1, a2] [c0, c1, c2] = [0, D2 c0 c1 a0 a1, D2 c0 c2 a0 a2] := by
        unfold rowE
        simp only [List.zip_cons_cons, List.zip_nil_right, List.map_cons, List.map_nil]
        congr 1
        · exact fdiv_of (y := 0) (by first | (simp only [D2, D3]; grind) | grind) b0
        · congr 1
          · exact fdiv_of (y := D2 c0 c1 a0 a1) (by first | (simp only [D2, D3]; grind) | grind) b0
          · congr 1
            · exact fdiv_of (y := D2 c0 c2 a0 a2) (by first | (simp only [D2, D3]; grind) | grind) b0
      have w0 := u0.2
      rw [v0] at w0 h
      have u1 := row_ok (h := [c0, c1, c2]) (r := [d0, d1, d2]) (kk := 0) (f := d0) (b := 1) (idx_0 ..) lc ld (lc _ (by simp)) (ld _ (by simp)) bb b0 (by decide) (by simp)
      have v1 : rowE (c0) (d0) (1) [d0, d1, d2] [c0, c1, c2] = [0, D2 c0 c1 d0 d1, D2 c0 c2 d0 d2] := by
        unfold rowE
        simp only [List.zip_cons_cons, List.zip_nil_right, List.map_cons, List.map_nil]
        congr 1
        · exact fdiv_of (y := 0) (by first | (simp only [D2, D3]; grind) | grind) b0
        · congr 1
          · exact fdiv_of (y := D2 c0 c1 d0 d1) (by first | (simp only [D2, D3]; grind) | grind) b0
          · congr 1
            · exact fdiv_of (y := D2 c0 c2 d0 d2) (by first | (simp only [D2, D3]; grind) | grind) b0
      have w1 := u1.2
      rw [v1] at w1 h
      rw [foldF_nx h]
      have y := dt_31 c0 c1 c2 a0 a1 a2 d0 d1 d2 (-s) (p0 := [c0, c1, c2]) (sg hs) w0 w1 (Bn.mono (lc _ (by simp)) (by decide)) gc
      refine y.trans ?_
      congr 1
      simp only [D2, D3]
      grind
  · rw [if_pos ga] at h
    have u0 := row_ok (h := [a0, a1, a2]) (r := [c0, c1, c2]) (kk := 0) (f := c0) (b := 1) (idx_0 ..) la lc (la _ (by simp)) (lc _ (by simp)) bb b0 (by decide) (by simp)
    have v0 : rowE (a0) (c0) (1) [c0, c1, c2] [a0, a1, a2] = [0, D2 a0 a1 c0 c1, D2 a0 a2 c0 c2] := by
      unfold rowE
      simp only [List.zip_cons_cons, List.zip_nil_right, List.map_cons, List.map_nil]
      congr 1
      · exact fdiv_of (y := 0) (by first | (simp only [D2, D3]; grind) | grind) b0
      · congr 1
        · exact fdiv_of (y := D2 a0 a1 c0 c1) (by first | (simp only [D2, D3]; grind) | grind) b0
        · congr 1
          · exact fdiv_of (y := D2 a0 a2 c0 c2) (by first | (simp only [D2, D3]; grind) | grind) b0
    have w0 := u0.2
    rw [v0] at w0 h
    have u1 := row_ok (h := [a0, a1, a2]) (r := [d0, d1, d2]) (kk := 0) (f := d0) (b := 1) (idx_0 ..) la ld (la _ (by simp)) (ld _ (by simp)) bb b0 (by decide) (by simp)
    have v1 : rowE (a0) (d0) (1) [d0, d1, d2] [a0, a1, a2] = [0, D2 a0 a1 d0 d1, D2 a0 a2 d0 d2] := by
      unfold rowE
      simp only [List.zip_cons_cons, List.zip_nil_right, List.map_cons, List.map_nil]
      congr 1
      · exact fdiv_of (y := 0) (by first | (simp only [D2, D3]; grind) | grind) b0
      · congr 1
        · exact fdiv_of (y := D2 a0 a1 d0 d1) (by first | (simp only [D2, D3]; grind) | grind) b0
        · congr 1
          · exact fdiv_of (y := D2 a0 a2 d0 d2) (by first | (simp only [D2, D3]; grind) | grind) b0
    have w1 := u1.2
    rw [v1] at w1 h
    rw [foldF_nx h]
    have y := dt_31 a0 a1 a2 c0 c1 c2 d0 d1 d2 (s) (p0 := [a0, a1, a2]) hs w0 w1 (Bn.mono (la _ (by simp)) (by decide)) ga
    exact y
theorem dt_43 (a0 a1 a2 a3 c0 c1 c2 c3 d0 d1 d2 d3 e0 e1 e2 e3 s : Int) {p0 p1 p2 : List Int} (hs : s = 1 ∨ s = -1) (le : Bl 8800007 [0, 0, 0, D4 a0 a1 a2 a3 c0 c1 c2 c3 d0 d1 d2 d3 e0 e1 e2 e3]) (bb : Bn 8800007 (D3 a0 a1 a2 c0 c1 c2 d0 d1 d2)) (b0 : D3 a0 a1 a2 c0 c1 c2 d0 d1 d2 ≠ 0) : fin (foldF (bstepM 4) [3] ([p0, p1, p2, [0, 0, 0, D4 a0 a1 a2 a3 c0 c1 c2 c3 d0 d1 d2 d3 e0 e1 e2 e3]], s, D3 a0 a1 a2 c0 c1 c2 d0 d1 d2)) = .ok (s * (D4 a0 a1 a2 a3 c0 c1 c2 c3 d0 d1 d2 d3 e0 e1 e2 e3)) := by
  have R : Rok 3 (D3 a0 a1 a2 c0 c1 c2 d0 d1 d2) [[0, 0, 0, D4 a0 a1 a2 a3 c0 c1 c2 c3 d0 d1 d2 d3 e0 e1 e2 e3]] := rok_ (by simp only [List.mem_cons, List.not_mem_nil, or_false, forall_eq]; exact ⟨le, by simp⟩) bb b0 (by decide)
  have h := bs_43 (s := s) (p0 := p0) (p1 := p1) (p2 := p2) (idx_3 ..) R
  by_cases ge : D4 a0 a1 a2 a3 c0 c1 c2 c3 d0 d1 d2 d3 e0 e1 e2 e3 = 0
  · rw [if_neg (fun q => q ge)] at h
    rw [foldF_rt h, fin_rt]
    rw [ge, Int.mul_zero]
  · rw [if_pos ge] at h
    rw [foldF_nx h, foldF_nil_, fin_nx _ _ _ hs]
theorem dt_42 (a0 a1 a2 a3 c0 c1 c2 c3 d0 d1 d2 d3 e0 e1 e2 e3 s : Int) {p0 p1 : List Int} (hs : s = 1 ∨ s = -1) (ld : Bl 4400003 [0, 0, D3 a0 a1 a2 c0 c1 c2 d0 d1 d2, D3 a0 a1 a3 c0 c1 c3 d0 d1 d3]) (le : Bl 4400003 [0, 0, D3 a0 a1 a2 c0 c1 c2 e0 e1 e2, D3 a0 a1 a3 c0 c1 c3 e0 e1 e3]) (bb : Bn 4400003 (D2 a0 a1 c0 c1)) (b0 : D2 a0 a1 c0 c1 ≠ 0) : fin (foldF (bstepM 4) [2, 3] ([p0, p1, [0, 0, D3 a0 a1 a2 c0 c1 c2 d0 d1 d2, D3 a0 a1 a3 c0 c1 c3 d0 d1 d3], [0, 0, D3 a0 a1 a2 c0 c1 c2 e0 e1 e2, D3 a0 a1 a3 c0 c1 c3 e0 e1 e3]], s, D2 a0 a1 c0 c1)) = .ok (s * (D4 a0 a1 a2 a3 c0 c1 c2 c3 d0 d1 d2 d3 e0 e1 e2 e3)) := by
  have R : Rok 2 (D2 a0 a1 c0 c1) [[0, 0, D3 a0 a1 a2 c0 c1 c2 d0 d1 d2, D3 a0 a1 a3 c0 c1 c3 d0 d1 d3], [0, 0, D3 a0 a1 a2 c0 c1 c2 e0 e1 e2, D3 a0 a1 a3 c0 c1 c3 e0 e1 e3]] := rok_ (by simp only [List.mem_cons, List.not_mem_nil, or_false, forall_eq_or_imp, forall_eq]; exact ⟨⟨ld, by simp⟩, ⟨le, by simp⟩⟩) bb b0 (by decide)
  have h := bs_42 (s := s) (p0 := p0) (p1 := p1) (idx_2 ..) (idx_2 ..) R
  by_cases gd : D3 a0 a1 a2 c0 c1 c2 d0 d1 d2 = 0
  · rw [if_neg (fun q => q gd)] at h
    by_cases ge : D3 a0 a1 a2 c0 c1 c2 e0 e1 e2 = 0
    · rw [if_neg (fun q => q ge)] at h
      rw [foldF_rt h, fin_rt]
      have z : (D2 a0 a1 c0 c1) ^ 1 * (D4 a0 a1 a2 a3 c0 c1 c2 c3 d0 d1 d2 d3 e0 e1 e2 e3) = 0 := by
        simp only [D2, D3, D4] at gd ge ⊢
        grind
      rcases Int.mul_eq_zero.mp z with z | z
      · exact absurd (pow_z z) b0
      · rw [z, Int.mul_zero]
    · rw [if_pos ge] at h
      have u0 := row_ok (h := [0, 0, D3 a0 a1 a2 c0 c1 c2 e0 e1 e2, D3 a0 a1 a3 c0 c1 c3 e0 e1 e3]) (r := [0, 0, D3 a0 a1 a2 c0 c1 c2 d0 d1 d2, D3 a0 a1 a3 c0 c1 c3 d0 d1 d3]) (kk := 2) (f := D3 a0 a1 a2 c0 c1 c2 d0 d1 d2) (b := D2 a0 a1 c0 c1) (idx_2 ..) le ld (le _ (by simp)) (ld _ (by simp)) bb b0 (by decide) (by simp)
      have v0 : rowE (D3 a0 a1 a2 c0 c1 c2 e0 e1 e2) (D3 a0 a1 a2 c0 c1 c2 d0 d1 d2) (D2 a0 a1 c0 c1) [0, 0, D3 a0 a1 a2 c0 c1 c2 d0 d1 d2, D3 a0 a1 a3 c0 c1 c3 d0 d1 d3] [0, 0, D3 a0 a1 a2 c0 c1 c2 e0 e1 e2, D3 a0 a1 a3 c0 c1 c3 e0 e1 e3] = [0, 0, 0, D4 a0 a1 a2 a3 c0 c1 c2 c3 e0 e1 e2 e3 d0 d1 d2 d3] := by
        unfold rowE
        simp only [List.zip_cons_cons, List.zip_nil_right, List.map_cons, List.map_nil]
        congr 1
        · exact fdiv_of (y := 0) (by first | (simp only [D2, D3, D4]; grind) | grind) b0
        · congr 1
          · exact fdiv_of (y := 0) (by first | (simp only [D2, D3, D4]; grind) | grind) b0
          · congr 1
            · exact fdiv_of (y := 0) (by first | (simp only [D2, D3, D4]; grind) | grind) b0
            · congr 1
              · exact fdiv_of (y := D4 a0 a1 a2 a3 c0 c1 c2 c3 e0 e1 e2 e3 d0 d1 d2 d3) (by first | (simp only [D2, D3, D4]; grind) | grind) b0
      have w0 := u0.2
      rw [v0] at w0 h
      rw [foldF_nx h]
      have y := dt_43 a0 a1 a2 a3 c0 c1 c2 c3 e0 e1 e2 e3 d0 d1 d2 d3 (-s) (p0 := p0) (p1 := p1) (p2 := [0, 0, D3 a0 a1 a2 c0 c1 c2 e0 e1 e2, D3 a0 a1 a3 c0 c1 c3 e0 e1 e3]) (sg hs) w0 (Bn.mono (le _ (by simp)) (by decide)) ge
      refine y.trans ?_
      congr 1
      simp only [D2, D3, D4]
      grind
  · rw [if_pos gd] at h
    have u0 := row_ok (h := [0, 0, D3 a0 a1 a2 c0 c1 c2 d0 d1 d2, D3 a0 a1 a3 c0 c1 c3 d0 d1 d3]) (r := [0, 0, D3 a0 a1 a2 c0 c1 c2 e0 e1 e2, D3 a0 a1 a3 c0 c1 c3 e0 e1 e3]) (kk := 2) (f := D3 a0 a1 a2 c0 c1 c2 e0 e1 e2) (b := D2 a0 a1 c0 c1) (idx_2 ..) ld le (ld _ (by simp)) (le _ (by simp)) bb b0 (by decide) (by simp)
    have v0 : rowE (D3 a0 a1 a2 c0 c1 c2 d0 d1 d2) (D3 a0 a1 a2 c0 c1 c2 e0 e1 e2) (D2 a0 a1 c0 c1) [0, 0, D3 a0 a1 a2 c0 c1 c2 e0 e1 e2, D3 a0 a1 a3 c0 c1 c3 e0 e1 e3] [0, 0, D3 a0 a1 a2 c0 c1 c2 d0 d1 d2, D3 a0 a1 a3 c0 c1 c3 d0 d1 d3] = [0, 0, 0, D4 a0 a1 a2 a3 c0 c1 c2 c3 d0 d1 d2 d3 e0 e1 e2 e3] := by
      unfold rowE
      simp only [List.zip_cons_cons, List.zip_nil_right, List.map_cons, List.map_nil]
      congr 1
      · exact fdiv_of (y := 0) (by first | (simp only [D2, D3, D4]; grind) | grind) b0
      · congr 1
        · exact fdiv_of (y := 0) (by first | (simp only [D2, D3, D4]; grind) | grind) b0
        · congr 1
          · exact fdiv_of (y := 0) (by first | (simp only [D2, D3, D4]; grind) | grind) b0
          · congr 1
            · exact fdiv_of (y := D4 a0 a1 a2 a3 c0 c1 c2 c3 d0 d1 d2 d3 e0 e1 e2 e3) (by first | (simp only [D2, D3, D4]; grind) | grind) b0
    have w0 := u0.2
    rw [v0] at w0 h
    rw [foldF_nx h]
    have y := dt_43 a0 a1 a2 a3 c0 c1 c2 c3 d0 d1 d2 d3 e0 e1 e2 e3 (s) (p0 := p0) (p1 := p1) (p2 := [0, 0, D3 a0 a1 a2 c0 c1 c2 d0 d1 d2, D3 a0 a1 a3 c0 c1 c3 d0 d1 d3]) hs w0 (Bn.mono (ld _ (by simp)) (by decide)) gd
    exact y
theorem dt_41 (a0 a1 a2 a3 c0 c1 c2 c3 d0 d1 d2 d3 e0 e1 e2 e3 s : Int) {p0 : List Int} (hs : s = 1 ∨ s = -1) (lc : Bl 2200001 [0, D2 a0 a1 c0 c1, D2 a0 a2 c0 c2, D2 a0 a3 c0 c3]) (ld : Bl 2200001 [0, D2 a0 a1 d0 d1, D2 a0 a2 d0 d2, D2 a0 a3 d0 d3]) (le : Bl 2200001 [0, D2 a0 a1 e0 e1, D2 a0 a2 e0 e2, D2 a0 a3 e0 e3]) (bb : Bn 2200001 (a0)) (b0 : a0 ≠ 0) : fin (foldF (bstepM 4) [1, 2, 3] ([p0, [0, D2 a0 a1 c0 c1, D2 a0 a2 c0 c2, D2 a0 a3 c0 c3], [0, D2 a0 a1 d0 d1, D2 a0 a2 d0 d2, D2 a0 a3 d0 d3], [0, D2 a0 a1 e0 e1, D2 a0 a2 e0 e2, D2 a0 a3 e0 e3]], s, a0)) = .ok (s * (D4 a0 a1 a2 a3 c0 c1 c2 c3 d0 d1 d2 d3 e0 e1 e2 e3)) := by
  have R : Rok 1 (a0) [[0, D2 a0 a1 c0 c1, D2 a0 a2 c0 c2, D2 a0 a3 c0 c3], [0, D2 a0 a1 d0 d1, D2 a0 a2 d0 d2, D2 a0 a3 d0 d3], [0, D2 a0 a1 e0 e1, D2 a0 a2 e0 e2, D2 a0 a3 e0 e3]] := rok_ (by simp only [List.mem_cons, List.not_mem_nil, or_false, forall_eq_or_imp, forall_eq]; exact ⟨⟨lc, by simp⟩, ⟨ld, by simp⟩, ⟨le, by simp⟩⟩) bb b0 (by decide)
  have h := bs_41 (s := s) (p0 := p0) (idx_1 ..) (idx_1 ..) (idx_1 ..) R
  by_cases gc : D2 a0 a1 c0 c1 = 0
  · rw [if_neg (fun q => q gc)] at h
    by_cases gd : D2 a0 a1 d0 d1 = 0
    · rw [if_neg (fun q => q gd)] at h
      by_cases ge : D2 a0 a1 e0 e1 = 0
      · rw [if_neg (fun q => q ge)] at h
        rw [foldF_rt h, fin_rt]
        have z : (a0) ^ 2 * (D4 a0 a1 a2 a3 c0 c1 c2 c3 d0 d1 d2 d3 e0 e1 e2 e3) = 0 := by
          simp only [D2, D3, D4] at gc gd ge ⊢
          grind
        rcases Int.mul_eq_zero.mp z with z | z
        · exact absurd (pow_z z) b0
        · rw [z, Int.mul_zero]
      · rw [if_pos ge] at h
        have u0 := row_ok (h := [0, D2 a0 a1 e0 e1, D2 a0 a2 e0 e2, D2 a0 a3 e0 e3]) (r := [0, D2 a0 a1 d0 d1, D2 a0 a2 d0 d2, D2 a0 a3 d0 d3]) (kk := 1) (f := D2 a0 a1 d0 d1) (b := a0) (idx_1 ..) le ld (le _ (by simp)) (ld _ (by simp)) bb b0 (by decide) (by simp)
        have v0 : rowE (D2 a0 a1 e0 e1) (D2 a0 a1 d0 d1) (a0) [0, D2 a0 a1 d0 d1, D2 a0 a2 d0 d2, D2 a0 a3 d0 d3] [0, D2 a0 a1 e0 e1, D2 a0 a2 e0 e2, D2 a0 a3 e0 e3] = [0, 0, D3 a0 a1 a2 e0 e1 e2 d0 d1 d2, D3 a0 a1 a3 e0 e1 e3 d0 d1 d3] := by
          unfold rowE
          simp only [List.zip_cons_cons, List.zip_nil_right, List.map_cons, List.map_nil]
          congr 1
          · exact fdiv_of (y := 0) (by first | (simp only [D2, D3, D4]; grind) | grind) b0
          · congr 1
            · exact fdiv_of (y := 0) (by first | (simp only [D2, D3, D4]; grind) | grind) b0
            · congr 1
              · exact fdiv_of (y := D3 a0 a1 a2 e0 e1 e2 d0 d1 d2) (by first | (simp only [D2, D3, D4]; grind) | grind) b0
              · congr 1
                · exact fdiv_of (y := D3 a0 a1 a3 e0 e1 e3 d0 d1 d3) (by first | (simp only [D2, D3, D4]; grind) | grind) b0
        have w0 := u0.2
        rw [v0] at w0 h
        have u1 := row_ok (h := [0, D2 a0 a1 e0 e1, D2 a0 a2 e0 e2, D2 a0 a3 e0 e3]) (r := [0, D2 a0 a1 c0 c1, D2 a0 a2 c0 c2, D2 a0 a3 c0 c3]) (kk := 1) (f := D2 a0 a1 c0 c1) (b := a0) (idx_1 ..) le lc (le _ (by simp)) (lc _ (by simp)) bb b0 (by decide) (by simp)
        have v1 : rowE (D2 a0 a1 e0 e1) (D2 a0 a1 c0 c1) (a0) [0, D2 a0 a1 c0 c1, D2 a0 a2 c0 c2, D2 a0 a3 c0 c3] [0, D2 a0 a1 e0 e1, D2 a0 a2 e0 e2, D2 a0 a3 e0 e3] = [0, 0, D3 a0 a1 a2 e0 e1 e2 c0 c1 c2, D3 a0 a1 a3 e0 e1 e3 c0 c1 c3] := by
          unfold rowE
          simp only [List.zip_cons_cons, List.zip_nil_right, List.map_cons, List.map_nil]
          congr 1
          · exact fdiv_of (y := 0) (by first | (simp only [D2, D3, D4]; grind) | grind) b0
          · congr 1
            · exact fdiv_of (y := 0) (by first | (simp only [D2, D3, D4]; grind) | grind) b0
            · congr 1
              · exact fdiv_of (y := D3 a0 a1 a2 e0 e1 e2 c0 c1 c2) (by first | (simp only [D2, D3, D4]; grind) | grind) b0
              · congr 1
                · exact fdiv_of (y := D3 a0 a1 a3 e0 e1 e3 c0 c1 c3) (by first | (simp only [D2, D3, D4]; grind) | grind) b0
        have w1 := u1.2
        rw [v1] at w1 h
        rw [foldF_nx h]
        have y := dt_42 a0 a1 a2 a3 e0 e1 e2 e3 d0 d1 d2 d3 c0 c1 c2 c3 (-s) (p0 := p0) (p1 := [0, D2 a0 a1 e0 e1, D2 a0 a2 e0 e2, D2 a0 a3 e0 e3]) (sg hs) w0 w1 (Bn.mono (le _ (by simp)) (by decide)) ge
        refine y.trans ?_
        congr 1
        simp only [D2, D3, D4]
        grind
    · rw [if_pos gd] at h
      have u0 := row_ok (h := [0, D2 a0 a1 d0 d1, D2 a0 a2 d0 d2, D2 a0 a3 d0 d3]) (r := [0, D2 a0 a1 c0 c1, D2 a0 a2 c0 c2, D2 a0 a3 c0 c3]) (kk := 1) (f := D2 a0 a1 c0 c1) (b := a0) (idx_1 ..) ld lc (ld _ (by simp)) (lc _ (by simp)) bb b0 (by decide) (by simp)
      have v0 : rowE (D2 a0 a1 d0 d1) (D2 a0 a1 c0 c1) (a0) [0, D2 a0 a1 c0 c1, D2 a0 a2 c0 c2, D2 a0 a3 c0 c3] [0, D2 a0 a1 d0 d1, D2 a0 a2 d0 d2, D2 a0 a3 d0 d3] = [0, 0, D3 a0 a1 a2 d0 d1 d2 c0 c1 c2, D3 a0 a1 a3 d0 d1 d3 c0 c1 c3] := by
        unfold rowE
        simp only [List.zip_cons_cons, List.zip_nil_right, List.map_cons, List.map_nil]
        congr 1
        · exact fdiv_of (y := 0) (by first | (simp only [D2, D3, D4]; grind) | grind) b0
        · congr 1
          · exact fdiv_of (y := 0) (by first | (simp only [D2, D3, D4]; grind) | grind) b0
          · congr 1
            · exact fdiv_of (y := D3 a0 a1 a2 d0 d1 d2 c0 c1 c2) (by first | (simp only [D2, D3, D4]; grind) | grind) b0
            · congr 1
              · exact fdiv_of (y := D3 a0 a1 a3 d0 d1 d3 c0 c1 c3) (by first | (simp only [D2, D3, D4]; grind) | grind) b0
      have w0 := u0.2
      rw [v0] at w0 h
      have u1 := row_ok (h := [0, D2 a0 a1 d0 d1, D2 a0 a2 d0 d2, D2 a0 a3 d0 d3]) (r := [0, D2 a0 a1 e0 e1, D2 a0 a2 e0 e2, D2 a0 a3 e0 e3]) (kk := 1) (f := D2 a0 a1 e0 e1) (b := a0) (idx_1 ..) ld le (ld _ (by simp)) (le _ (by simp)) bb b0 (by decide) (by simp)
      have v1 : rowE (D2 a0 a1 d0 d1) (D2 a0 a1 e0 e1) (a0) [0, D2 a0 a1 e0 e1, D2 a0 a2 e0 e2, D2 a0 a3 e0 e3] [0, D2 a0 a1 d0 d1, D2 a0 a2 d0 d2, D2 a0 a3 d0 d3] = [0, 0, D3 a0 a1 a2 d0 d1 d2 e0 e1 e2, D3 a0 a1 a3 d0 d1 d3 e0 e1 e3] := by
        unfold rowE
        simp only [List.zip_cons_cons, List.zip_nil_right, List.map_cons, List.map_nil]
        congr 1
        · exact fdiv_of (y := 0) (by first | (simp only [D2, D3, D4]; grind) | grind) b0
        · congr 1
          · exact fdiv_of (y := 0) (by first | (simp only [D2, D3, D4]; grind) | grind) b0
          · congr 1
            · exact fdiv_of (y := D3 a0 a1 a2 d0 d1 d2 e0 e1 e2) (by first | (simp only [D2, D3, D4]; grind) | grind) b0
            · congr 1
              · exact fdiv_of (y := D3 a0 a1 a3 d0 d1 d3 e0 e1 e3) (by first | (simp only [D2, D3, D4]; grind) | grind) b0
      have w1 := u1.2
      rw [v1] at w1 h
      rw [foldF_nx h]
      have y := dt_42 a0 a1 a2 a3 d0 d1 d2 d3 c0 c1 c2 c3 e0 e1 e2 e3 (-s) (p0 := p0) (p1 := [0, D2 a0 a1 d0 d1, D2 a0 a2 d0 d2, D2 a0 a3 d0 d3]) (sg hs) w0 w1 (Bn.mono (ld _ (by simp)) (by decide)) gd
      refine y.trans ?_
      congr 1
      simp only [D2, D3, D4]
      grind
  · rw [if_pos gc] at h
    have u0 := row_ok (h := [0, D2 a0 a1 c0 c1, D2 a0 a2 c0 c2, D2 a0 a3 c0 c3]) (r := [0, D2 a0 a1 d0 d1, D2 a0 a2 d0 d2, D2 a0 a3 d0 d3]) (kk := 1) (f := D2 a0 a1 d0 d1) (b := a0) (idx_1 ..) lc ld (lc _ (by simp)) (ld _ (by simp)) bb b0 (by decide) (by simp)
    have v0 : rowE (D2 a0 a1 c0 c1) (D2 a0 a1 d0 d1) (a0) [0, D2 a0 a1 d0 d1, D2 a0 a2 d0 d2, D2 a0 a3 d0 d3] [0, D2 a0 a1 c0 c1, D2 a0 a2 c0 c2, D2 a0 a3 c0 c3] = [0, 0, D3 a0 a1 a2 c0 c1 c2 d0 d1 d2, D3 a0 a1 a3 c0 c1 c3 d0 d1 d3] := by
      unfold rowE
      simp only [List.zip_cons_cons, List.zip_nil_right, List.map_cons, List.map_nil]
      congr 1
      · exact fdiv_of (y := 0) (by first | (simp only [D2, D3, D4]; grind) | grind) b0
      · congr 1
        · exact fdiv_of (y := 0) (by first | (simp only [D2, D3, D4]; grind) | grind) b0
        · congr 1
          · exact fdiv_of (y := D3 a0 a1 a2 c0 c1 c2 d0 d1 d2) (by first | (simp only [D2, D3, D4]; grind) | grind) b0
          · congr 1
            · exact fdiv_of (y := D3 a0 a1 a3 c0 c1 c3 d0 d1 d3) (by first | (simp only [D2, D3, D4]; grind) | grind) b0
    have w0 := u0.2
    rw [v0] at w0 h
    have u1 := row_ok (h := [0, D2 a0 a1 c0 c1, D2 a0 a2 c0 c2, D2 a0 a3 c0 c3]) (r := [0, D2 a0 a1 e0 e1, D2 a0 a2 e0 e2, D2 a0 a3 e0 e3]) (kk := 1) (f := D2 a0 a1 e0 e1) (b := a0) (idx_1 ..) lc le (lc _ (by simp)) (le _ (by simp)) bb b0 (by decide) (by simp)
    have v1 : rowE (D2 a0 a1 c0 c1) (D2 a0 a1 e0 e1) (a0) [0, D2 a0 a1 e0 e1, D2 a0 a2 e0 e2, D2 a0 a3 e0 e3] [0, D2 a0 a1 c0 c1, D2 a0 a2 c0 c2, D2 a0 a3 c0 c3] = [0, 0, D3 a0 a1 a2 c0 c1 c2 e0 e1 e2, D3 a0 a1 a3 c0 c1 c3 e0 e1 e3] := by
      unfold rowE
      simp only [List.zip_cons_cons, List.zip_nil_right, List.map_cons, List.map_nil]
      congr 1
      · exact fdiv_of (y := 0) (by first | (simp only [D2, D3, D4]; grind) | grind) b0
      · congr 1
        · exact fdiv_of (y := 0) (by first | (simp only [D2, D3, D4]; grind) | grind) b0
        · congr 1
          · exact fdiv_of (y := D3 a0 a1 a2 c0 c1 c2 e0 e1 e2) (by first | (simp only [D2, D3, D4]; grind) | grind) b0
          · congr 1
            · exact fdiv_of (y := D3 a0 a1 a3 c0 c1 c3 e0 e1 e3) (by first | (simp only [D2, D3, D4]; grind) | grind) b0
    have w1 := u1.2
    rw [v1] at w1 h
    rw [foldF_nx h]
    have y := dt_42 a0 a1 a2 a3 c0 c1 c2 c3 d0 d1 d2 d3 e0 e1 e2 e3 (s) (p0 := p0) (p1 := [0, D2 a0 a1 c0 c1, D2 a0 a2 c0 c2, D2 a0 a3 c0 c3]) hs w0 w1 (Bn.mono (lc _ (by simp)) (by decide)) gc
    exact y
theorem dt_40 (a0 a1 a2 a3 c0 c1 c2 c3 d0 d1 d2 d3 e0 e1 e2 e3 s : Int) (hs : s = 1 ∨ s = -1) (la : Bl 1100000 [a0, a1, a2, a3]) (lc : Bl 1100000 [c0, c1, c2, c3]) (ld : Bl 1100000 [d0, d1, d2, d3]) (le : Bl 1100000 [e0, e1, e2, e3]) : fin (foldF (bstepM 4) [0, 1, 2, 3] ([[a0, a1, a2, a3], [c0, c1, c2, c3], [d0, d1, d2, d3], [e0, e1, e2, e3]], s, 1)) = .ok (s * (D4 a0 a1 a2 a3 c0 c1 c2 c3 d0 d1 d2 d3 e0 e1 e2 e3)) := by
  have b0 : (1 : Int) ≠ 0 := by decide
  have bb : Bn 1100000 (1 : Int) := bn_one (by decide)
  have R : Rok 0 (1) [[a0, a1, a2, a3], [c0, c1, c2, c3], [d0, d1, d2, d3], [e0, e1, e2, e3]] := rok_ (by simp only [List.mem_cons, List.not_mem_nil, or_false, forall_eq_or_imp, forall_eq]; exact ⟨⟨la, by simp⟩, ⟨lc, by simp⟩, ⟨ld, by simp⟩, ⟨le, by simp⟩⟩) bb b0 (by decide)
  have h := bs_40 (s := s)  (idx_0 ..) (idx_0 ..) (idx_0 ..) (idx_0 ..) R
  by_cases ga : a0 = 0
  · rw [if_neg (fun q => q ga)] at h
    by_cases gc : c0 = 0
    · rw [if_neg (fun q => q gc)] at h
      by_cases gd : d0 = 0
      · rw [if_neg (fun q => q gd)] at h
        by_cases ge : e0 = 0
        · rw [if_neg (fun q => q ge)] at h
          rw [foldF_rt h, fin_rt]
          congr 1
          simp only [D2, D3, D4, ga, gc, gd, ge]
          grind
        · rw [if_pos ge] at h
          have u0 := row_ok (h := [e0, e1, e2, e3]) (r := [c0, c1, c2, c3]) (kk := 0) (f := c0) (b := 1) (idx_0 ..) le lc (le _ (by simp)) (lc _ (by simp)) bb b0 (by decide) (by simp)
          have v0 : rowE (e0) (c0) (1) [c0, c1, c2, c3] [e0, e1, e2, e3] = [0, D2 e0 e1 c0 c1, D2 e0 e2 c0 c2, D2 e0 e3 c0 c3] := by
            unfold rowE
            simp only [List.zip_cons_cons, List.zip_nil_right, List.map_cons, List.map_nil]
            congr 1
            · exact fdiv_of (y := 0) (by first | (simp only [D2, D3, D4]; grind) | grind) b0
            · congr 1
              · exact fdiv_of (y := D2 e0 e1 c0 c1) (by first | (simp only [D2, D3, D4]; grind) | grind) b0
              · congr 1
                · exact fdiv_of (y := D2 e0 e2 c0 c2) (by first | (simp only [D2, D3, D4]; grind) | grind) b0
                · congr 1
                  · exact fdiv_of (y := D2 e0 e3 c0 c3) (by first | (simp only [D2, D3, D4]; grind) | grind) b0
          have w0 := u0.2
          rw [v0] at w0 h
          have u1 := row_ok (h := [e0, e1, e2, e3]) (r := [d0, d1, d2, d3]) (kk := 0) (f := d0) (b := 1) (idx_0 ..) le ld (le _ (by simp)) (ld _ (by simp)) bb b0 (by decide) (by simp)
          have v1 : rowE (e0) (d0) (1) [d0, d1, d2, d3] [e0, e1, e2, e3] = [0, D2 e0 e1 d0 d1, D2 e0 e2 d0 d2, D2 e0 e3 d0 d3] := by
            unfold rowE
            simp only [List.zip_cons_cons, List.zip_nil_right, List.map_cons, List.map_nil]
            congr 1
            · exact fdiv_of (y := 0) (by first | (simp only [D2, D3, D4]; grind) | grind) b0
            · congr 1
              · exact fdiv_of (y := D2 e0 e1 d0 d1) (by first | (simp only [D2, D3, D4]; grind) | grind) b0
              · congr 1
                · exact fdiv_of (y := D2 e0 e2 d0 d2) (by first | (simp only [D2, D3, D4]; grind) | grind) b0
                · congr 1
                  · exact fdiv_of (y := D2 e0 e3 d0 d3) (by first | (simp only [D2, D3, D4]; grind) | grind) b0
          have w1 := u1.2
          rw [v1] at w1 h
          have u2 := row_ok (h := [e0, e1, e2, e3]) (r := [a0, a1, a2, a3]) (kk := 0) (f := a0) (b := 1) (idx_0 ..) le la (le _ (by simp)) (la _ (by simp)) bb b0 (by decide) (by simp)
          have v2 : rowE (e0) (a0) (1) [a0, a1, a2, a3] [e0, e1, e2, e3] = [0, D2 e0 e1 a0 a1, D2 e0 e2 a0 a2, D2 e0 e3 a0 a3] := by
            unfold rowE
            simp only [List.zip_cons_cons, List.zip_nil_right, List.map_cons, List.map_nil]
            congr 1
            · exact fdiv_of (y := 0) (by first | (simp only [D2, D3, D4]; grind) | grind) b0
            · congr 1
              · exact fdiv_of (y := D2 e0 e1 a0 a1) (by first | (simp only [D2, D3, D4]; grind) | grind) b0
              · congr 1
                · exact fdiv_of (y := D2 e0 e2 a0 a2) (by first | (simp only [D2, D3, D4]; grind) | grind) b0
                · congr 1
                  · exact fdiv_of (y := D2 e0 e3 a0 a3) (by first | (simp only [D2, D3, D4]; grind) | grind) b0
          have w2 := u2.2
          rw [v2] at w2 h
          rw [foldF_nx h]
          have y := dt_41 e0 e1 e2 e3 c0 c1 c2 c3 d0 d1 d2 d3 a0 a1 a2 a3 (-s) (p0 := [e0, e1, e2, e3]) (sg hs) w0 w1 w2 (Bn.mono (le _ (by simp)) (by decide)) ge
          refine y.trans ?_
          congr 1
          simp only [D2, D3, D4]
          grind
      · rw [if_pos gd] at h
        have u0 := row_ok (h := [d0, d1, d2, d3]) (r := [c0, c1, c2, c3]) (kk := 0) (f := c0) (b := 1) (idx_0 ..) ld lc (ld _ (by simp)) (lc _ (by simp)) bb b0 (by decide) (by simp)
        have v0 : rowE (d0) (c0) (1) [c0, c1, c2, c3] [d0, d1, d2, d3] = [0, D2 d0 d1 c0 c1, D2 d0 d2 c0 c2, D2 d0 d3 c0 c3] := by
          unfold rowE
          simp only [List.zip_cons_cons, List.zip_nil_right, List.map_cons, List.map_nil]
          congr 1
          · exact fdiv_of (y := 0) (by first | (simp only [D2, D3, D4]; grind) | grind) b0
          · congr 1
            · exact fdiv_of (y := D2 d0 d1 c0 c1) (by first | (simp only [D2, D3, D4]; grind) | grind) b0
            · congr 1
              · exact fdiv_of (y := D2 d0 d2 c0 c2) (by first | (simp only [D2, D3, D4]; grind) | grind) b0
              · congr 1
                · exact fdiv_of (y := D2 d0 d3 c0 c3) (by first | (simp only [D2, D3, D4]; grind) | grind) b0
        have w0 := u0.2
        rw [v0] at w0 h
        have u1 := row_ok (h := [d0, d1, d2, d3]) (r := [a0, a1, a2, a3]) (kk := 0) (f := a0) (b := 1) (idx_0 ..) ld la (ld _ (by simp)) (la _ (by simp)) bb b0 (by decide) (by simp)
        have v1 : rowE (d0) (a0) (1) [a0, a1, a2, a3] [d0, d1, d2, d3] = [0, D2 d0 d1 a0 a1, D2 d0 d2 a0 a2, D2 d0 d3 a0 a3] := by
          unfold rowE
          simp only [List.zip_cons_cons, List.zip_nil_right, List.map_cons, List.map_nil]
          congr 1
          · exact fdiv_of (y := 0) (by first | (simp only [D2, D3, D4]; grind) | grind) b0
          · congr 1
            · exact fdiv_of (y := D2 d0 d1 a0 a1) (by first | (simp only [D2, D3, D4]; grind) | grind) b0
            · congr 1
              · exact fdiv_of (y := D2 d0 d2 a0 a2) (by first | (simp only [D2, D3, D4]; grind) | grind) b0
              · congr 1
                · exact fdiv_of (y := D2 d0 d3 a0 a3) (by first | (simp only [D2, D3, D4]; grind) | grind) b0
        have w1 := u1.2
        rw [v1] at w1 h
        have u2 := row_ok (h := [d0, d1, d2, d3]) (r := [e0, e1, e2, e3]) (kk := 0) (f := e0) (b := 1) (idx_0 ..) ld le (ld _ (by simp)) (le _ (by simp)) bb b0 (by decide) (by simp)
        have v2 : rowE (d0) (e0) (1) [e0, e1, e2, e3] [d0, d1, d2, d3] = [0, D2 d0 d1 e0 e1, D2 d0 d2 e0 e2, D2 d0 d3 e0 e3] := by
          unfold rowE
          simp only [List.zip_cons_cons, List.zip_nil_right, List.map_cons, List.map_nil]
          congr 1
          · exact fdiv_of (y := 0) (by first | (simp only [D2, D3, D4]; grind) | grind) b0
          · congr 1
            · exact fdiv_of (y := D2 d0 d1 e0 e1) (by first | (simp only [D2, D3, D4]; grind) | grind) b0
            · congr 1
              · exact fdiv_of (y := D2 d0 d2 e0 e2) (by first | (simp only [D2, D3, D4]; grind) | grind) b0
              · congr 1
                · exact fdiv_of (y := D2 d0 d3 e0 e3) (by first | (simp only [D2, D3, D4]; grind) | grind) b0
        have w2 := u2.2
        rw [v2] at w2 h
        rw [foldF_nx h]
        have y := dt_41 d0 d1 d2 d3 c0 c1 c2 c3 a0 a1 a2 a3 e0 e1 e2 e3 (-s) (p0 := [d0, d1, d2, d3]) (sg hs) w0 w1 w2 (Bn.mono (ld _ (by simp)) (by decide)) gd
        refine y.trans ?_
        congr 1
        simp only [D2, D3, D4]
        grind
    · rw [if_pos gc] at h
      have u0 := row_ok (h := [c0, c1, c2, c3]) (r := [a0, a1, a2, a3]) (kk := 0) (f := a0) (b := 1) (idx_0 ..) lc la (lc _ (by simp)) (la _ (by simp)) bb b0 (by decide) (by simp)
      have v0 : rowE (c0) (a0) (1) [a0, a1, a2, a3] [c0, c1, c2, c3] = [0, D2 c0 c1 a0 a1, D2 c0 c2 a0 a2, D2 c0 c3 a0 a3] := by
        unfold rowE
        simp only [List.zip_cons_cons, List.zip_nil_right, List.map_cons, List.map_nil]
        congr 1
        · exact fdiv_of (y := 0) (by first | (simp only [D2, D3, D4]; grind) | grind) b0
        · congr 1
          · exact fdiv_of (y := D2 c0 c1 a0 a1) (by first | (simp only [D2, D3, D4]; grind) | grind) b0
          · congr 1
            · exact fdiv_of (y := D2 c0 c2 a0 a2) (by first | (simp only [D2, D3, D4]; grind) | grind) b0
            · congr 1
              · exact fdiv_of (y := D2 c0 c3 a0 a3) (by first | (simp only [D2, D3, D4]; grind) | grind) b0
      have w0 := u0.2
      rw [v0] at w0 h
      have u1 := row_ok (h := [c0, c1, c2, c3]) (r := [d0, d1, d2, d3]) (kk := 0) (f := d0) (b := 1) (idx_0 ..) lc ld (lc _ (by simp)) (ld _ (by simp)) bb b0 (by decide) (by simp)
      have v1 : rowE (c0) (d0) (1) [d0, d1, d2, d3] [c0, c1, c2, c3] = [0, D2 c0 c1 d0 d1, D2 c0 c2 d0 d2, D2 c0 c3 d0 d3] := by
        unfold rowE
        simp only [List.zip_cons_cons, List.zip_nil_right, List.map_cons, List.map_nil]
        congr 1
        · exact fdiv_of (y := 0) (by first | (simp only [D2, D3, D4]; grind) | grind) b0
        · congr 1
          · exact fdiv_of (y := D2 c0 c1 d0 d1) (by first | (simp only [D2, D3, D4]; grind) | grind) b0
          · congr 1
            · exact fdiv_of (y := D2 c0 c2 d0 d2) (by first | (simp only [D2, D3, D4]; grind) | grind) b0
            · congr 1
              · exact fdiv_of (y := D2 c0 c3 d0 d3) (by first | (simp only [D2, D3, D4]; grind) | grind) b0
      have w1 := u1.2
      rw [v1] at w1 h
      have u2 := row_ok (h := [c0, c1, c2, c3]) (r := [e0, e1, e2, e3]) (kk := 0) (f := e0) (b := 1) (idx_0 ..) lc le (lc _ (by simp)) (le _ (by simp)) bb b0 (by decide) (by simp)
      have v2 : rowE (c0) (e0) (1) [e0, e1, e2, e3] [c0, c1, c2, c3] = [0, D2 c0 c1 e0 e1, D2 c0 c2 e0 e2, D2 c0 c3 e0 e3] := by
        unfold rowE
        simp only [List.zip_cons_cons, List.zip_nil_right, List.map_cons, List.map_nil]
        congr 1
        · exact fdiv_of (y := 0) (by first | (simp only [D2, D3, D4]; grind) | grind) b0
        · congr 1
          · exact fdiv_of (y := D2 c0 c1 e0 e1) (by first | (simp only [D2, D3, D4]; grind) | grind) b0
          · congr 1
            · exact fdiv_of (y := D2 c0 c2 e0 e2) (by first | (simp only [D2, D3, D4]; grind) | grind) b0
            · congr 1
              · exact fdiv_of (y := D2 c0 c3 e0 e3) (by first | (simp only [D2, D3, D4]; grind) | grind) b0
      have w2 := u2.2
      rw [v2] at w2 h
      rw [foldF_nx h]
      have y := dt_41 c0 c1 c2 c3 a0 a1 a2 a3 d0 d1 d2 d3 e0 e1 e2 e3 (-s) (p0 := [c0, c1, c2, c3]) (sg hs) w0 w1 w2 (Bn.mono (lc _ (by simp)) (by decide)) gc
      refine y.trans ?_
      congr 1
      simp only [D2, D3, D4]
      grind
  · rw [if_pos ga] at h
    have u0 := row_ok (h := [a0, a1, a2, a3]) (r := [c0, c1, c2, c3]) (kk := 0) (f := c0) (b := 1) (idx_0 ..) la lc (la _ (by simp)) (lc _ (by simp)) bb b0 (by decide) (by simp)
    have v0 : rowE (a0) (c0) (1) [c0, c1, c2, c3] [a0, a1, a2, a3] = [0, D2 a0 a1 c0 c1, D2 a0 a2 c0 c2, D2 a0 a3 c0 c3] := by
      unfold rowE
      simp only [List.zip_cons_cons, List.zip_nil_right, List.map_cons, List.map_nil]
      congr 1
      · exact fdiv_of (y := 0) (by first | (simp only [D2, D3, D4]; grind) | grind) b0
      · congr 1
        · exact fdiv_of (y := D2 a0 a1 c0 c1) (by first | (simp only [D2, D3, D4]; grind) | grind) b0
        · congr 1
          · exact fdiv_of (y := D2 a0 a2 c0 c2) (by first | (simp only [D2, D3, D4]; grind) | grind) b0
          · congr 1
            · exact fdiv_of (y := D2 a0 a3 c0 c3) (by first | (simp only [D2, D3, D4]; grind) | grind) b0
    have w0 := u0.2
    rw [v0] at w0 h
    have u1 := row_ok (h := [a0, a1, a2, a3]) (r := [d0, d1, d2, d3]) (kk := 0) (f := d0) (b := 1) (idx_0 ..) la ld (la _ (by simp)) (ld _ (by simp)) bb b0 (by decide) (by simp)
    have v1 : rowE (a0) (d0) (1) [d0, d1, d2, d3] [a0, a1, a2, a3] = [0, D2 a0 a1 d0 d1, D2 a0 a2 d0 d2, D2 a0 a3 d0 d3] := by
      unfold rowE
      simp only [List.zip_cons_cons, List.zip_nil_right, List.map_cons, List.map_nil]
      congr 1
      · exact fdiv_of (y := 0) (by first | (simp only [D2, D3, D4]; grind) | grind) b0
      · congr 1
        · exact fdiv_of (y := D2 a0 a1 d0 d1) (by first | (simp only [D2, D3, D4]; grind) | grind) b0
        · congr 1
          · exact fdiv_of (y := D2 a0 a2 d0 d2) (by first | (simp only [D2, D3, D4]; grind) | grind) b0
          · congr 1
            · exact fdiv_of (y := D2 a0 a3 d0 d3) (by first | (simp only [D2, D3, D4]; grind) | grind) b0
    have w1 := u1.2
    rw [v1] at w1 h
    have u2 := row_ok (h := [a0, a1, a2, a3]) (r := [e0, e1, e2, e3]) (kk := 0) (f := e0) (b := 1) (idx_0 ..) la le (la _ (by simp)) (le _ (by simp)) bb b0 (by decide) (by simp)
    have v2 : rowE (a0) (e0) (1) [e0, e1, e2, e3] [a0, a1, a2, a3] = [0, D2 a0 a1 e0 e1, D2 a0 a2 e0 e2, D2 a0 a3 e0 e3] := by
      unfold rowE
      simp only [List.zip_cons_cons, List.zip_nil_right, List.map_cons, List.map_nil]
      congr 1
      · exact fdiv_of (y := 0) (by first | (simp only [D2, D3, D4]; grind) | grind) b0
      · congr 1
        · exact fdiv_of (y := D2 a0 a1 e0 e1) (by first | (simp only [D2, D3, D4]; grind) | grind) b0
        · congr 1
          · exact fdiv_of (y := D2 a0 a2 e0 e2) (by first | (simp only [D2, D3, D4]; grind) | grind) b0
          · congr 1
            · exact fdiv_of (y := D2 a0 a3 e0 e3) (by first | (simp only [D2, D3, D4]; grind) | grind) b0
    have w2 := u2.2
    rw [v2] at w2 h
    rw [foldF_nx h]
    have y := dt_41 a0 a1 a2 a3 c0 c1 c2 c3 d0 d1 d2 d3 e0 e1 e2 e3 (s) (p0 := [a0, a1, a2, a3]) hs w0 w1 w2 (Bn.mono (la _ (by simp)) (by decide)) ga
    exact y
theorem q_det_fin (rows : List (List Int)) (ks : List Int) (hl : rows.length < 1000) (hr : rng1M (rows.length : Int) = .ok ks) : q_determinant rows = fin (foldF (bstepM (rows.length : Int)) ks (rows, 1, 1)) := by
  unfold q_determinant
  rw [lcM_map (f := fun a1 => M.ok a1) (fun a => a) (by omega) (fun a _ => rfl), List.map_id']
  simp only [okb]
  rw [hr]
  simp only [okb]
  rfl
theorem det0 : q_determinant [] = .ok 1 := by
  rw [q_det_fin [] [] (by decide) rng_0]
  exact (fin_nx [] 1 1 (.inl rfl))
theorem det1 {a0 : Int} (la : Bl 1100000 [a0]) : q_determinant [[a0]] = .ok (a0) := by
  rw [q_det_fin [[a0]] [0] (by simp) rng_1]
  refine (dt_10 a0 1 (.inl rfl) la).trans ?_
  rw [Int.one_mul]
theorem det2 {a0 a1 c0 c1 : Int} (la : Bl 1100000 [a0, a1]) (lc : Bl 1100000 [c0, c1]) : q_determinant [[a0, a1], [c0, c1]] = .ok (D2 a0 a1 c0 c1) := by
  rw [q_det_fin [[a0, a1], [c0, c1]] [0, 1] (by simp) rng_2]
  refine (dt_20 a0 a1 c0 c1 1 (.inl rfl) la lc).trans ?_
  rw [Int.one_mul]
theorem det3 {a0 a1 a2 c0 c1 c2 d0 d1 d2 : Int} (la : Bl 1100000 [a0, a1, a2]) (lc : Bl 1100000 [c0, c1, c2]) (ld : Bl 1100000 [d0, d1, d2]) : q_determinant [[a0, a1, a2], [c0, c1, c2], [d0, d1, d2]] = .ok (D3 a0 a1 a2 c0 c1 c2 d0 d1 d2) := by
  rw [q_det_fin [[a0, a1, a2], [c0, c1, c2], [d0, d1, d2]] [0, 1, 2] (by simp) rng_3]
  refine (dt_30 a0 a1 a2 c0 c1 c2 d0 d1 d2 1 (.inl rfl) la lc ld).trans ?_
  rw [Int.one_mul]
theorem det4 {a0 a1 a2 a3 c0 c1 c2 c3 d0 d1 d2 d3 e0 e1 e2 e3 : Int} (la : Bl 1100000 [a0, a1, a2, a3]) (lc : Bl 1100000 [c0, c1, c2, c3]) (ld : Bl 1100000 [d0, d1, d2, d3]) (le : Bl 1100000 [e0, e1, e2, e3]) : q_determinant [[a0, a1, a2, a3], [c0, c1, c2, c3], [d0, d1, d2, d3], [e0, e1, e2, e3]] = .ok (D4 a0 a1 a2 a3 c0 c1 c2 c3 d0 d1 d2 d3 e0 e1 e2 e3) := by
  rw [q_det_fin [[a0, a1, a2, a3], [c0, c1, c2, c3], [d0, d1, d2, d3], [e0, e1, e2, e3]] [0, 1, 2, 3] (by simp) rng_4]
  refine (dt_40 a0 a1 a2 a3 c0 c1 c2 c3 d0 d1 d2 d3 e0 e1 e2 e3 1 (.inl rfl) la lc ld le).trans ?_
  rw [Int.one_mul]
end L2.VD.Gd

namespace L2.VD
open PySem PySem.Spec PyProof.Rows
@[simp] theorem tk_0 {α : Type} (xs : List α) : cutL xs none (some 0) = xs.take 0 := cut_take (k := 0)
@[simp] theorem tk_1 {α : Type} (xs : List α) : cutL xs none (some 1) = xs.take 1 := cut_take (k := 1)
@[simp] theorem tk_2 {α : Type} (xs : List α) : cutL xs none (some 2) = xs.take 2 := cut_take (k := 2)
@[simp] theorem tk_3 {α : Type} (xs : List α) : cutL xs none (some 3) = xs.take 3 := cut_take (k := 3)
@[simp] theorem tk_4 {α : Type} (xs : List α) : cutL xs none (some 4) = xs.take 4 := cut_take (k := 4)
@[simp] theorem dr_0 {α : Type} (xs : List α) : cutL xs (some 0) none = xs.drop 0 := cut_drop (k := 0)
@[simp] theorem dr_1 {α : Type} (xs : List α) : cutL xs (some 1) none = xs.drop 1 := cut_drop (k := 1)
@[simp] theorem dr_2 {α : Type} (xs : List α) : cutL xs (some 2) none = xs.drop 2 := cut_drop (k := 2)
@[simp] theorem dr_3 {α : Type} (xs : List α) : cutL xs (some 3) none = xs.drop 3 := cut_drop (k := 3)
@[simp] theorem dr_4 {α : Type} (xs : List α) : cutL xs (some 4) none = xs.drop 4 := cut_drop (k := 4)
def A2 (a00 a01 a10 a11 : Int) : List (List Int) := [[a11, -a01], [-a10, a00]]
def A3 (a00 a01 a02 a10 a11 a12 a20 a21 a22 : Int) : List (List Int) := [[D2 a11 a12 a21 a22, -(D2 a01 a02 a21 a22), D2 a01 a02 a11 a12], [-(D2 a10 a12 a20 a22), D2 a00 a02 a20 a22, -(D2 a00 a02 a10 a12)], [D2 a10 a11 a20 a21, -(D2 a00 a01 a20 a21), D2 a00 a01 a10 a11]]
end L2.VD

namespace L2.VD
open PySem PySem.Spec PyProof.Rows
def q_lrows (v_state_here : List Int) (v_height : Int) (v_width : Int) (v_most : Int) : M ((List (List Int)) × List Int) :=
  (M.ok ([] : List (List Int))).bind fun v_rows_here_1 =>
  ((rng1M v_height).bind fun r2 =>
  foldM (fun (s3 : (List Int) × (List (List Int))) (a4 : Int) =>
    ((rng1M v_width).bind fun r6 =>
  (lcsM r6 s3.1 fun (s11 : List Int) (a7 : Int) =>
    (mulM (2 : Int) v_most).bind fun t12 =>
  (q_take s11 (t12 + (1 : Int))).bind fun t13 => M.ok ((t13.1 - v_most), t13.2)).bind fun t10 =>
  (appM s3.2 t10.1).bind fun z14 => M.ok (z14, t10.2)).bind fun v_rows_here_15 => M.ok (v_rows_here_15.2, v_rows_here_15.1)) r2 (v_state_here, v_rows_here_1)).bind fun s16 =>
  ((if (decide ((1 : Int) < v_height)) = true then (q_take s16.1 (5 : Int)).bind fun t18 => M.ok ((decide (t18.1 = (0 : Int))), t18.2) else M.ok (false, s16.1)).bind fun t19 =>
  if t19.1 = true then ((rng1M v_width).bind fun r21 =>
  (lcM r21 fun a22 =>
    (idxM s16.2 (0 : Int)).bind fun t23 =>
  (idxM t23 a22).bind fun t24 =>
  (mulM t24 (2 : Int)).bind fun t25 => M.ok t25).bind fun t26 =>
  (setM s16.2 (v_height - (1 : Int)) t26).bind fun z27 => M.ok z27).bind fun v_rows_here_28 => M.ok (t19.2, v_rows_here_28) else M.ok (t19.2, s16.2)).bind fun s29 =>
  (M.ok s29.2).bind fun r => M.ok (r, s29.1)
structure LR (T : List (List Int)) (h w : Nat) (m : Nat) : Prop where
  len : T.length = h
  row : ∀ r ∈ T, r.length = w ∧ ∀ x ∈ r, x.natAbs ≤ m
theorem lrow_ok {m : Int} (h0 : 0 ≤ m) (h1 : m < 10000000) : ∀ (xs : List Int) (s : List Int), xs.length < 999999 → St s → ∃ v s', lcsM xs s (fun (s6 : List Int) (a2 : Int) =>
    (mulM (2 : Int) m).bind fun t7 =>
  (q_take s6 (t7 + (1 : Int))).bind fun t8 => M.ok ((t8.1 - m), t8.2)) = .ok (v, s') ∧ v.length = xs.length ∧ (∀ x ∈ v, x.natAbs ≤ m.toNat) ∧ St s' := by
  intro xs
  induction xs with
  | nil => exact fun s _ hs => ⟨[], s, lcsM_nil _ _, rfl, fun x hx => absurd hx (List.not_mem_nil), hs⟩
  | cons x xs ih =>
    intro s hl hs
    rw [List.length_cons] at hl
    obtain ⟨v, s', e, hv0, hv1, hs'⟩ := take_ok (m := 2 * m + 1) hs (by omega) (by omega)
    obtain ⟨vs, s2, e2, hl2, hb, hs2⟩ := ih s' (by omega) hs'
    refine ⟨(v - m) :: vs, s2, ?_, by rw [List.length_cons, List.length_cons, hl2], ?_, hs2⟩
    · rw [lcsM_cons _ _ _ _ (by omega)]
      simp only [mulM_l (i := 2) (j := m) (by decide), M.ok_bind] at e2 ⊢
      rw [e]
      simp only [M.ok_bind, M.nox_ok]
      rw [e2]
      rfl
    · intro y hy
      rcases List.mem_cons.mp hy with rfl | hy
      · omega
      · exact hb y hy
theorem lrows_ok {l : List Int} (hl : St l) {h w m : Nat} (hh : h ≤ 10) (hw : w ≤ 10) (hm : m ≤ 1000) : ∃ T l', q_lrows l (h : Int) (w : Int) (m : Int) = .ok (T, l') ∧ LR T h w (2 * m) ∧ St l' := by
  have fold : ∀ (xs : List Int) (l : List Int) (acc : List (List Int)), St l → acc.length + xs.length ≤ 100 → (∀ r ∈ acc, r.length = w ∧ ∀ x ∈ r, x.natAbs ≤ m) →
      ∃ T l', foldM (fun (s3 : (List Int) × (List (List Int))) (a4 : Int) =>
    ((rng1M (w : Int)).bind fun r6 =>
  (lcsM r6 s3.1 fun (s11 : List Int) (a7 : Int) =>
    (mulM (2 : Int) (m : Int)).bind fun t12 =>
  (q_take s11 (t12 + (1 : Int))).bind fun t13 => M.ok ((t13.1 - (m : Int)), t13.2)).bind fun t10 =>
  (appM s3.2 t10.1).bind fun z14 => M.ok (z14, t10.2)).bind fun v_rows_here_15 => M.ok (v_rows_here_15.2, v_rows_here_15.1)) xs (l, acc) = .ok (l', T) ∧ T.length = acc.length + xs.length ∧ (∀ r ∈ T, r.length = w ∧ ∀ x ∈ r, x.natAbs ≤ m) ∧ St l' := by
    intro xs
    induction xs with
    | nil => exact fun l acc hl _ ha => ⟨acc, l, rfl, rfl, ha, hl⟩
    | cons x xs ih =>
      intro l acc hl hc ha
      rw [List.length_cons] at hc
      obtain ⟨v, l1, e1, lv, bv, h1⟩ := lrow_ok (m := (m : Int)) (by omega) (by omega) (upto w) l (by rw [upto_length]; omega) hl
      rw [Int.toNat_natCast] at bv
      rw [upto_length] at lv
      obtain ⟨T, l', e2, lT, hT, h2⟩ := ih l1 (acc ++ [v]) h1 (by simp; omega) (fun r hr => by
        rcases List.mem_append.mp hr with hr | hr
        · exact ha r hr
        · rw [List.mem_singleton.mp hr]; exact ⟨lv, bv⟩)
      refine ⟨T, l', ?_, by rw [lT]; simp; omega, hT, h2⟩
      rw [foldM_cons (s' := (l1, acc ++ [v])), e2]
      rw [rng1M_ok (by omega), okb]
      dsimp only
      rw [e1, okb, appM_ok (by omega), okb, okb]
  obtain ⟨T, l1, e1, lT, hT, h1⟩ := fold (upto h) l [] hl (by rw [upto_length]; simp; omega) (fun r hr => absurd hr (List.not_mem_nil))
  rw [List.length_nil, upto_length, Nat.zero_add] at lT
  unfold q_lrows
  rw [okb, rng1M_ok (by omega), okb, e1, okb]
  dsimp only
  have up : ∀ r ∈ T, r.length = w ∧ ∀ x ∈ r, x.natAbs ≤ 2 * m := fun r hr => ⟨(hT r hr).1, fun x hx => by have := (hT r hr).2 x hx; omega⟩
  by_cases hh1 : (1 : Int) < (h : Int)
  · obtain ⟨v, l2, e2, _, _, h2⟩ := take_ok (m := 5) h1 (by decide) (by decide)
    rw [if_pos (decide_eq_true hh1), e2, okb, okb]
    dsimp only
    by_cases hv : v = 0
    · obtain ⟨r0, T', rfl⟩ : ∃ r0 T', T = r0 :: T' := by
        cases T with
        | nil => simp at lT; omega
        | cons r0 T' => exact ⟨r0, T', rfl⟩
      have hr0 := hT r0 (List.mem_cons_self ..)
      rw [if_pos (decide_eq_true hv), rng1M_ok (by omega), okb]
      rw [lcM_map (g := fun a => r0.getD a.toNat 0 * 2) (by rw [upto_length]; omega) fun a ha => ?_, okb]
      · have es : ((h : Int) - 1) = ((h - 1 : Nat) : Int) := by omega
        rw [es, setM_nat (by omega), okb, okb, okb, okb]
        refine ⟨_, _, rfl, ⟨by rw [List.length_set]; exact lT, fun r hr => ?_⟩, h2⟩
        rcases List.mem_or_eq_of_mem_set hr with hr | rfl
        · exact up r hr
        · refine ⟨by rw [List.length_map, upto_length], fun x hx => ?_⟩
          obtain ⟨a, ha, rfl⟩ := List.mem_map.mp hx
          obtain ⟨k, hk, rfl⟩ := mem_upto.mp ha
          rw [Int.toNat_natCast]
          have := hr0.2 _ (show r0.getD k 0 ∈ r0 by
            rw [List.getD_eq_getElem?_getD, List.getElem?_eq_getElem (by omega)]
            exact List.getElem_mem (show k < r0.length by omega))
          omega
      · obtain ⟨k, hk, rfl⟩ := mem_upto.mp ha
        rw [idx_0, okb, idx_getD (by omega), okb, mulM_r (by decide), okb]
    · rw [if_neg (by rw [decide_eq_true_eq]; exact hv), okb, okb]
      exact ⟨_, _, rfl, ⟨lT, up⟩, h2⟩
  · rw [if_neg (by rw [decide_eq_true_eq]; exact hh1), okb]
    dsimp only
    rw [if_neg Bool.false_ne_true, okb, okb]
    exact ⟨_, _, rfl, ⟨lT, up⟩, h1⟩
namespace K02
theorem e_state : m_law_state = q_state := rfl
theorem e_take : m_law_take = q_take := rfl
theorem e_rows : m_law_rows = q_lrows := rfl
theorem e_det : m_determinant = Gd.q_determinant := rfl
theorem e_ginit : m_Grid_init = q_Grid_init_2 := rfl
end K02
end L2.VD

namespace L2.VD
open PySem PySem.Spec PyProof.Rows
def at2 (T : List (List Int)) (i j : Nat) : Int := (T.getD i []).getD j 0
theorem idx_D {α : Type} {r : List α} {k : Nat} (d : α) (h : k < r.length) : idxM r (k : Int) = .ok (r.getD k d) := by
  rw [idxM_nat h, List.getD_eq_getElem?_getD, List.getElem?_eq_getElem h]
  rfl
theorem mem_getD {α : Type} {r : List α} {k : Nat} (d : α) (h : k < r.length) : r.getD k d ∈ r := by
  rw [List.getD_eq_getElem?_getD, List.getElem?_eq_getElem h]
  exact List.getElem_mem h
theorem len1 {α : Type} {v : List α} (h : v.length = 1) : ∃ a, v = [a] := by
  match v, h with
  | [a], _ => exact ⟨a, rfl⟩
theorem len2 {α : Type} {v : List α} (h : v.length = 2) : ∃ a b, v = [a, b] := by
  match v, h with
  | [a, b], _ => exact ⟨a, b, rfl⟩
theorem len3 {α : Type} {v : List α} (h : v.length = 3) : ∃ a b c, v = [a, b, c] := by
  match v, h with
  | [a, b, c], _ => exact ⟨a, b, c, rfl⟩
theorem len4 {α : Type} {v : List α} (h : v.length = 4) : ∃ a b c d, v = [a, b, c, d] := by
  match v, h with
  | [a, b, c, d], _ => exact ⟨a, b, c, d, rfl⟩
section
variable {α : Type}
@[simp] theorem cutT0 (as : List α) : cutL as none (some 0) = [] := (cut_take (k := 0)).trans (List.take_zero)
@[simp] theorem cutT1 (a : α) (as : List α) : cutL (a :: as) none (some 1) = [a] := cut_take (k := 1)
@[simp] theorem cutT2 (a b : α) (as : List α) : cutL (a :: b :: as) none (some 2) = [a, b] := cut_take (k := 2)
@[simp] theorem cutT3 (a b c : α) (as : List α) : cutL (a :: b :: c :: as) none (some 3) = [a, b, c] := cut_take (k := 3)
@[simp] theorem cutT4 (a b c d : α) (as : List α) : cutL (a :: b :: c :: d :: as) none (some 4) = [a, b, c, d] := cut_take (k := 4)
@[simp] theorem cutD2 (a b : α) (as : List α) : cutL (a :: b :: as) (some 2) none = as := cut_drop (k := 2)
@[simp] theorem cutD3 (a b c : α) (as : List α) : cutL (a :: b :: c :: as) (some 3) none = as := cut_drop (k := 3)
@[simp] theorem cutD4 (a b c d : α) (as : List α) : cutL (a :: b :: c :: d :: as) (some 4) none = as := cut_drop (k := 4)
end
end L2.VD

namespace L2.VD
open PySem PySem.Spec PyProof.Rows
abbrev Tab := List (List Int)
def Sh (T : Tab) (m w : Nat) : Prop := T.length = m ∧ ∀ r ∈ T, r.length = w
theorem tab1 {T : Tab} {w : Nat} (h : Sh T 1 w) : ∃ x, T = [x] ∧ x.length = w := by
  obtain ⟨h1, h2⟩ := h
  match T, h1 with
  | [x], _ => exact ⟨x, rfl, h2 x (by simp)⟩
theorem tab2 {T : Tab} {w : Nat} (h : Sh T 2 w) : ∃ x y, T = [x, y] ∧ x.length = w ∧ y.length = w := by
  obtain ⟨h1, h2⟩ := h
  match T, h1 with
  | [x, y], _ => exact ⟨x, y, rfl, h2 x (by simp), h2 y (by simp)⟩
theorem tab3 {T : Tab} {w : Nat} (h : Sh T 3 w) : ∃ x y z, T = [x, y, z] ∧ x.length = w ∧ y.length = w ∧ z.length = w := by
  obtain ⟨h1, h2⟩ := h
  match T, h1 with
  | [x, y, z], _ => exact ⟨x, y, z, rfl, h2 x (by simp), h2 y (by simp), h2 z (by simp)⟩
theorem tab4 {T : Tab} {w : Nat} (h : Sh T 4 w) : ∃ x y z t, T = [x, y, z, t] ∧ x.length = w ∧ y.length = w ∧ z.length = w ∧ t.length = w := by
  obtain ⟨x, y, z, t, rfl⟩ := len4 h.1
  exact ⟨x, y, z, t, rfl, h.2 x (by simp), h.2 y (by simp), h.2 z (by simp), h.2 t (by simp)⟩
end L2.VD

namespace L2.VD
open PySem PySem.Spec PyProof.Rows
def dropR (T : Tab) (i : Nat) : Tab := T.take i ++ T.drop (i + 1)
def dropC (T : Tab) (k : Nat) : Tab := T.map fun r => r.take k ++ r.drop (k + 1)
def cofD : Nat → Tab → Int
  | 0, _ => 1
  | n + 1, T => ((List.range (n + 1)).map fun (k : Nat) => (1 - 2 * (k : Int).fmod 2) * (T.headD []).getD k 0 * cofD n (dropC T.tail k)).sum
def Bt (m : Nat) (T : Tab) : Prop := ∀ r ∈ T, Bl m r
theorem Bt.mono {m n : Nat} {T : Tab} (h : Bt m T) (hn : m ≤ n) : Bt n T := fun r hr x hx => (h r hr x hx).mono hn
theorem drop_len {r : List Int} {k n : Nat} (h : r.length = n + 1) (hk : k < n + 1) : (r.take k ++ r.drop (k + 1)).length = n := by
  rw [List.length_append, List.length_take, List.length_drop]; omega
theorem mem_drop {α : Type} {r : List α} {k : Nat} {x : α} (h : x ∈ r.take k ++ r.drop (k + 1)) : x ∈ r := (List.mem_append.mp h).elim List.mem_of_mem_take List.mem_of_mem_drop
theorem dropC_sh {T : Tab} {m n k : Nat} (h : Sh T m (n + 1)) (hk : k < n + 1) : Sh (dropC T k) m n := ⟨by unfold dropC; rw [List.length_map]; exact h.1, fun r hr => by
  obtain ⟨q, hq, rfl⟩ := List.mem_map.mp hr
  exact drop_len (h.2 q hq) hk⟩
theorem dropC_bt {T : Tab} {m k : Nat} (h : Bt m T) : Bt m (dropC T k) := fun r hr => by
  obtain ⟨q, hq, rfl⟩ := List.mem_map.mp hr
  exact fun x hx => h q hq x (mem_drop hx)
theorem dropR_sh {T : Tab} {m n i : Nat} (h : Sh T (m + 1) n) (hi : i < m + 1) : Sh (dropR T i) m n := ⟨by unfold dropR; rw [List.length_append, List.length_take, List.length_drop, h.1]; omega, fun r hr => h.2 r (mem_drop hr)⟩
theorem dropR_bt {T : Tab} {m i : Nat} (h : Bt m T) : Bt m (dropR T i) := fun r hr => h r (mem_drop hr)
theorem Bn.zero {m : Nat} : Bn m 0 := Nat.pow_pos (by decide)
theorem Bn.mul1 {m : Nat} {c x : Int} (hc : c.natAbs ≤ 1) (h : Bn m x) : Bn m (c * x) := by
  unfold Bn at *
  rw [Int.natAbs_mul]
  exact Nat.lt_of_le_of_lt (Nat.mul_le_mul_right _ hc) (by rw [Nat.one_mul]; exact h)
theorem Bn.sum {m : Nat} {l : List Int} (h : ∀ x ∈ l, Bn m x) (hl : l.length ≤ 8) : Bn (m + 3) l.sum := by
  have go : ∀ l : List Int, (∀ x ∈ l, Bn m x) → l.sum.natAbs ≤ l.length * 2 ^ m := fun l => by
    induction l with
    | nil => intro _; exact Nat.zero_le _
    | cons a l ih =>
      intro h
      have h0 : a.natAbs < 2 ^ m := h a (List.mem_cons_self ..)
      have h1 := ih fun x hx => h x (List.mem_cons_of_mem _ hx)
      rw [List.sum_cons, List.length_cons, Nat.succ_mul]
      omega
  rcases Nat.lt_or_ge l.length 8 with h8 | h8
  · have := go l h
    unfold Bn
    rw [Nat.pow_add]
    refine Nat.lt_of_le_of_lt this ?_
    rw [Nat.mul_comm]
    exact Nat.mul_lt_mul_of_pos_left h8 (Nat.pow_pos (by decide))
  · cases l with
    | nil => exact Bn.zero
    | cons a l =>
      have h0 : a.natAbs < 2 ^ m := h a (List.mem_cons_self ..)
      have h1 := go l fun x hx => h x (List.mem_cons_of_mem _ hx)
      rw [List.length_cons] at hl h8
      have e : l.length = 7 := by omega
      rw [e] at h1
      unfold Bn
      rw [List.sum_cons, Nat.pow_add]
      have : (2 : Nat) ^ 3 = 8 := rfl
      rw [this]
      omega
theorem sgn1 {k : Int} : (1 - 2 * k.fmod 2).natAbs ≤ 1 := by
  have h0 := Int.fmod_nonneg_of_pos k (show (0 : Int) < 2 by decide)
  have h1 := Int.fmod_lt_of_pos k (show (0 : Int) < 2 by decide)
  omega
theorem cofD_bn {m : Nat} : ∀ {n : Nat} {T : Tab}, n ≤ 7 → Sh T n n → Bt m T → Bn ((m + 3) * n + 1) (cofD n T) := by
  intro n
  induction n with
  | zero => intro T _ _ _; exact Gd.bn_one (by omega)
  | succ n ih =>
    intro T hn hS hB
    obtain ⟨r, T', rfl⟩ : ∃ r T', T = r :: T' := by
      cases T with
      | nil => exact absurd hS.1 (by simp)
      | cons r T' => exact ⟨r, T', rfl⟩
    have hS' : Sh T' n (n + 1) := ⟨by have := hS.1; rw [List.length_cons] at this; omega, fun x hx => hS.2 x (List.mem_cons_of_mem _ hx)⟩
    have lr := hS.2 r (List.mem_cons_self ..)
    unfold cofD
    have := Bn.sum (m := m + ((m + 3) * n + 1)) (l := (List.range (n + 1)).map fun (k : Nat) => (1 - 2 * (k : Int).fmod 2) * r.getD k 0 * cofD n (dropC T' k)) (fun x hx => by
      obtain ⟨k, hk, rfl⟩ := List.mem_map.mp hx
      have hk := List.mem_range.mp hk
      have hx : Bn m (r.getD k 0) := hB r (List.mem_cons_self ..) _ (mem_getD 0 (by rw [lr]; exact hk))
      exact (Bn.mul1 sgn1 hx).mul (ih (by omega) (dropC_sh hS' hk) (dropC_bt fun x hx => hB x (List.mem_cons_of_mem _ hx)))) (by rw [List.length_map, List.length_range]; omega)
    exact this.mono (by rw [Nat.mul_succ]; omega)
theorem cofD_one (a : Int) : cofD 1 [[a]] = a := by
  show (1 - 2 * ((0 : Nat) : Int).fmod 2) * a * 1 + 0 = a
  rw [show ((0 : Nat) : Int).fmod 2 = 0 from rfl]; omega
theorem cofD_two (a b c d : Int) : cofD 2 [[a, b], [c, d]] = D2 a b c d := by
  show (1 - 2 * ((0 : Nat) : Int).fmod 2) * a * cofD 1 [[d]] + ((1 - 2 * ((1 : Nat) : Int).fmod 2) * b * cofD 1 [[c]] + 0) = _
  rw [cofD_one, cofD_one, show ((0 : Nat) : Int).fmod 2 = 0 from rfl, show ((1 : Nat) : Int).fmod 2 = 1 from rfl]
  unfold D2; grind
theorem cofD_three (a0 a1 a2 b0 b1 b2 c0 c1 c2 : Int) : cofD 3 [[a0, a1, a2], [b0, b1, b2], [c0, c1, c2]] = D3 a0 a1 a2 b0 b1 b2 c0 c1 c2 := by
  show (1 - 2 * ((0 : Nat) : Int).fmod 2) * a0 * cofD 2 [[b1, b2], [c1, c2]] + ((1 - 2 * ((1 : Nat) : Int).fmod 2) * a1 * cofD 2 [[b0, b2], [c0, c2]] + ((1 - 2 * ((2 : Nat) : Int).fmod 2) * a2 * cofD 2 [[b0, b1], [c0, c1]] + 0)) = _
  rw [cofD_two, cofD_two, cofD_two, show ((0 : Nat) : Int).fmod 2 = 0 from rfl, show ((1 : Nat) : Int).fmod 2 = 1 from rfl, show ((2 : Nat) : Int).fmod 2 = 0 from rfl]
  unfold D3; grind
theorem cofD_four (a0 a1 a2 a3 b0 b1 b2 b3 c0 c1 c2 c3 d0 d1 d2 d3 : Int) : cofD 4 [[a0, a1, a2, a3], [b0, b1, b2, b3], [c0, c1, c2, c3], [d0, d1, d2, d3]] = D4 a0 a1 a2 a3 b0 b1 b2 b3 c0 c1 c2 c3 d0 d1 d2 d3 := by
  show (1 - 2 * ((0 : Nat) : Int).fmod 2) * a0 * cofD 3 [[b1, b2, b3], [c1, c2, c3], [d1, d2, d3]] + ((1 - 2 * ((1 : Nat) : Int).fmod 2) * a1 * cofD 3 [[b0, b2, b3], [c0, c2, c3], [d0, d2, d3]] + ((1 - 2 * ((2 : Nat) : Int).fmod 2) * a2 * cofD 3 [[b0, b1, b3], [c0, c1, c3], [d0, d1, d3]] + ((1 - 2 * ((3 : Nat) : Int).fmod 2) * a3 * cofD 3 [[b0, b1, b2], [c0, c1, c2], [d0, d1, d2]] + 0))) = _
  rw [cofD_three, cofD_three, cofD_three, cofD_three, show ((0 : Nat) : Int).fmod 2 = 0 from rfl, show ((1 : Nat) : Int).fmod 2 = 1 from rfl, show ((2 : Nat) : Int).fmod 2 = 0 from rfl, show ((3 : Nat) : Int).fmod 2 = 1 from rfl]
  unfold D4; grind
theorem gdet_ok {n : Nat} {T : Tab} (hn : n ≤ 4) (hS : Sh T n n) (hB : Bt 1100000 T) : Gd.q_determinant T = .ok (cofD n T) := by
  have h : n = 0 ∨ n = 1 ∨ n = 2 ∨ n = 3 ∨ n = 4 := by omega
  rcases h with rfl | rfl | rfl | rfl | rfl
  · rw [List.eq_nil_of_length_eq_zero hS.1]
    exact Gd.det0
  · obtain ⟨x, rfl, l1⟩ := tab1 hS
    obtain ⟨a, rfl⟩ := len1 l1
    rw [Gd.det1 (hB _ (by simp)), cofD_one]
  · obtain ⟨x, y, rfl, l1, l2⟩ := tab2 hS
    obtain ⟨a, b, rfl⟩ := len2 l1
    obtain ⟨c, d, rfl⟩ := len2 l2
    rw [Gd.det2 (hB _ (by simp)) (hB _ (by simp)), cofD_two]
  · obtain ⟨x, y, z, rfl, l1, l2, l3⟩ := tab3 hS
    obtain ⟨a, b, c, rfl⟩ := len3 l1
    obtain ⟨d, e, f, rfl⟩ := len3 l2
    obtain ⟨g, h, i, rfl⟩ := len3 l3
    rw [Gd.det3 (hB _ (by simp)) (hB _ (by simp)) (hB _ (by simp)), cofD_three]
  · obtain ⟨x, y, z, t, rfl, l1, l2, l3, l4⟩ := tab4 hS
    obtain ⟨a, b, c, d, rfl⟩ := len4 l1
    obtain ⟨e, f, g, h, rfl⟩ := len4 l2
    obtain ⟨i, j, k, l, rfl⟩ := len4 l3
    obtain ⟨m, n, o, p, rfl⟩ := len4 l4
    rw [Gd.det4 (hB _ (by simp)) (hB _ (by simp)) (hB _ (by simp)) (hB _ (by simp)), cofD_four]
def q_ldetF : Nat → (List (List Int)) → M (Int)
  | 0, _ => .bad
  | n + 1, v_rows_here =>
  if (decide ((v_rows_here.length : Int) = (0 : Int))) = true then
  M.ok (1 : Int)
  else
  (M.ok (0 : Int)).bind fun v_total_1 =>
  ((rng1M (v_rows_here.length : Int)).bind fun r2 =>
  foldM (fun (s3 : Int) (a4 : Int) =>
    ((idxM v_rows_here (0 : Int)).bind fun t7 =>
  (idxM t7 a4).bind fun t8 =>
  if (!decide (t8 = (0 : Int))) = true then ((lcM (cutL v_rows_here (some (1 : Int)) none) fun a10 =>
    (catM (cutL a10 none (some a4)) (cutL a10 (some (a4 + (1 : Int))) none)).bind fun t11 => M.ok t11).bind fun t12 => M.ok t12).bind fun v_minor_13 =>
  ((modM a4 (2 : Int)).bind fun t14 =>
  (mulM (2 : Int) t14).bind fun t15 =>
  (idxM v_rows_here (0 : Int)).bind fun t16 =>
  (idxM t16 a4).bind fun t17 =>
  (mulM ((1 : Int) - t15) t17).bind fun t18 =>
  (q_ldetF n v_minor_13).bind fun t19 =>
  (mulM t18 t19).bind fun t20 => M.ok (s3 + t20)).bind fun v_total_21 => M.ok v_total_21 else M.ok s3).bind fun s22 => M.ok s22) r2 v_total_1).bind fun s24 => M.ok s24
theorem ldetF_ok {m : Nat} (hm : m ≤ 5000000) : ∀ {n f : Nat} {T : Tab}, n ≤ 7 → Sh T n n → Bt m T → q_ldetF (n + 1 + f) T = .ok (cofD n T) := by
  intro n
  induction n with
  | zero =>
    intro f T _ hS _
    rw [show 0 + 1 + f = f + 1 by omega]
    unfold q_ldetF
    rw [List.eq_nil_of_length_eq_zero hS.1]
    rfl
  | succ n ih =>
    intro f T hn hS hB
    obtain ⟨r, T', rfl⟩ : ∃ r T', T = r :: T' := by
      cases T with
      | nil => exact absurd hS.1 (by simp)
      | cons r T' => exact ⟨r, T', rfl⟩
    have hS' : Sh T' n (n + 1) := ⟨by have := hS.1; rw [List.length_cons] at this; omega, fun x hx => hS.2 x (List.mem_cons_of_mem _ hx)⟩
    have hB' : Bt m T' := fun x hx => hB x (List.mem_cons_of_mem _ hx)
    have lr := hS.2 r (List.mem_cons_self ..)
    rw [show n + 1 + 1 + f = (n + 1 + f) + 1 by omega]
    unfold q_ldetF
    rw [if_neg (by rw [decide_eq_true_eq, List.length_cons]; omega), okb, hS.1, rng1M_ok (by omega), okb]
    rw [foldM_sum (g := fun a => (1 - 2 * a.fmod 2) * r.getD a.toNat 0 * cofD n (dropC T' a.toNat)) fun a ha s => ?_, okb, Int.zero_add]
    · have e : cofD (n + 1) (r :: T') = ((List.range (n + 1)).map fun (k : Nat) => (1 - 2 * (k : Int).fmod 2) * r.getD k 0 * cofD n (dropC T' k)).sum := rfl
      rw [e]
      unfold upto
      rw [List.map_map]
      rfl
    · obtain ⟨k, hk, rfl⟩ := mem_upto.mp ha
      rw [Int.toNat_natCast, idx_0, okb, idx_getD (by omega), okb]
      rw [Int.toNat_natCast]
      have hx : Bn m (r.getD k 0) := hB r (List.mem_cons_self ..) _ (mem_getD 0 (by rw [lr]; exact hk))
      by_cases h0 : r.getD k 0 = 0
      · rw [if_neg (by rw [decide_eq_true h0]; exact Bool.false_ne_true), okb, h0, Int.mul_zero, Int.zero_mul, Int.add_zero]
      · rw [if_pos (by rw [decide_eq_false h0]; rfl), cutL_1]
        rw [lcM_map (g := fun q => q.take k ++ q.drop (k + 1)) (by have := hS'.1; omega) fun q hq => ?_, okb, okb, modM_ok (by decide), okb, mulM_l (by decide), okb, okb, idx_getD (by omega), okb, Int.toNat_natCast]
        · have hc : (1 - 2 * (k : Int).fmod 2).natAbs ≤ 1 := sgn1
          have hd := cofD_bn (m := m) (by omega) (dropC_sh hS' hk) (dropC_bt hB')
          have hlt : (m + 3) * n + 1 ≤ 40000000 := by
            have : (m + 3) * n ≤ (m + 3) * 7 := Nat.mul_le_mul_left _ (by omega)
            omega
          have e : q_ldetF (n + 1 + f) (T'.map fun q => q.take k ++ q.drop (k + 1)) = .ok (cofD n (dropC T' k)) := ih (by omega) (dropC_sh hS' hk) (dropC_bt hB')
          rw [mulM_l (by omega), okb, e, okb, Gd.mulM_bn (Bn.mul1 hc hx) hd (by omega) hlt, okb, okb, okb]
        · rw [cut_take, cut_gt (k := k + 1) _ (by omega), catM_ok (by
            have := hS'.2 q hq
            rw [List.length_take, List.length_drop]; omega), okb]
end L2.VD

namespace L2.VD
open PySem PySem.Spec PyProof.Rows
def sgZ (i k : Nat) : Int := 1 - 2 * ((i : Int) + (k : Int)).fmod 2
theorem m1z (x : Int) : (-1 : Int) * x = -x := by omega
def adjT (n : Nat) (T : Tab) : Tab := (List.range n).map fun i => (List.range n).map fun k => sgZ i k * cofD (n - 1) (dropC (dropR T k) i)
def mulT (A B : Tab) (n w : Nat) : Tab := A.map fun r => (List.range w).map fun k => ((List.range n).map fun j => r.getD j 0 * at2 B j k).sum
def trT (T : Tab) (w : Nat) : Tab := (List.range w).map fun k => T.map fun r => r.getD k 0
theorem sgZ00 : sgZ 0 0 = 1 := rfl
theorem sgZ01 : sgZ 0 1 = -1 := rfl
theorem sgZ02 : sgZ 0 2 = 1 := rfl
theorem sgZ03 : sgZ 0 3 = -1 := rfl
theorem sgZ10 : sgZ 1 0 = -1 := rfl
theorem sgZ11 : sgZ 1 1 = 1 := rfl
theorem sgZ12 : sgZ 1 2 = -1 := rfl
theorem sgZ13 : sgZ 1 3 = 1 := rfl
theorem sgZ20 : sgZ 2 0 = 1 := rfl
theorem sgZ21 : sgZ 2 1 = -1 := rfl
theorem sgZ22 : sgZ 2 2 = 1 := rfl
theorem sgZ23 : sgZ 2 3 = -1 := rfl
theorem sgZ30 : sgZ 3 0 = -1 := rfl
theorem sgZ31 : sgZ 3 1 = 1 := rfl
theorem sgZ32 : sgZ 3 2 = -1 := rfl
theorem sgZ33 : sgZ 3 3 = 1 := rfl
theorem adjT1 (a0 : Int) : adjT 1 [[a0]] = [[1]] := by
  refine Eq.trans (b := [[sgZ 0 0 * cofD 0 []]]) (by kernel_rfl) ?_
  rw [sgZ00, Int.one_mul]; rfl
theorem gen1 {p0 t0 d : Int} (h00 : p0 * t0 + 0 = d) : ∀ i k, i < 1 → k < 1 → ((List.range 1).map fun j => at2 [[p0]] i j * at2 [[t0]] j k).sum = if i = k then d else 0 := by
  intro i k hi hk
  have hi : i = 0 := by omega
  have hk : k = 0 := by omega
  subst hi hk
  exact h00
theorem ad1_100 (a0 : Int) : a0 * 1 + 0 = a0 := by
  omega
theorem ad2_100 (a0 : Int) : 1 * a0 + 0 = a0 := by
  omega
theorem adjT2 (a0 a1 b0 b1 : Int) : adjT 2 [[a0, a1], [b0, b1]] = [[b1, -a1], [-b0, a0]] := by
  refine Eq.trans (b := [[sgZ 0 0 * cofD 1 [[b1]], sgZ 0 1 * cofD 1 [[a1]]], [sgZ 1 0 * cofD 1 [[b0]], sgZ 1 1 * cofD 1 [[a0]]]]) (by kernel_rfl) ?_
  simp only [sgZ00, sgZ01, sgZ10, sgZ11, cofD_one, m1z, Int.one_mul]
theorem gen2 {p0 p1 q0 q1 t0 t1 u0 u1 d : Int} (h00 : p0 * t0 + (p1 * u0 + 0) = d) (h01 : p0 * t1 + (p1 * u1 + 0) = 0) (h10 : q0 * t0 + (q1 * u0 + 0) = 0) (h11 : q0 * t1 + (q1 * u1 + 0) = d) : ∀ i k, i < 2 → k < 2 → ((List.range 2).map fun j => at2 [[p0, p1], [q0, q1]] i j * at2 [[t0, t1], [u0, u1]] j k).sum = if i = k then d else 0 := by
  intro i k hi hk
  have hi : i = 0 ∨ i = 1 := by omega
  have hk : k = 0 ∨ k = 1 := by omega
  rcases hi with rfl | rfl <;> rcases hk with rfl | rfl
  · exact h00
  · exact h01
  · exact h10
  · exact h11
theorem ad1_200 (a0 a1 b0 b1 : Int) : a0 * b1 + (a1 * -b0 + 0) = D2 a0 a1 b0 b1 := by
  unfold D2
  grind
theorem ad1_201 (a0 a1 b0 b1 : Int) : a0 * -a1 + (a1 * a0 + 0) = 0 := by
  grind
theorem ad1_210 (a0 a1 b0 b1 : Int) : b0 * b1 + (b1 * -b0 + 0) = 0 := by
  grind
theorem ad1_211 (a0 a1 b0 b1 : Int) : b0 * -a1 + (b1 * a0 + 0) = D2 a0 a1 b0 b1 := by
  unfold D2
  grind
theorem ad2_200 (a0 a1 b0 b1 : Int) : b1 * a0 + (-a1 * b0 + 0) = D2 a0 a1 b0 b1 := by
  unfold D2
  grind
theorem ad2_201 (a0 a1 b0 b1 : Int) : b1 * a1 + (-a1 * b1 + 0) = 0 := by
  grind
theorem ad2_210 (a0 a1 b0 b1 : Int) : -b0 * a0 + (a0 * b0 + 0) = 0 := by
  grind
theorem ad2_211 (a0 a1 b0 b1 : Int) : -b0 * a1 + (a0 * b1 + 0) = D2 a0 a1 b0 b1 := by
  unfold D2
  grind
theorem adjT3 (a0 a1 a2 b0 b1 b2 c0 c1 c2 : Int) : adjT 3 [[a0, a1, a2], [b0, b1, b2], [c0, c1, c2]] = [[D2 b1 b2 c1 c2, -(D2 a1 a2 c1 c2), D2 a1 a2 b1 b2], [-(D2 b0 b2 c0 c2), D2 a0 a2 c0 c2, -(D2 a0 a2 b0 b2)], [D2 b0 b1 c0 c1, -(D2 a0 a1 c0 c1), D2 a0 a1 b0 b1]] := by
  refine Eq.trans (b := [[sgZ 0 0 * cofD 2 [[b1, b2], [c1, c2]], sgZ 0 1 * cofD 2 [[a1, a2], [c1, c2]], sgZ 0 2 * cofD 2 [[a1, a2], [b1, b2]]], [sgZ 1 0 * cofD 2 [[b0, b2], [c0, c2]], sgZ 1 1 * cofD 2 [[a0, a2], [c0, c2]], sgZ 1 2 * cofD 2 [[a0, a2], [b0, b2]]], [sgZ 2 0 * cofD 2 [[b0, b1], [c0, c1]], sgZ 2 1 * cofD 2 [[a0, a1], [c0, c1]], sgZ 2 2 * cofD 2 [[a0, a1], [b0, b1]]]]) (by kernel_rfl) ?_
  simp only [sgZ00, sgZ01, sgZ02, sgZ10, sgZ11, sgZ12, sgZ20, sgZ21, sgZ22, cofD_two, m1z, Int.one_mul]
theorem gen3 {p0 p1 p2 q0 q1 q2 r0 r1 r2 t0 t1 t2 u0 u1 u2 v0 v1 v2 d : Int} (h00 : p0 * t0 + (p1 * u0 + (p2 * v0 + 0)) = d) (h01 : p0 * t1 + (p1 * u1 + (p2 * v1 + 0)) = 0) (h02 : p0 * t2 + (p1 * u2 + (p2 * v2 + 0)) = 0) (h10 : q0 * t0 + (q1 * u0 + (q2 * v0 + 0)) = 0) (h11 : q0 * t1 + (q1 * u1 + (q2 * v1 + 0)) = d) (h12 : q0 * t2 + (q1 * u2 + (q2 * v2 + 0)) = 0) (h20 : r0 * t0 + (r1 * u0 + (r2 * v0 + 0)) = 0) (h21 : r0 * t1 + (r1 * u1 + (r2 * v1 + 0)) = 0) (h22 : r0 * t2 + (r1 * u2 + (r2 * v2 + 0)) = d) : ∀ i k, i < 3 → k < 3 → ((List.range 3).map fun j => at2 [[p0, p1, p2], [q0, q1, q2], [r0, r1, r2]] i j * at2 [[t0, t1, t2], [u0, u1, u2], [v0, v1, v2]] j k).sum = if i = k then d else 0 := by
  intro i k hi hk
  have hi : i = 0 ∨ i = 1 ∨ i = 2 := by omega
  have hk : k = 0 ∨ k = 1 ∨ k = 2 := by omega
  rcases hi with rfl | rfl | rfl <;> rcases hk with rfl | rfl | rfl
  · exact h00
  · exact h01
  · exact h02
  · exact h10
  · exact h11
  · exact h12
  · exact h20
  · exact h21
  · exact h22
theorem ad1_300 (a0 a1 a2 b0 b1 b2 c0 c1 c2 : Int) : a0 * (D2 b1 b2 c1 c2) + (a1 * (-(D2 b0 b2 c0 c2)) + (a2 * (D2 b0 b1 c0 c1) + 0)) = D3 a0 a1 a2 b0 b1 b2 c0 c1 c2 := by
  unfold D3 D2
  grind
theorem ad1_301 (a0 a1 a2 b0 b1 b2 c0 c1 c2 : Int) : a0 * (-(D2 a1 a2 c1 c2)) + (a1 * (D2 a0 a2 c0 c2) + (a2 * (-(D2 a0 a1 c0 c1)) + 0)) = 0 := by
  unfold D2
  grind
theorem ad1_302 (a0 a1 a2 b0 b1 b2 c0 c1 c2 : Int) : a0 * (D2 a1 a2 b1 b2) + (a1 * (-(D2 a0 a2 b0 b2)) + (a2 * (D2 a0 a1 b0 b1) + 0)) = 0 := by
  unfold D2
  grind
theorem ad1_310 (a0 a1 a2 b0 b1 b2 c0 c1 c2 : Int) : b0 * (D2 b1 b2 c1 c2) + (b1 * (-(D2 b0 b2 c0 c2)) + (b2 * (D2 b0 b1 c0 c1) + 0)) = 0 := by
  unfold D2
  grind
theorem ad1_311 (a0 a1 a2 b0 b1 b2 c0 c1 c2 : Int) : b0 * (-(D2 a1 a2 c1 c2)) + (b1 * (D2 a0 a2 c0 c2) + (b2 * (-(D2 a0 a1 c0 c1)) + 0)) = D3 a0 a1 a2 b0 b1 b2 c0 c1 c2 := by
  unfold D3 D2
  grind
theorem ad1_312 (a0 a1 a2 b0 b1 b2 c0 c1 c2 : Int) : b0 * (D2 a1 a2 b1 b2) + (b1 * (-(D2 a0 a2 b0 b2)) + (b2 * (D2 a0 a1 b0 b1) + 0)) = 0 := by
  unfold D2
  grind
theorem ad1_320 (a0 a1 a2 b0 b1 b2 c0 c1 c2 : Int) : c0 * (D2 b1 b2 c1 c2) + (c1 * (-(D2 b0 b2 c0 c2)) + (c2 * (D2 b0 b1 c0 c1) + 0)) = 0 := by
  unfold D2
  grind
theorem ad1_321 (a0 a1 a2 b0 b1 b2 c0 c1 c2 : Int) : c0 * (-(D2 a1 a2 c1 c2)) + (c1 * (D2 a0 a2 c0 c2) + (c2 * (-(D2 a0 a1 c0 c1)) + 0)) = 0 := by
  unfold D2
  grind
theorem ad1_322 (a0 a1 a2 b0 b1 b2 c0 c1 c2 : Int) : c0 * (D2 a1 a2 b1 b2) + (c1 * (-(D2 a0 a2 b0 b2)) + (c2 * (D2 a0 a1 b0 b1) + 0)) = D3 a0 a1 a2 b0 b1 b2 c0 c1 c2 := by
  unfold D3 D2
  grind
theorem ad2_300 (a0 a1 a2 b0 b1 b2 c0 c1 c2 : Int) : (D2 b1 b2 c1 c2) * a0 + ((-(D2 a1 a2 c1 c2)) * b0 + ((D2 a1 a2 b1 b2) * c0 + 0)) = D3 a0 a1 a2 b0 b1 b2 c0 c1 c2 := by
  unfold D3 D2
  grind
theorem ad2_301 (a0 a1 a2 b0 b1 b2 c0 c1 c2 : Int) : (D2 b1 b2 c1 c2) * a1 + ((-(D2 a1 a2 c1 c2)) * b1 + ((D2 a1 a2 b1 b2) * c1 + 0)) = 0 := by
  unfold D2
  grind
theorem ad2_302 (a0 a1 a2 b0 b1 b2 c0 c1 c2 : Int) : (D2 b1 b2 c1 c2) * a2 + ((-(D2 a1 a2 c1 c2)) * b2 + ((D2 a1 a2 b1 b2) * c2 + 0)) = 0 := by
  unfold D2
  grind
theorem ad2_310 (a0 a1 a2 b0 b1 b2 c0 c1 c2 : Int) : (-(D2 b0 b2 c0 c2)) * a0 + ((D2 a0 a2 c0 c2) * b0 + ((-(D2 a0 a2 b0 b2)) * c0 + 0)) = 0 := by
  unfold D2
  grind
theorem ad2_311 (a0 a1 a2 b0 b1 b2 c0 c1 c2 : Int) : (-(D2 b0 b2 c0 c2)) * a1 + ((D2 a0 a2 c0 c2) * b1 + ((-(D2 a0 a2 b0 b2)) * c1 + 0)) = D3 a0 a1 a2 b0 b1 b2 c0 c1 c2 := by
  unfold D3 D2
  grind
theorem ad2_312 (a0 a1 a2 b0 b1 b2 c0 c1 c2 : Int) : (-(D2 b0 b2 c0 c2)) * a2 + ((D2 a0 a2 c0 c2) * b2 + ((-(D2 a0 a2 b0 b2)) * c2 + 0)) = 0 := by
  unfold D2
  grind
theorem ad2_320 (a0 a1 a2 b0 b1 b2 c0 c1 c2 : Int) : (D2 b0 b1 c0 c1) * a0 + ((-(D2 a0 a1 c0 c1)) * b0 + ((D2 a0 a1 b0 b1) * c0 + 0)) = 0 := by
  unfold D2
  grind
theorem ad2_321 (a0 a1 a2 b0 b1 b2 c0 c1 c2 : Int) : (D2 b0 b1 c0 c1) * a1 + ((-(D2 a0 a1 c0 c1)) * b1 + ((D2 a0 a1 b0 b1) * c1 + 0)) = 0 := by
  unfold D2
  grind
theorem ad2_322 (a0 a1 a2 b0 b1 b2 c0 c1 c2 : Int) : (D2 b0 b1 c0 c1) * a2 + ((-(D2 a0 a1 c0 c1)) * b2 + ((D2 a0 a1 b0 b1) * c2 + 0)) = D3 a0 a1 a2 b0 b1 b2 c0 c1 c2 := by
  unfold D3 D2
  grind
theorem adjT4 (a0 a1 a2 a3 b0 b1 b2 b3 c0 c1 c2 c3 d0 d1 d2 d3 : Int) : adjT 4 [[a0, a1, a2, a3], [b0, b1, b2, b3], [c0, c1, c2, c3], [d0, d1, d2, d3]] = [[D3 b1 b2 b3 c1 c2 c3 d1 d2 d3, -(D3 a1 a2 a3 c1 c2 c3 d1 d2 d3), D3 a1 a2 a3 b1 b2 b3 d1 d2 d3, -(D3 a1 a2 a3 b1 b2 b3 c1 c2 c3)], [-(D3 b0 b2 b3 c0 c2 c3 d0 d2 d3), D3 a0 a2 a3 c0 c2 c3 d0 d2 d3, -(D3 a0 a2 a3 b0 b2 b3 d0 d2 d3), D3 a0 a2 a3 b0 b2 b3 c0 c2 c3], [D3 b0 b1 b3 c0 c1 c3 d0 d1 d3, -(D3 a0 a1 a3 c0 c1 c3 d0 d1 d3), D3 a0 a1 a3 b0 b1 b3 d0 d1 d3, -(D3 a0 a1 a3 b0 b1 b3 c0 c1 c3)], [-(D3 b0 b1 b2 c0 c1 c2 d0 d1 d2), D3 a0 a1 a2 c0 c1 c2 d0 d1 d2, -(D3 a0 a1 a2 b0 b1 b2 d0 d1 d2), D3 a0 a1 a2 b0 b1 b2 c0 c1 c2]] := by
  refine Eq.trans (b := [[sgZ 0 0 * cofD 3 [[b1, b2, b3], [c1, c2, c3], [d1, d2, d3]], sgZ 0 1 * cofD 3 [[a1, a2, a3], [c1, c2, c3], [d1, d2, d3]], sgZ 0 2 * cofD 3 [[a1, a2, a3], [b1, b2, b3], [d1, d2, d3]], sgZ 0 3 * cofD 3 [[a1, a2, a3], [b1, b2, b3], [c1, c2, c3]]], [sgZ 1 0 * cofD 3 [[b0, b2, b3], [c0, c2, c3], [d0, d2, d3]], sgZ 1 1 * cofD 3 [[a0, a2, a3], [c0, c2, c3], [d0, d2, d3]], sgZ 1 2 * cofD 3 [[a0, a2, a3], [b0, b2, b3], [d0, d2, d3]], sgZ 1 3 * cofD 3 [[a0, a2, a3], [b0, b2, b3], [c0, c2, c3]]], [sgZ 2 0 * cofD 3 [[b0, b1, b3], [c0, c1, c3], [d0, d1, d3]], sgZ 2 1 * cofD 3 [[a0, a1, a3], [c0, c1, c3], [d0, d1, d3]], sgZ 2 2 * cofD 3 [[a0, a1, a3], [b0, b1, b3], [d0, d1, d3]], sgZ 2 3 * cofD 3 [[a0, a1, a3], [b0, b1, b3], [c0, c1, c3]]], [sgZ 3 0 * cofD 3 [[b0, b1, b2], [c0, c1, c2], [d0, d1, d2]], sgZ 3 1 * cofD 3 [[a0, a1, a2], [c0, c1, c2], [d0, d1, d2]], sgZ 3 2 * cofD 3 [[a0, a1, a2], [b0, b1, b2], [d0, d1, d2]], sgZ 3 3 * cofD 3 [[a0, a1, a2], [b0, b1, b2], [c0, c1, c2]]]]) (by kernel_rfl) ?_
  simp only [sgZ00, sgZ01, sgZ02, sgZ03, sgZ10, sgZ11, sgZ12, sgZ13, sgZ20, sgZ21, sgZ22, sgZ23, sgZ30, sgZ31, sgZ32, sgZ33, cofD_three, m1z, Int.one_mul]
theorem gen4 {p0 p1 p2 p3 q0 q1 q2 q3 r0 r1 r2 r3 s0 s1 s2 s3 t0 t1 t2 t3 u0 u1 u2 u3 v0 v1 v2 v3 w0 w1 w2 w3 d : Int} (h00 : p0 * t0 + (p1 * u0 + (p2 * v0 + (p3 * w0 + 0))) = d) (h01 : p0 * t1 + (p1 * u1 + (p2 * v1 + (p3 * w1 + 0))) = 0) (h02 : p0 * t2 + (p1 * u2 + (p2 * v2 + (p3 * w2 + 0))) = 0) (h03 : p0 * t3 + (p1 * u3 + (p2 * v3 + (p3 * w3 + 0))) = 0) (h10 : q0 * t0 + (q1 * u0 + (q2 * v0 + (q3 * w0 + 0))) = 0) (h11 : q0 * t1 + (q1 * u1 + (q2 * v1 + (q3 * w1 + 0))) = d) (h12 : q0 * t2 + (q1 * u2 + (q2 * v2 + (q3 * w2 + 0))) = 0) (h13 : q0 * t3 + (q1 * u3 + (q2 * v3 + (q3 * w3 + 0))) = 0) (h20 : r0 * t0 + (r1 * u0 + (r2 * v0 + (r3 * w0 + 0))) = 0) (h21 : r0 * t1 + (r1 * u1 + (r2 * v1 + (r3 * w1 + 0))) = 0) (h22 : r0 * t2 + (r1 * u2 + (r2 * v2 + (r3 * w2 + 0))) = d) (h23 : r0 * t3 + (r1 * u3 + (r2 * v3 + (r3 * w3 + 0))) = 0) (h30 : s0 * t0 + (s1 * u0 + (s2 * v0 + (s3 * w0 + 0))) = 0) (h31 : s0 * t1 + (s1 * u1 + (s2 * v1 + (s3 * w1 + 0))) = 0) (h32 : s0 * t2 + (s1 * u2 + (s2 * v2 + (s3 * w2 + 0))) = 0) (h33 : s0 * t3 + (s1 * u3 + (s2 * v3 + (s3 * w3 + 0))) = d) : ∀ i k, i < 4 → k < 4 → ((List.range 4).map fun j => at2 [[p0, p1, p2, p3], [q0, q1, q2, q3], [r0, r1, r2, r3], [s0, s1, s2, s3]] i j * at2 [[t0, t1, t2, t3], [u0, u1, u2, u3], [v0, v1, v2, v3], [w0, w1, w2, w3]] j k).sum = if i = k then d else 0 := by
  intro i k hi hk
  have hi : i = 0 ∨ i = 1 ∨ i = 2 ∨ i = 3 := by omega
  have hk : k = 0 ∨ k = 1 ∨ k = 2 ∨ k = 3 := by omega
  rcases hi with rfl | rfl | rfl | rfl <;> rcases hk with rfl | rfl | rfl | rfl
  · exact h00
  · exact h01
  · exact h02
  · exact h03
  · exact h10
  · exact h11
  · exact h12
  · exact h13
  · exact h20
  · exact h21
  · exact h22
  · exact h23
  · exact h30
  · exact h31
  · exact h32
  · exact h33
theorem ad1_400 (a0 a1 a2 a3 b0 b1 b2 b3 c0 c1 c2 c3 d0 d1 d2 d3 : Int) : a0 * (D3 b1 b2 b3 c1 c2 c3 d1 d2 d3) + (a1 * (-(D3 b0 b2 b3 c0 c2 c3 d0 d2 d3)) + (a2 * (D3 b0 b1 b3 c0 c1 c3 d0 d1 d3) + (a3 * (-(D3 b0 b1 b2 c0 c1 c2 d0 d1 d2)) + 0))) = D4 a0 a1 a2 a3 b0 b1 b2 b3 c0 c1 c2 c3 d0 d1 d2 d3 := by
  unfold D4 D3 D2
  grind
theorem ad1_401 (a0 a1 a2 a3 b0 b1 b2 b3 c0 c1 c2 c3 d0 d1 d2 d3 : Int) : a0 * (-(D3 a1 a2 a3 c1 c2 c3 d1 d2 d3)) + (a1 * (D3 a0 a2 a3 c0 c2 c3 d0 d2 d3) + (a2 * (-(D3 a0 a1 a3 c0 c1 c3 d0 d1 d3)) + (a3 * (D3 a0 a1 a2 c0 c1 c2 d0 d1 d2) + 0))) = 0 := by
  unfold D3 D2
  grind
theorem ad1_402 (a0 a1 a2 a3 b0 b1 b2 b3 c0 c1 c2 c3 d0 d1 d2 d3 : Int) : a0 * (D3 a1 a2 a3 b1 b2 b3 d1 d2 d3) + (a1 * (-(D3 a0 a2 a3 b0 b2 b3 d0 d2 d3)) + (a2 * (D3 a0 a1 a3 b0 b1 b3 d0 d1 d3) + (a3 * (-(D3 a0 a1 a2 b0 b1 b2 d0 d1 d2)) + 0))) = 0 := by
  unfold D3 D2
  grind
theorem ad1_403 (a0 a1 a2 a3 b0 b1 b2 b3 c0 c1 c2 c3 d0 d1 d2 d3 : Int) : a0 * (-(D3 a1 a2 a3 b1 b2 b3 c1 c2 c3)) + (a1 * (D3 a0 a2 a3 b0 b2 b3 c0 c2 c3) + (a2 * (-(D3 a0 a1 a3 b0 b1 b3 c0 c1 c3)) + (a3 * (D3 a0 a1 a2 b0 b1 b2 c0 c1 c2) + 0))) = 0 := by
  unfold D3 D2
  grind
theorem ad1_410 (a0 a1 a2 a3 b0 b1 b2 b3 c0 c1 c2 c3 d0 d1 d2 d3 : Int) : b0 * (D3 b1 b2 b3 c1 c2 c3 d1 d2 d3) + (b1 * (-(D3 b0 b2 b3 c0 c2 c3 d0 d2 d3)) + (b2 * (D3 b0 b1 b3 c0 c1 c3 d0 d1 d3) + (b3 * (-(D3 b0 b1 b2 c0 c1 c2 d0 d1 d2)) + 0))) = 0 := by
  unfold D3 D2
  grind
theorem ad1_411 (a0 a1 a2 a3 b0 b1 b2 b3 c0 c1 c2 c3 d0 d1 d2 d3 : Int) : b0 * (-(D3 a1 a2 a3 c1 c2 c3 d1 d2 d3)) + (b1 * (D3 a0 a2 a3 c0 c2 c3 d0 d2 d3) + (b2 * (-(D3 a0 a1 a3 c0 c1 c3 d0 d1 d3)) + (b3 * (D3 a0 a1 a2 c0 c1 c2 d0 d1 d2) + 0))) = D4 a0 a1 a2 a3 b0 b1 b2 b3 c0 c1 c2 c3 d0 d1 d2 d3 := by
  unfold D4 D3 D2
  grind
theorem ad1_412 (a0 a1 a2 a3 b0 b1 b2 b3 c0 c1 c2 c3 d0 d1 d2 d3 : Int) : b0 * (D3 a1 a2 a3 b1 b2 b3 d1 d2 d3) + (b1 * (-(D3 a0 a2 a3 b0 b2 b3 d0 d2 d3)) + (b2 * (D3 a0 a1 a3 b0 b1 b3 d0 d1 d3) + (b3 * (-(D3 a0 a1 a2 b0 b1 b2 d0 d1 d2)) + 0))) = 0 := by
  unfold D3 D2
  grind
theorem ad1_413 (a0 a1 a2 a3 b0 b1 b2 b3 c0 c1 c2 c3 d0 d1 d2 d3 : Int) : b0 * (-(D3 a1 a2 a3 b1 b2 b3 c1 c2 c3)) + (b1 * (D3 a0 a2 a3 b0 b2 b3 c0 c2 c3) + (b2 * (-(D3 a0 a1 a3 b0 b1 b3 c0 c1 c3)) + (b3 * (D3 a0 a1 a2 b0 b1 b2 c0 c1 c2) + 0))) = 0 := by
  unfold D3 D2
  grind
theorem ad1_420 (a0 a1 a2 a3 b0 b1 b2 b3 c0 c1 c2 c3 d0 d1 d2 d3 : Int) : c0 * (D3 b1 b2 b3 c1 c2 c3 d1 d2 d3) + (c1 * (-(D3 b0 b2 b3 c0 c2 c3 d0 d2 d3)) + (c2 * (D3 b0 b1 b3 c0 c1 c3 d0 d1 d3) + (c3 * (-(D3 b0 b1 b2 c0 c1 c2 d0 d1 d2)) + 0))) = 0 := by
  unfold D3 D2
  grind
theorem ad1_421 (a0 a1 a2 a3 b0 b1 b2 b3 c0 c1 c2 c3 d0 d1 d2 d3 : Int) : c0 * (-(D3 a1 a2 a3 c1 c2 c3 d1 d2 d3)) + (c1 * (D3 a0 a2 a3 c0 c2 c3 d0 d2 d3) + (c2 * (-(D3 a0 a1 a3 c0 c1 c3 d0 d1 d3)) + (c3 * (D3 a0 a1 a2 c0 c1 c2 d0 d1 d2) + 0))) = 0 := by
  unfold D3 D2
  grind
theorem ad1_422 (a0 a1 a2 a3 b0 b1 b2 b3 c0 c1 c2 c3 d0 d1 d2 d3 : Int) : c0 * (D3 a1 a2 a3 b1 b2 b3 d1 d2 d3) + (c1 * (-(D3 a0 a2 a3 b0 b2 b3 d0 d2 d3)) + (c2 * (D3 a0 a1 a3 b0 b1 b3 d0 d1 d3) + (c3 * (-(D3 a0 a1 a2 b0 b1 b2 d0 d1 d2)) + 0))) = D4 a0 a1 a2 a3 b0 b1 b2 b3 c0 c1 c2 c3 d0 d1 d2 d3 := by
  unfold D4 D3 D2
  grind
theorem ad1_423 (a0 a1 a2 a3 b0 b1 b2 b3 c0 c1 c2 c3 d0 d1 d2 d3 : Int) : c0 * (-(D3 a1 a2 a3 b1 b2 b3 c1 c2 c3)) + (c1 * (D3 a0 a2 a3 b0 b2 b3 c0 c2 c3) + (c2 * (-(D3 a0 a1 a3 b0 b1 b3 c0 c1 c3)) + (c3 * (D3 a0 a1 a2 b0 b1 b2 c0 c1 c2) + 0))) = 0 := by
  unfold D3 D2
  grind
theorem ad1_430 (a0 a1 a2 a3 b0 b1 b2 b3 c0 c1 c2 c3 d0 d1 d2 d3 : Int) : d0 * (D3 b1 b2 b3 c1 c2 c3 d1 d2 d3) + (d1 * (-(D3 b0 b2 b3 c0 c2 c3 d0 d2 d3)) + (d2 * (D3 b0 b1 b3 c0 c1 c3 d0 d1 d3) + (d3 * (-(D3 b0 b1 b2 c0 c1 c2 d0 d1 d2)) + 0))) = 0 := by
  unfold D3 D2
  grind
theorem ad1_431 (a0 a1 a2 a3 b0 b1 b2 b3 c0 c1 c2 c3 d0 d1 d2 d3 : Int) : d0 * (-(D3 a1 a2 a3 c1 c2 c3 d1 d2 d3)) + (d1 * (D3 a0 a2 a3 c0 c2 c3 d0 d2 d3) + (d2 * (-(D3 a0 a1 a3 c0 c1 c3 d0 d1 d3)) + (d3 * (D3 a0 a1 a2 c0 c1 c2 d0 d1 d2) + 0))) = 0 := by
  unfold D3 D2
  grind
theorem ad1_432 (a0 a1 a2 a3 b0 b1 b2 b3 c0 c1 c2 c3 d0 d1 d2 d3 : Int) : d0 * (D3 a1 a2 a3 b1 b2 b3 d1 d2 d3) + (d1 * (-(D3 a0 a2 a3 b0 b2 b3 d0 d2 d3)) + (d2 * (D3 a0 a1 a3 b0 b1 b3 d0 d1 d3) + (d3 * (-(D3 a0 a1 a2 b0 b1 b2 d0 d1 d2)) + 0))) = 0 := by
  unfold D3 D2
  grind
theorem ad1_433 (a0 a1 a2 a3 b0 b1 b2 b3 c0 c1 c2 c3 d0 d1 d2 d3 : Int) : d0 * (-(D3 a1 a2 a3 b1 b2 b3 c1 c2 c3)) + (d1 * (D3 a0 a2 a3 b0 b2 b3 c0 c2 c3) + (d2 * (-(D3 a0 a1 a3 b0 b1 b3 c0 c1 c3)) + (d3 * (D3 a0 a1 a2 b0 b1 b2 c0 c1 c2) + 0))) = D4 a0 a1 a2 a3 b0 b1 b2 b3 c0 c1 c2 c3 d0 d1 d2 d3 := by
  unfold D4 D3 D2
  grind
theorem ad2_400 (a0 a1 a2 a3 b0 b1 b2 b3 c0 c1 c2 c3 d0 d1 d2 d3 : Int) : (D3 b1 b2 b3 c1 c2 c3 d1 d2 d3) * a0 + ((-(D3 a1 a2 a3 c1 c2 c3 d1 d2 d3)) * b0 + ((D3 a1 a2 a3 b1 b2 b3 d1 d2 d3) * c0 + ((-(D3 a1 a2 a3 b1 b2 b3 c1 c2 c3)) * d0 + 0))) = D4 a0 a1 a2 a3 b0 b1 b2 b3 c0 c1 c2 c3 d0 d1 d2 d3 := by
  unfold D4 D3 D2
  grind
theorem ad2_401 (a0 a1 a2 a3 b0 b1 b2 b3 c0 c1 c2 c3 d0 d1 d2 d3 : Int) : (D3 b1 b2 b3 c1 c2 c3 d1 d2 d3) * a1 + ((-(D3 a1 a2 a3 c1 c2 c3 d1 d2 d3)) * b1 + ((D3 a1 a2 a3 b1 b2 b3 d1 d2 d3) * c1 + ((-(D3 a1 a2 a3 b1 b2 b3 c1 c2 c3)) * d1 + 0))) = 0 := by
  unfold D3 D2
  grind
theorem ad2_402 (a0 a1 a2 a3 b0 b1 b2 b3 c0 c1 c2 c3 d0 d1 d2 d3 : Int) : (D3 b1 b2 b3 c1 c2 c3 d1 d2 d3) * a2 + ((-(D3 a1 a2 a3 c1 c2 c3 d1 d2 d3)) * b2 + ((D3 a1 a2 a3 b1 b2 b3 d1 d2 d3) * c2 + ((-(D3 a1 a2 a3 b1 b2 b3 c1 c2 c3)) * d2 + 0))) = 0 := by
  unfold D3 D2
  grind
theorem ad2_403 (a0 a1 a2 a3 b0 b1 b2 b3 c0 c1 c2 c3 d0 d1 d2 d3 : Int) : (D3 b1 b2 b3 c1 c2 c3 d1 d2 d3) * a3 + ((-(D3 a1 a2 a3 c1 c2 c3 d1 d2 d3)) * b3 + ((D3 a1 a2 a3 b1 b2 b3 d1 d2 d3) * c3 + ((-(D3 a1 a2 a3 b1 b2 b3 c1 c2 c3)) * d3 + 0))) = 0 := by
  unfold D3 D2
  grind
theorem ad2_410 (a0 a1 a2 a3 b0 b1 b2 b3 c0 c1 c2 c3 d0 d1 d2 d3 : Int) : (-(D3 b0 b2 b3 c0 c2 c3 d0 d2 d3)) * a0 + ((D3 a0 a2 a3 c0 c2 c3 d0 d2 d3) * b0 + ((-(D3 a0 a2 a3 b0 b2 b3 d0 d2 d3)) * c0 + ((D3 a0 a2 a3 b0 b2 b3 c0 c2 c3) * d0 + 0))) = 0 := by
  unfold D3 D2
  grind
theorem ad2_411 (a0 a1 a2 a3 b0 b1 b2 b3 c0 c1 c2 c3 d0 d1 d2 d3 : Int) : (-(D3 b0 b2 b3 c0 c2 c3 d0 d2 d3)) * a1 + ((D3 a0 a2 a3 c0 c2 c3 d0 d2 d3) * b1 + ((-(D3 a0 a2 a3 b0 b2 b3 d0 d2 d3)) * c1 + ((D3 a0 a2 a3 b0 b2 b3 c0 c2 c3) * d1 + 0))) = D4 a0 a1 a2 a3 b0 b1 b2 b3 c0 c1 c2 c3 d0 d1 d2 d3 := by
  unfold D4 D3 D2
  grind
theorem ad2_412 (a0 a1 a2 a3 b0 b1 b2 b3 c0 c1 c2 c3 d0 d1 d2 d3 : Int) : (-(D3 b0 b2 b3 c0 c2 c3 d0 d2 d3)) * a2 + ((D3 a0 a2 a3 c0 c2 c3 d0 d2 d3) * b2 + ((-(D3 a0 a2 a3 b0 b2 b3 d0 d2 d3)) * c2 + ((D3 a0 a2 a3 b0 b2 b3 c0 c2 c3) * d2 + 0))) = 0 := by
  unfold D3 D2
  grind
theorem ad2_413 (a0 a1 a2 a3 b0 b1 b2 b3 c0 c1 c2 c3 d0 d1 d2 d3 : Int) : (-(D3 b0 b2 b3 c0 c2 c3 d0 d2 d3)) * a3 + ((D3 a0 a2 a3 c0 c2 c3 d0 d2 d3) * b3 + ((-(D3 a0 a2 a3 b0 b2 b3 d0 d2 d3)) * c3 + ((D3 a0 a2 a3 b0 b2 b3 c0 c2 c3) * d3 + 0))) = 0 := by
  unfold D3 D2
  grind
theorem ad2_420 (a0 a1 a2 a3 b0 b1 b2 b3 c0 c1 c2 c3 d0 d1 d2 d3 : Int) : (D3 b0 b1 b3 c0 c1 c3 d0 d1 d3) * a0 + ((-(D3 a0 a1 a3 c0 c1 c3 d0 d1 d3)) * b0 + ((D3 a0 a1 a3 b0 b1 b3 d0 d1 d3) * c0 + ((-(D3 a0 a1 a3 b0 b1 b3 c0 c1 c3)) * d0 + 0))) = 0 := by
  unfold D3 D2
  grind
theorem ad2_421 (a0 a1 a2 a3 b0 b1 b2 b3 c0 c1 c2 c3 d0 d1 d2 d3 : Int) : (D3 b0 b1 b3 c0 c1 c3 d0 d1 d3) * a1 + ((-(D3 a0 a1 a3 c0 c1 c3 d0 d1 d3)) * b1 + ((D3 a0 a1 a3 b0 b1 b3 d0 d1 d3) * c1 + ((-(D3 a0 a1 a3 b0 b1 b3 c0 c1 c3)) * d1 + 0))) = 0 := by
  unfold D3 D2
  grind
theorem ad2_422 (a0 a1 a2 a3 b0 b1 b2 b3 c0 c1 c2 c3 d0 d1 d2 d3 : Int) : (D3 b0 b1 b3 c0 c1 c3 d0 d1 d3) * a2 + ((-(D3 a0 a1 a3 c0 c1 c3 d0 d1 d3)) * b2 + ((D3 a0 a1 a3 b0 b1 b3 d0 d1 d3) * c2 + ((-(D3 a0 a1 a3 b0 b1 b3 c0 c1 c3)) * d2 + 0))) = D4 a0 a1 a2 a3 b0 b1 b2 b3 c0 c1 c2 c3 d0 d1 d2 d3 := by
  unfold D4 D3 D2
  grind
theorem ad2_423 (a0 a1 a2 a3 b0 b1 b2 b3 c0 c1 c2 c3 d0 d1 d2 d3 : Int) : (D3 b0 b1 b3 c0 c1 c3 d0 d1 d3) * a3 + ((-(D3 a0 a1 a3 c0 c1 c3 d0 d1 d3)) * b3 + ((D3 a0 a1 a3 b0 b1 b3 d0 d1 d3) * c3 + ((-(D3 a0 a1 a3 b0 b1 b3 c0 c1 c3)) * d3 + 0))) = 0 := by
  unfold D3 D2
  grind
theorem ad2_430 (a0 a1 a2 a3 b0 b1 b2 b3 c0 c1 c2 c3 d0 d1 d2 d3 : Int) : (-(D3 b0 b1 b2 c0 c1 c2 d0 d1 d2)) * a0 + ((D3 a0 a1 a2 c0 c1 c2 d0 d1 d2) * b0 + ((-(D3 a0 a1 a2 b0 b1 b2 d0 d1 d2)) * c0 + ((D3 a0 a1 a2 b0 b1 b2 c0 c1 c2) * d0 + 0))) = 0 := by
  unfold D3 D2
  grind
theorem ad2_431 (a0 a1 a2 a3 b0 b1 b2 b3 c0 c1 c2 c3 d0 d1 d2 d3 : Int) : (-(D3 b0 b1 b2 c0 c1 c2 d0 d1 d2)) * a1 + ((D3 a0 a1 a2 c0 c1 c2 d0 d1 d2) * b1 + ((-(D3 a0 a1 a2 b0 b1 b2 d0 d1 d2)) * c1 + ((D3 a0 a1 a2 b0 b1 b2 c0 c1 c2) * d1 + 0))) = 0 := by
  unfold D3 D2
  grind
theorem ad2_432 (a0 a1 a2 a3 b0 b1 b2 b3 c0 c1 c2 c3 d0 d1 d2 d3 : Int) : (-(D3 b0 b1 b2 c0 c1 c2 d0 d1 d2)) * a2 + ((D3 a0 a1 a2 c0 c1 c2 d0 d1 d2) * b2 + ((-(D3 a0 a1 a2 b0 b1 b2 d0 d1 d2)) * c2 + ((D3 a0 a1 a2 b0 b1 b2 c0 c1 c2) * d2 + 0))) = 0 := by
  unfold D3 D2
  grind
theorem ad2_433 (a0 a1 a2 a3 b0 b1 b2 b3 c0 c1 c2 c3 d0 d1 d2 d3 : Int) : (-(D3 b0 b1 b2 c0 c1 c2 d0 d1 d2)) * a3 + ((D3 a0 a1 a2 c0 c1 c2 d0 d1 d2) * b3 + ((-(D3 a0 a1 a2 b0 b1 b2 d0 d1 d2)) * c3 + ((D3 a0 a1 a2 b0 b1 b2 c0 c1 c2) * d3 + 0))) = D4 a0 a1 a2 a3 b0 b1 b2 b3 c0 c1 c2 c3 d0 d1 d2 d3 := by
  unfold D4 D3 D2
  grind
theorem adj_id1 {n : Nat} {T : Tab} (hn : n ≤ 4) (hS : Sh T n n) : ∀ i k, i < n → k < n → ((List.range n).map fun j => at2 T i j * at2 (adjT n T) j k).sum = if i = k then cofD n T else 0 := by
  have h : n = 0 ∨ n = 1 ∨ n = 2 ∨ n = 3 ∨ n = 4 := by omega
  rcases h with rfl | rfl | rfl | rfl | rfl
  · intro i k hi; omega
  · obtain ⟨x, rfl, lx⟩ := tab1 hS
    obtain ⟨a0, rfl⟩ := len1 lx
    rw [adjT1, cofD_one]
    exact gen1 (ad1_100 a0)
  · obtain ⟨x, y, rfl, lx, ly⟩ := tab2 hS
    obtain ⟨a0, a1, rfl⟩ := len2 lx
    obtain ⟨b0, b1, rfl⟩ := len2 ly
    rw [adjT2, cofD_two]
    exact gen2 (ad1_200 a0 a1 b0 b1) (ad1_201 a0 a1 b0 b1) (ad1_210 a0 a1 b0 b1) (ad1_211 a0 a1 b0 b1)
  · obtain ⟨x, y, z, rfl, lx, ly, lz⟩ := tab3 hS
    obtain ⟨a0, a1, a2, rfl⟩ := len3 lx
    obtain ⟨b0, b1, b2, rfl⟩ := len3 ly
    obtain ⟨c0, c1, c2, rfl⟩ := len3 lz
    rw [adjT3, cofD_three]
    exact gen3 (ad1_300 a0 a1 a2 b0 b1 b2 c0 c1 c2) (ad1_301 a0 a1 a2 b0 b1 b2 c0 c1 c2) (ad1_302 a0 a1 a2 b0 b1 b2 c0 c1 c2) (ad1_310 a0 a1 a2 b0 b1 b2 c0 c1 c2) (ad1_311 a0 a1 a2 b0 b1 b2 c0 c1 c2) (ad1_312 a0 a1 a2 b0 b1 b2 c0 c1 c2) (ad1_320 a0 a1 a2 b0 b1 b2 c0 c1 c2) (ad1_321 a0 a1 a2 b0 b1 b2 c0 c1 c2) (ad1_322 a0 a1 a2 b0 b1 b2 c0 c1 c2)
  · obtain ⟨x, y, z, t, rfl, lx, ly, lz, lt⟩ := tab4 hS
    obtain ⟨a0, a1, a2, a3, rfl⟩ := len4 lx
    obtain ⟨b0, b1, b2, b3, rfl⟩ := len4 ly
    obtain ⟨c0, c1, c2, c3, rfl⟩ := len4 lz
    obtain ⟨d0, d1, d2, d3, rfl⟩ := len4 lt
    rw [adjT4, cofD_four]
    exact gen4 (ad1_400 a0 a1 a2 a3 b0 b1 b2 b3 c0 c1 c2 c3 d0 d1 d2 d3) (ad1_401 a0 a1 a2 a3 b0 b1 b2 b3 c0 c1 c2 c3 d0 d1 d2 d3) (ad1_402 a0 a1 a2 a3 b0 b1 b2 b3 c0 c1 c2 c3 d0 d1 d2 d3) (ad1_403 a0 a1 a2 a3 b0 b1 b2 b3 c0 c1 c2 c3 d0 d1 d2 d3) (ad1_410 a0 a1 a2 a3 b0 b1 b2 b3 c0 c1 c2 c3 d0 d1 d2 d3) (ad1_411 a0 a1 a2 a3 b0 b1 b2 b3 c0 c1 c2 c3 d0 d1 d2 d3) (ad1_412 a0 a1 a2 a3 b0 b1 b2 b3 c0 c1 c2 c3 d0 d1 d2 d3) (ad1_413 a0 a1 a2 a3 b0 b1 b2 b3 c0 c1 c2 c3 d0 d1 d2 d3) (ad1_420 a0 a1 a2 a3 b0 b1 b2 b3 c0 c1 c2 c3 d0 d1 d2 d3) (ad1_421 a0 a1 a2 a3 b0 b1 b2 b3 c0 c1 c2 c3 d0 d1 d2 d3) (ad1_422 a0 a1 a2 a3 b0 b1 b2 b3 c0 c1 c2 c3 d0 d1 d2 d3) (ad1_423 a0 a1 a2 a3 b0 b1 b2 b3 c0 c1 c2 c3 d0 d1 d2 d3) (ad1_430 a0 a1 a2 a3 b0 b1 b2 b3 c0 c1 c2 c3 d0 d1 d2 d3) (ad1_431 a0 a1 a2 a3 b0 b1 b2 b3 c0 c1 c2 c3 d0 d1 d2 d3) (ad1_432 a0 a1 a2 a3 b0 b1 b2 b3 c0 c1 c2 c3 d0 d1 d2 d3) (ad1_433 a0 a1 a2 a3 b0 b1 b2 b3 c0 c1 c2 c3 d0 d1 d2 d3)
theorem adj_id2 {n : Nat} {T : Tab} (hn : n ≤ 4) (hS : Sh T n n) : ∀ i k, i < n → k < n → ((List.range n).map fun j => at2 (adjT n T) i j * at2 T j k).sum = if i = k then cofD n T else 0 := by
  have h : n = 0 ∨ n = 1 ∨ n = 2 ∨ n = 3 ∨ n = 4 := by omega
  rcases h with rfl | rfl | rfl | rfl | rfl
  · intro i k hi; omega
  · obtain ⟨x, rfl, lx⟩ := tab1 hS
    obtain ⟨a0, rfl⟩ := len1 lx
    rw [adjT1, cofD_one]
    exact gen1 (ad2_100 a0)
  · obtain ⟨x, y, rfl, lx, ly⟩ := tab2 hS
    obtain ⟨a0, a1, rfl⟩ := len2 lx
    obtain ⟨b0, b1, rfl⟩ := len2 ly
    rw [adjT2, cofD_two]
    exact gen2 (ad2_200 a0 a1 b0 b1) (ad2_201 a0 a1 b0 b1) (ad2_210 a0 a1 b0 b1) (ad2_211 a0 a1 b0 b1)
  · obtain ⟨x, y, z, rfl, lx, ly, lz⟩ := tab3 hS
    obtain ⟨a0, a1, a2, rfl⟩ := len3 lx
    obtain ⟨b0, b1, b2, rfl⟩ := len3 ly
    obtain ⟨c0, c1, c2, rfl⟩ := len3 lz
    rw [adjT3, cofD_three]
    exact gen3 (ad2_300 a0 a1 a2 b0 b1 b2 c0 c1 c2) (ad2_301 a0 a1 a2 b0 b1 b2 c0 c1 c2) (ad2_302 a0 a1 a2 b0 b1 b2 c0 c1 c2) (ad2_310 a0 a1 a2 b0 b1 b2 c0 c1 c2) (ad2_311 a0 a1 a2 b0 b1 b2 c0 c1 c2) (ad2_312 a0 a1 a2 b0 b1 b2 c0 c1 c2) (ad2_320 a0 a1 a2 b0 b1 b2 c0 c1 c2) (ad2_321 a0 a1 a2 b0 b1 b2 c0 c1 c2) (ad2_322 a0 a1 a2 b0 b1 b2 c0 c1 c2)
  · obtain ⟨x, y, z, t, rfl, lx, ly, lz, lt⟩ := tab4 hS
    obtain ⟨a0, a1, a2, a3, rfl⟩ := len4 lx
    obtain ⟨b0, b1, b2, b3, rfl⟩ := len4 ly
    obtain ⟨c0, c1, c2, c3, rfl⟩ := len4 lz
    obtain ⟨d0, d1, d2, d3, rfl⟩ := len4 lt
    rw [adjT4, cofD_four]
    exact gen4 (ad2_400 a0 a1 a2 a3 b0 b1 b2 b3 c0 c1 c2 c3 d0 d1 d2 d3) (ad2_401 a0 a1 a2 a3 b0 b1 b2 b3 c0 c1 c2 c3 d0 d1 d2 d3) (ad2_402 a0 a1 a2 a3 b0 b1 b2 b3 c0 c1 c2 c3 d0 d1 d2 d3) (ad2_403 a0 a1 a2 a3 b0 b1 b2 b3 c0 c1 c2 c3 d0 d1 d2 d3) (ad2_410 a0 a1 a2 a3 b0 b1 b2 b3 c0 c1 c2 c3 d0 d1 d2 d3) (ad2_411 a0 a1 a2 a3 b0 b1 b2 b3 c0 c1 c2 c3 d0 d1 d2 d3) (ad2_412 a0 a1 a2 a3 b0 b1 b2 b3 c0 c1 c2 c3 d0 d1 d2 d3) (ad2_413 a0 a1 a2 a3 b0 b1 b2 b3 c0 c1 c2 c3 d0 d1 d2 d3) (ad2_420 a0 a1 a2 a3 b0 b1 b2 b3 c0 c1 c2 c3 d0 d1 d2 d3) (ad2_421 a0 a1 a2 a3 b0 b1 b2 b3 c0 c1 c2 c3 d0 d1 d2 d3) (ad2_422 a0 a1 a2 a3 b0 b1 b2 b3 c0 c1 c2 c3 d0 d1 d2 d3) (ad2_423 a0 a1 a2 a3 b0 b1 b2 b3 c0 c1 c2 c3 d0 d1 d2 d3) (ad2_430 a0 a1 a2 a3 b0 b1 b2 b3 c0 c1 c2 c3 d0 d1 d2 d3) (ad2_431 a0 a1 a2 a3 b0 b1 b2 b3 c0 c1 c2 c3 d0 d1 d2 d3) (ad2_432 a0 a1 a2 a3 b0 b1 b2 b3 c0 c1 c2 c3 d0 d1 d2 d3) (ad2_433 a0 a1 a2 a3 b0 b1 b2 b3 c0 c1 c2 c3 d0 d1 d2 d3)
theorem mulD2 (a0 a1 b0 b1 p0 p1 q0 q1 : Int) : D2 (a0 * p0 + (a1 * q0 + 0)) (a0 * p1 + (a1 * q1 + 0)) (b0 * p0 + (b1 * q0 + 0)) (b0 * p1 + (b1 * q1 + 0)) = D2 a0 a1 b0 b1 * D2 p0 p1 q0 q1 := by
  unfold D2
  grind
theorem mulT2 (a0 a1 b0 b1 p0 p1 q0 q1 : Int) : mulT [[a0, a1], [b0, b1]] [[p0, p1], [q0, q1]] 2 2 = [[a0 * p0 + (a1 * q0 + 0), a0 * p1 + (a1 * q1 + 0)], [b0 * p0 + (b1 * q0 + 0), b0 * p1 + (b1 * q1 + 0)]] := by kernel_rfl
theorem trT2 (a0 a1 b0 b1 : Int) : trT [[a0, a1], [b0, b1]] 2 = [[a0, b0], [a1, b1]] := by kernel_rfl
theorem trD2 (a0 a1 b0 b1 : Int) : D2 a0 b0 a1 b1 = D2 a0 a1 b0 b1 := by
  unfold D2
  grind
theorem mulD3 (a0 a1 a2 b0 b1 b2 c0 c1 c2 p0 p1 p2 q0 q1 q2 r0 r1 r2 : Int) : D3 (a0 * p0 + (a1 * q0 + (a2 * r0 + 0))) (a0 * p1 + (a1 * q1 + (a2 * r1 + 0))) (a0 * p2 + (a1 * q2 + (a2 * r2 + 0))) (b0 * p0 + (b1 * q0 + (b2 * r0 + 0))) (b0 * p1 + (b1 * q1 + (b2 * r1 + 0))) (b0 * p2 + (b1 * q2 + (b2 * r2 + 0))) (c0 * p0 + (c1 * q0 + (c2 * r0 + 0))) (c0 * p1 + (c1 * q1 + (c2 * r1 + 0))) (c0 * p2 + (c1 * q2 + (c2 * r2 + 0))) = D3 a0 a1 a2 b0 b1 b2 c0 c1 c2 * D3 p0 p1 p2 q0 q1 q2 r0 r1 r2 := by
  unfold D3 D2
  grind
theorem mulT3 (a0 a1 a2 b0 b1 b2 c0 c1 c2 p0 p1 p2 q0 q1 q2 r0 r1 r2 : Int) : mulT [[a0, a1, a2], [b0, b1, b2], [c0, c1, c2]] [[p0, p1, p2], [q0, q1, q2], [r0, r1, r2]] 3 3 = [[a0 * p0 + (a1 * q0 + (a2 * r0 + 0)), a0 * p1 + (a1 * q1 + (a2 * r1 + 0)), a0 * p2 + (a1 * q2 + (a2 * r2 + 0))], [b0 * p0 + (b1 * q0 + (b2 * r0 + 0)), b0 * p1 + (b1 * q1 + (b2 * r1 + 0)), b0 * p2 + (b1 * q2 + (b2 * r2 + 0))], [c0 * p0 + (c1 * q0 + (c2 * r0 + 0)), c0 * p1 + (c1 * q1 + (c2 * r1 + 0)), c0 * p2 + (c1 * q2 + (c2 * r2 + 0))]] := by kernel_rfl
theorem trT3 (a0 a1 a2 b0 b1 b2 c0 c1 c2 : Int) : trT [[a0, a1, a2], [b0, b1, b2], [c0, c1, c2]] 3 = [[a0, b0, c0], [a1, b1, c1], [a2, b2, c2]] := by kernel_rfl
theorem trD3 (a0 a1 a2 b0 b1 b2 c0 c1 c2 : Int) : D3 a0 b0 c0 a1 b1 c1 a2 b2 c2 = D3 a0 a1 a2 b0 b1 b2 c0 c1 c2 := by
  unfold D3 D2
  grind
theorem lin0 (k0 k1 k2 k3 p0 p1 p2 p3 q0 q1 q2 q3 r0 r1 r2 r3 s0 s1 s2 s3 b0 b1 b2 b3 c0 c1 c2 c3 d0 d1 d2 d3 : Int) : D4 (k0 * p0 + (k1 * q0 + (k2 * r0 + (k3 * s0 + 0)))) (k0 * p1 + (k1 * q1 + (k2 * r1 + (k3 * s1 + 0)))) (k0 * p2 + (k1 * q2 + (k2 * r2 + (k3 * s2 + 0)))) (k0 * p3 + (k1 * q3 + (k2 * r3 + (k3 * s3 + 0)))) b0 b1 b2 b3 c0 c1 c2 c3 d0 d1 d2 d3 = k0 * D4 p0 p1 p2 p3 b0 b1 b2 b3 c0 c1 c2 c3 d0 d1 d2 d3 + k1 * D4 q0 q1 q2 q3 b0 b1 b2 b3 c0 c1 c2 c3 d0 d1 d2 d3 + k2 * D4 r0 r1 r2 r3 b0 b1 b2 b3 c0 c1 c2 c3 d0 d1 d2 d3 + k3 * D4 s0 s1 s2 s3 b0 b1 b2 b3 c0 c1 c2 c3 d0 d1 d2 d3 := by
  unfold D4 D3 D2
  grind
theorem lin1 (k0 k1 k2 k3 p0 p1 p2 p3 q0 q1 q2 q3 r0 r1 r2 r3 s0 s1 s2 s3 a0 a1 a2 a3 c0 c1 c2 c3 d0 d1 d2 d3 : Int) : D4 a0 a1 a2 a3 (k0 * p0 + (k1 * q0 + (k2 * r0 + (k3 * s0 + 0)))) (k0 * p1 + (k1 * q1 + (k2 * r1 + (k3 * s1 + 0)))) (k0 * p2 + (k1 * q2 + (k2 * r2 + (k3 * s2 + 0)))) (k0 * p3 + (k1 * q3 + (k2 * r3 + (k3 * s3 + 0)))) c0 c1 c2 c3 d0 d1 d2 d3 = k0 * D4 a0 a1 a2 a3 p0 p1 p2 p3 c0 c1 c2 c3 d0 d1 d2 d3 + k1 * D4 a0 a1 a2 a3 q0 q1 q2 q3 c0 c1 c2 c3 d0 d1 d2 d3 + k2 * D4 a0 a1 a2 a3 r0 r1 r2 r3 c0 c1 c2 c3 d0 d1 d2 d3 + k3 * D4 a0 a1 a2 a3 s0 s1 s2 s3 c0 c1 c2 c3 d0 d1 d2 d3 := by
  unfold D4 D3 D2
  grind
theorem lin2 (k0 k1 k2 k3 p0 p1 p2 p3 q0 q1 q2 q3 r0 r1 r2 r3 s0 s1 s2 s3 a0 a1 a2 a3 b0 b1 b2 b3 d0 d1 d2 d3 : Int) : D4 a0 a1 a2 a3 b0 b1 b2 b3 (k0 * p0 + (k1 * q0 + (k2 * r0 + (k3 * s0 + 0)))) (k0 * p1 + (k1 * q1 + (k2 * r1 + (k3 * s1 + 0)))) (k0 * p2 + (k1 * q2 + (k2 * r2 + (k3 * s2 + 0)))) (k0 * p3 + (k1 * q3 + (k2 * r3 + (k3 * s3 + 0)))) d0 d1 d2 d3 = k0 * D4 a0 a1 a2 a3 b0 b1 b2 b3 p0 p1 p2 p3 d0 d1 d2 d3 + k1 * D4 a0 a1 a2 a3 b0 b1 b2 b3 q0 q1 q2 q3 d0 d1 d2 d3 + k2 * D4 a0 a1 a2 a3 b0 b1 b2 b3 r0 r1 r2 r3 d0 d1 d2 d3 + k3 * D4 a0 a1 a2 a3 b0 b1 b2 b3 s0 s1 s2 s3 d0 d1 d2 d3 := by
  unfold D4 D3 D2
  grind
theorem lin3 (k0 k1 k2 k3 p0 p1 p2 p3 q0 q1 q2 q3 r0 r1 r2 r3 s0 s1 s2 s3 a0 a1 a2 a3 b0 b1 b2 b3 c0 c1 c2 c3 : Int) : D4 a0 a1 a2 a3 b0 b1 b2 b3 c0 c1 c2 c3 (k0 * p0 + (k1 * q0 + (k2 * r0 + (k3 * s0 + 0)))) (k0 * p1 + (k1 * q1 + (k2 * r1 + (k3 * s1 + 0)))) (k0 * p2 + (k1 * q2 + (k2 * r2 + (k3 * s2 + 0)))) (k0 * p3 + (k1 * q3 + (k2 * r3 + (k3 * s3 + 0)))) = k0 * D4 a0 a1 a2 a3 b0 b1 b2 b3 c0 c1 c2 c3 p0 p1 p2 p3 + k1 * D4 a0 a1 a2 a3 b0 b1 b2 b3 c0 c1 c2 c3 q0 q1 q2 q3 + k2 * D4 a0 a1 a2 a3 b0 b1 b2 b3 c0 c1 c2 c3 r0 r1 r2 r3 + k3 * D4 a0 a1 a2 a3 b0 b1 b2 b3 c0 c1 c2 c3 s0 s1 s2 s3 := by
  unfold D4 D3 D2
  grind
theorem dz01 (a0 a1 a2 a3 c0 c1 c2 c3 d0 d1 d2 d3 : Int) : D4 a0 a1 a2 a3 a0 a1 a2 a3 c0 c1 c2 c3 d0 d1 d2 d3 = 0 := by
  unfold D4 D3 D2
  grind
theorem dz02 (a0 a1 a2 a3 b0 b1 b2 b3 d0 d1 d2 d3 : Int) : D4 a0 a1 a2 a3 b0 b1 b2 b3 a0 a1 a2 a3 d0 d1 d2 d3 = 0 := by
  unfold D4 D3 D2
  grind
theorem dz03 (a0 a1 a2 a3 b0 b1 b2 b3 c0 c1 c2 c3 : Int) : D4 a0 a1 a2 a3 b0 b1 b2 b3 c0 c1 c2 c3 a0 a1 a2 a3 = 0 := by
  unfold D4 D3 D2
  grind
theorem dz12 (a0 a1 a2 a3 b0 b1 b2 b3 d0 d1 d2 d3 : Int) : D4 a0 a1 a2 a3 b0 b1 b2 b3 b0 b1 b2 b3 d0 d1 d2 d3 = 0 := by
  unfold D4 D3 D2
  grind
theorem dz13 (a0 a1 a2 a3 b0 b1 b2 b3 c0 c1 c2 c3 : Int) : D4 a0 a1 a2 a3 b0 b1 b2 b3 c0 c1 c2 c3 b0 b1 b2 b3 = 0 := by
  unfold D4 D3 D2
  grind
theorem dz23 (a0 a1 a2 a3 b0 b1 b2 b3 c0 c1 c2 c3 : Int) : D4 a0 a1 a2 a3 b0 b1 b2 b3 c0 c1 c2 c3 c0 c1 c2 c3 = 0 := by
  unfold D4 D3 D2
  grind
theorem pm0132 (p0 p1 p2 p3 q0 q1 q2 q3 r0 r1 r2 r3 s0 s1 s2 s3 : Int) : D4 p0 p1 p2 p3 q0 q1 q2 q3 s0 s1 s2 s3 r0 r1 r2 r3 = -(D4 p0 p1 p2 p3 q0 q1 q2 q3 r0 r1 r2 r3 s0 s1 s2 s3) := by
  unfold D4 D3 D2
  grind
theorem pm0213 (p0 p1 p2 p3 q0 q1 q2 q3 r0 r1 r2 r3 s0 s1 s2 s3 : Int) : D4 p0 p1 p2 p3 r0 r1 r2 r3 q0 q1 q2 q3 s0 s1 s2 s3 = -(D4 p0 p1 p2 p3 q0 q1 q2 q3 r0 r1 r2 r3 s0 s1 s2 s3) := by
  unfold D4 D3 D2
  grind
theorem pm0231 (p0 p1 p2 p3 q0 q1 q2 q3 r0 r1 r2 r3 s0 s1 s2 s3 : Int) : D4 p0 p1 p2 p3 r0 r1 r2 r3 s0 s1 s2 s3 q0 q1 q2 q3 = D4 p0 p1 p2 p3 q0 q1 q2 q3 r0 r1 r2 r3 s0 s1 s2 s3 := by
  unfold D4 D3 D2
  grind
theorem pm0312 (p0 p1 p2 p3 q0 q1 q2 q3 r0 r1 r2 r3 s0 s1 s2 s3 : Int) : D4 p0 p1 p2 p3 s0 s1 s2 s3 q0 q1 q2 q3 r0 r1 r2 r3 = D4 p0 p1 p2 p3 q0 q1 q2 q3 r0 r1 r2 r3 s0 s1 s2 s3 := by
  unfold D4 D3 D2
  grind
theorem pm0321 (p0 p1 p2 p3 q0 q1 q2 q3 r0 r1 r2 r3 s0 s1 s2 s3 : Int) : D4 p0 p1 p2 p3 s0 s1 s2 s3 r0 r1 r2 r3 q0 q1 q2 q3 = -(D4 p0 p1 p2 p3 q0 q1 q2 q3 r0 r1 r2 r3 s0 s1 s2 s3) := by
  unfold D4 D3 D2
  grind
theorem pm1023 (p0 p1 p2 p3 q0 q1 q2 q3 r0 r1 r2 r3 s0 s1 s2 s3 : Int) : D4 q0 q1 q2 q3 p0 p1 p2 p3 r0 r1 r2 r3 s0 s1 s2 s3 = -(D4 p0 p1 p2 p3 q0 q1 q2 q3 r0 r1 r2 r3 s0 s1 s2 s3) := by
  unfold D4 D3 D2
  grind
theorem pm1032 (p0 p1 p2 p3 q0 q1 q2 q3 r0 r1 r2 r3 s0 s1 s2 s3 : Int) : D4 q0 q1 q2 q3 p0 p1 p2 p3 s0 s1 s2 s3 r0 r1 r2 r3 = D4 p0 p1 p2 p3 q0 q1 q2 q3 r0 r1 r2 r3 s0 s1 s2 s3 := by
  unfold D4 D3 D2
  grind
theorem pm1203 (p0 p1 p2 p3 q0 q1 q2 q3 r0 r1 r2 r3 s0 s1 s2 s3 : Int) : D4 q0 q1 q2 q3 r0 r1 r2 r3 p0 p1 p2 p3 s0 s1 s2 s3 = D4 p0 p1 p2 p3 q0 q1 q2 q3 r0 r1 r2 r3 s0 s1 s2 s3 := by
  unfold D4 D3 D2
  grind
theorem pm1230 (p0 p1 p2 p3 q0 q1 q2 q3 r0 r1 r2 r3 s0 s1 s2 s3 : Int) : D4 q0 q1 q2 q3 r0 r1 r2 r3 s0 s1 s2 s3 p0 p1 p2 p3 = -(D4 p0 p1 p2 p3 q0 q1 q2 q3 r0 r1 r2 r3 s0 s1 s2 s3) := by
  unfold D4 D3 D2
  grind
theorem pm1302 (p0 p1 p2 p3 q0 q1 q2 q3 r0 r1 r2 r3 s0 s1 s2 s3 : Int) : D4 q0 q1 q2 q3 s0 s1 s2 s3 p0 p1 p2 p3 r0 r1 r2 r3 = -(D4 p0 p1 p2 p3 q0 q1 q2 q3 r0 r1 r2 r3 s0 s1 s2 s3) := by
  unfold D4 D3 D2
  grind
theorem pm1320 (p0 p1 p2 p3 q0 q1 q2 q3 r0 r1 r2 r3 s0 s1 s2 s3 : Int) : D4 q0 q1 q2 q3 s0 s1 s2 s3 r0 r1 r2 r3 p0 p1 p2 p3 = D4 p0 p1 p2 p3 q0 q1 q2 q3 r0 r1 r2 r3 s0 s1 s2 s3 := by
  unfold D4 D3 D2
  grind
theorem pm2013 (p0 p1 p2 p3 q0 q1 q2 q3 r0 r1 r2 r3 s0 s1 s2 s3 : Int) : D4 r0 r1 r2 r3 p0 p1 p2 p3 q0 q1 q2 q3 s0 s1 s2 s3 = D4 p0 p1 p2 p3 q0 q1 q2 q3 r0 r1 r2 r3 s0 s1 s2 s3 := by
  unfold D4 D3 D2
  grind
theorem pm2031 (p0 p1 p2 p3 q0 q1 q2 q3 r0 r1 r2 r3 s0 s1 s2 s3 : Int) : D4 r0 r1 r2 r3 p0 p1 p2 p3 s0 s1 s2 s3 q0 q1 q2 q3 = -(D4 p0 p1 p2 p3 q0 q1 q2 q3 r0 r1 r2 r3 s0 s1 s2 s3) := by
  unfold D4 D3 D2
  grind
theorem pm2103 (p0 p1 p2 p3 q0 q1 q2 q3 r0 r1 r2 r3 s0 s1 s2 s3 : Int) : D4 r0 r1 r2 r3 q0 q1 q2 q3 p0 p1 p2 p3 s0 s1 s2 s3 = -(D4 p0 p1 p2 p3 q0 q1 q2 q3 r0 r1 r2 r3 s0 s1 s2 s3) := by
  unfold D4 D3 D2
  grind
theorem pm2130 (p0 p1 p2 p3 q0 q1 q2 q3 r0 r1 r2 r3 s0 s1 s2 s3 : Int) : D4 r0 r1 r2 r3 q0 q1 q2 q3 s0 s1 s2 s3 p0 p1 p2 p3 = D4 p0 p1 p2 p3 q0 q1 q2 q3 r0 r1 r2 r3 s0 s1 s2 s3 := by
  unfold D4 D3 D2
  grind
theorem pm2301 (p0 p1 p2 p3 q0 q1 q2 q3 r0 r1 r2 r3 s0 s1 s2 s3 : Int) : D4 r0 r1 r2 r3 s0 s1 s2 s3 p0 p1 p2 p3 q0 q1 q2 q3 = D4 p0 p1 p2 p3 q0 q1 q2 q3 r0 r1 r2 r3 s0 s1 s2 s3 := by
  unfold D4 D3 D2
  grind
theorem pm2310 (p0 p1 p2 p3 q0 q1 q2 q3 r0 r1 r2 r3 s0 s1 s2 s3 : Int) : D4 r0 r1 r2 r3 s0 s1 s2 s3 q0 q1 q2 q3 p0 p1 p2 p3 = -(D4 p0 p1 p2 p3 q0 q1 q2 q3 r0 r1 r2 r3 s0 s1 s2 s3) := by
  unfold D4 D3 D2
  grind
theorem pm3012 (p0 p1 p2 p3 q0 q1 q2 q3 r0 r1 r2 r3 s0 s1 s2 s3 : Int) : D4 s0 s1 s2 s3 p0 p1 p2 p3 q0 q1 q2 q3 r0 r1 r2 r3 = -(D4 p0 p1 p2 p3 q0 q1 q2 q3 r0 r1 r2 r3 s0 s1 s2 s3) := by
  unfold D4 D3 D2
  grind
theorem pm3021 (p0 p1 p2 p3 q0 q1 q2 q3 r0 r1 r2 r3 s0 s1 s2 s3 : Int) : D4 s0 s1 s2 s3 p0 p1 p2 p3 r0 r1 r2 r3 q0 q1 q2 q3 = D4 p0 p1 p2 p3 q0 q1 q2 q3 r0 r1 r2 r3 s0 s1 s2 s3 := by
  unfold D4 D3 D2
  grind
theorem pm3102 (p0 p1 p2 p3 q0 q1 q2 q3 r0 r1 r2 r3 s0 s1 s2 s3 : Int) : D4 s0 s1 s2 s3 q0 q1 q2 q3 p0 p1 p2 p3 r0 r1 r2 r3 = D4 p0 p1 p2 p3 q0 q1 q2 q3 r0 r1 r2 r3 s0 s1 s2 s3 := by
  unfold D4 D3 D2
  grind
theorem pm3120 (p0 p1 p2 p3 q0 q1 q2 q3 r0 r1 r2 r3 s0 s1 s2 s3 : Int) : D4 s0 s1 s2 s3 q0 q1 q2 q3 r0 r1 r2 r3 p0 p1 p2 p3 = -(D4 p0 p1 p2 p3 q0 q1 q2 q3 r0 r1 r2 r3 s0 s1 s2 s3) := by
  unfold D4 D3 D2
  grind
theorem pm3201 (p0 p1 p2 p3 q0 q1 q2 q3 r0 r1 r2 r3 s0 s1 s2 s3 : Int) : D4 s0 s1 s2 s3 r0 r1 r2 r3 p0 p1 p2 p3 q0 q1 q2 q3 = -(D4 p0 p1 p2 p3 q0 q1 q2 q3 r0 r1 r2 r3 s0 s1 s2 s3) := by
  unfold D4 D3 D2
  grind
theorem pm3210 (p0 p1 p2 p3 q0 q1 q2 q3 r0 r1 r2 r3 s0 s1 s2 s3 : Int) : D4 s0 s1 s2 s3 r0 r1 r2 r3 q0 q1 q2 q3 p0 p1 p2 p3 = D4 p0 p1 p2 p3 q0 q1 q2 q3 r0 r1 r2 r3 s0 s1 s2 s3 := by
  unfold D4 D3 D2
  grind
theorem mulD4 (a0 a1 a2 a3 b0 b1 b2 b3 c0 c1 c2 c3 d0 d1 d2 d3 p0 p1 p2 p3 q0 q1 q2 q3 r0 r1 r2 r3 s0 s1 s2 s3 : Int) : D4 (a0 * p0 + (a1 * q0 + (a2 * r0 + (a3 * s0 + 0)))) (a0 * p1 + (a1 * q1 + (a2 * r1 + (a3 * s1 + 0)))) (a0 * p2 + (a1 * q2 + (a2 * r2 + (a3 * s2 + 0)))) (a0 * p3 + (a1 * q3 + (a2 * r3 + (a3 * s3 + 0)))) (b0 * p0 + (b1 * q0 + (b2 * r0 + (b3 * s0 + 0)))) (b0 * p1 + (b1 * q1 + (b2 * r1 + (b3 * s1 + 0)))) (b0 * p2 + (b1 * q2 + (b2 * r2 + (b3 * s2 + 0)))) (b0 * p3 + (b1 * q3 + (b2 * r3 + (b3 * s3 + 0)))) (c0 * p0 + (c1 * q0 + (c2 * r0 + (c3 * s0 + 0)))) (c0 * p1 + (c1 * q1 + (c2 * r1 + (c3 * s1 + 0)))) (c0 * p2 + (c1 * q2 + (c2 * r2 + (c3 * s2 + 0)))) (c0 * p3 + (c1 * q3 + (c2 * r3 + (c3 * s3 + 0)))) (d0 * p0 + (d1 * q0 + (d2 * r0 + (d3 * s0 + 0)))) (d0 * p1 + (d1 * q1 + (d2 * r1 + (d3 * s1 + 0)))) (d0 * p2 + (d1 * q2 + (d2 * r2 + (d3 * s2 + 0)))) (d0 * p3 + (d1 * q3 + (d2 * r3 + (d3 * s3 + 0)))) = D4 a0 a1 a2 a3 b0 b1 b2 b3 c0 c1 c2 c3 d0 d1 d2 d3 * D4 p0 p1 p2 p3 q0 q1 q2 q3 r0 r1 r2 r3 s0 s1 s2 s3 := by
  simp only [lin0]
  simp only [lin1]
  simp only [dz01]
  simp only [lin2]
  simp only [dz02, dz12]
  simp only [lin3]
  simp only [dz03, dz13, dz23]
  simp only [pm0132 p0 p1 p2 p3 q0 q1 q2 q3 r0 r1 r2 r3 s0 s1 s2 s3, pm0213 p0 p1 p2 p3 q0 q1 q2 q3 r0 r1 r2 r3 s0 s1 s2 s3, pm0231 p0 p1 p2 p3 q0 q1 q2 q3 r0 r1 r2 r3 s0 s1 s2 s3, pm0312 p0 p1 p2 p3 q0 q1 q2 q3 r0 r1 r2 r3 s0 s1 s2 s3, pm0321 p0 p1 p2 p3 q0 q1 q2 q3 r0 r1 r2 r3 s0 s1 s2 s3, pm1023 p0 p1 p2 p3 q0 q1 q2 q3 r0 r1 r2 r3 s0 s1 s2 s3, pm1032 p0 p1 p2 p3 q0 q1 q2 q3 r0 r1 r2 r3 s0 s1 s2 s3, pm1203 p0 p1 p2 p3 q0 q1 q2 q3 r0 r1 r2 r3 s0 s1 s2 s3, pm1230 p0 p1 p2 p3 q0 q1 q2 q3 r0 r1 r2 r3 s0 s1 s2 s3, pm1302 p0 p1 p2 p3 q0 q1 q2 q3 r0 r1 r2 r3 s0 s1 s2 s3, pm1320 p0 p1 p2 p3 q0 q1 q2 q3 r0 r1 r2 r3 s0 s1 s2 s3, pm2013 p0 p1 p2 p3 q0 q1 q2 q3 r0 r1 r2 r3 s0 s1 s2 s3, pm2031 p0 p1 p2 p3 q0 q1 q2 q3 r0 r1 r2 r3 s0 s1 s2 s3, pm2103 p0 p1 p2 p3 q0 q1 q2 q3 r0 r1 r2 r3 s0 s1 s2 s3, pm2130 p0 p1 p2 p3 q0 q1 q2 q3 r0 r1 r2 r3 s0 s1 s2 s3, pm2301 p0 p1 p2 p3 q0 q1 q2 q3 r0 r1 r2 r3 s0 s1 s2 s3, pm2310 p0 p1 p2 p3 q0 q1 q2 q3 r0 r1 r2 r3 s0 s1 s2 s3, pm3012 p0 p1 p2 p3 q0 q1 q2 q3 r0 r1 r2 r3 s0 s1 s2 s3, pm3021 p0 p1 p2 p3 q0 q1 q2 q3 r0 r1 r2 r3 s0 s1 s2 s3, pm3102 p0 p1 p2 p3 q0 q1 q2 q3 r0 r1 r2 r3 s0 s1 s2 s3, pm3120 p0 p1 p2 p3 q0 q1 q2 q3 r0 r1 r2 r3 s0 s1 s2 s3, pm3201 p0 p1 p2 p3 q0 q1 q2 q3 r0 r1 r2 r3 s0 s1 s2 s3, pm3210 p0 p1 p2 p3 q0 q1 q2 q3 r0 r1 r2 r3 s0 s1 s2 s3]
  generalize D4 p0 p1 p2 p3 q0 q1 q2 q3 r0 r1 r2 r3 s0 s1 s2 s3 = e
  unfold D4 D3 D2
  grind
theorem mulT4 (a0 a1 a2 a3 b0 b1 b2 b3 c0 c1 c2 c3 d0 d1 d2 d3 p0 p1 p2 p3 q0 q1 q2 q3 r0 r1 r2 r3 s0 s1 s2 s3 : Int) : mulT [[a0, a1, a2, a3], [b0, b1, b2, b3], [c0, c1, c2, c3], [d0, d1, d2, d3]] [[p0, p1, p2, p3], [q0, q1, q2, q3], [r0, r1, r2, r3], [s0, s1, s2, s3]] 4 4 = [[a0 * p0 + (a1 * q0 + (a2 * r0 + (a3 * s0 + 0))), a0 * p1 + (a1 * q1 + (a2 * r1 + (a3 * s1 + 0))), a0 * p2 + (a1 * q2 + (a2 * r2 + (a3 * s2 + 0))), a0 * p3 + (a1 * q3 + (a2 * r3 + (a3 * s3 + 0)))], [b0 * p0 + (b1 * q0 + (b2 * r0 + (b3 * s0 + 0))), b0 * p1 + (b1 * q1 + (b2 * r1 + (b3 * s1 + 0))), b0 * p2 + (b1 * q2 + (b2 * r2 + (b3 * s2 + 0))), b0 * p3 + (b1 * q3 + (b2 * r3 + (b3 * s3 + 0)))], [c0 * p0 + (c1 * q0 + (c2 * r0 + (c3 * s0 + 0))), c0 * p1 + (c1 * q1 + (c2 * r1 + (c3 * s1 + 0))), c0 * p2 + (c1 * q2 + (c2 * r2 + (c3 * s2 + 0))), c0 * p3 + (c1 * q3 + (c2 * r3 + (c3 * s3 + 0)))], [d0 * p0 + (d1 * q0 + (d2 * r0 + (d3 * s0 + 0))), d0 * p1 + (d1 * q1 + (d2 * r1 + (d3 * s1 + 0))), d0 * p2 + (d1 * q2 + (d2 * r2 + (d3 * s2 + 0))), d0 * p3 + (d1 * q3 + (d2 * r3 + (d3 * s3 + 0)))]] := by kernel_rfl
theorem trT4 (a0 a1 a2 a3 b0 b1 b2 b3 c0 c1 c2 c3 d0 d1 d2 d3 : Int) : trT [[a0, a1, a2, a3], [b0, b1, b2, b3], [c0, c1, c2, c3], [d0, d1, d2, d3]] 4 = [[a0, b0, c0, d0], [a1, b1, c1, d1], [a2, b2, c2, d2], [a3, b3, c3, d3]] := by kernel_rfl
theorem trD4 (a0 a1 a2 a3 b0 b1 b2 b3 c0 c1 c2 c3 d0 d1 d2 d3 : Int) : D4 a0 b0 c0 d0 a1 b1 c1 d1 a2 b2 c2 d2 a3 b3 c3 d3 = D4 a0 a1 a2 a3 b0 b1 b2 b3 c0 c1 c2 c3 d0 d1 d2 d3 := by
  unfold D4 D3 D2
  grind
theorem mulT1 (a p : Int) : mulT [[a]] [[p]] 1 1 = [[a * p + 0]] := by kernel_rfl
theorem trT1 (a : Int) : trT [[a]] 1 = [[a]] := by kernel_rfl
theorem det_mul {n : Nat} {A B : Tab} (hn : n ≤ 4) (hA : Sh A n n) (hB : Sh B n n) : cofD n (mulT A B n n) = cofD n A * cofD n B := by
  have h : n = 0 ∨ n = 1 ∨ n = 2 ∨ n = 3 ∨ n = 4 := by omega
  rcases h with rfl | rfl | rfl | rfl | rfl
  · rfl
  · obtain ⟨x, rfl, lx⟩ := tab1 hA
    obtain ⟨a0, rfl⟩ := len1 lx
    obtain ⟨x, rfl, lx⟩ := tab1 hB
    obtain ⟨p0, rfl⟩ := len1 lx
    rw [mulT1, cofD_one, cofD_one, cofD_one, Int.add_zero]
  · obtain ⟨x, y, rfl, lx, ly⟩ := tab2 hA
    obtain ⟨a0, a1, rfl⟩ := len2 lx
    obtain ⟨b0, b1, rfl⟩ := len2 ly
    obtain ⟨x, y, rfl, lx, ly⟩ := tab2 hB
    obtain ⟨p0, p1, rfl⟩ := len2 lx
    obtain ⟨q0, q1, rfl⟩ := len2 ly
    rw [mulT2, cofD_two, cofD_two, cofD_two]
    exact mulD2 ..
  · obtain ⟨x, y, z, rfl, lx, ly, lz⟩ := tab3 hA
    obtain ⟨a0, a1, a2, rfl⟩ := len3 lx
    obtain ⟨b0, b1, b2, rfl⟩ := len3 ly
    obtain ⟨c0, c1, c2, rfl⟩ := len3 lz
    obtain ⟨x, y, z, rfl, lx, ly, lz⟩ := tab3 hB
    obtain ⟨p0, p1, p2, rfl⟩ := len3 lx
    obtain ⟨q0, q1, q2, rfl⟩ := len3 ly
    obtain ⟨r0, r1, r2, rfl⟩ := len3 lz
    rw [mulT3, cofD_three, cofD_three, cofD_three]
    exact mulD3 ..
  · obtain ⟨x, y, z, t, rfl, lx, ly, lz, lt⟩ := tab4 hA
    obtain ⟨a0, a1, a2, a3, rfl⟩ := len4 lx
    obtain ⟨b0, b1, b2, b3, rfl⟩ := len4 ly
    obtain ⟨c0, c1, c2, c3, rfl⟩ := len4 lz
    obtain ⟨d0, d1, d2, d3, rfl⟩ := len4 lt
    obtain ⟨x, y, z, t, rfl, lx, ly, lz, lt⟩ := tab4 hB
    obtain ⟨p0, p1, p2, p3, rfl⟩ := len4 lx
    obtain ⟨q0, q1, q2, q3, rfl⟩ := len4 ly
    obtain ⟨r0, r1, r2, r3, rfl⟩ := len4 lz
    obtain ⟨s0, s1, s2, s3, rfl⟩ := len4 lt
    rw [mulT4, cofD_four, cofD_four, cofD_four]
    exact mulD4 ..
theorem det_tr {n : Nat} {A : Tab} (hn : n ≤ 4) (hA : Sh A n n) : cofD n (trT A n) = cofD n A := by
  have h : n = 0 ∨ n = 1 ∨ n = 2 ∨ n = 3 ∨ n = 4 := by omega
  rcases h with rfl | rfl | rfl | rfl | rfl
  · rfl
  · obtain ⟨x, rfl, lx⟩ := tab1 hA
    obtain ⟨a0, rfl⟩ := len1 lx
    rw [trT1]
  · obtain ⟨x, y, rfl, lx, ly⟩ := tab2 hA
    obtain ⟨a0, a1, rfl⟩ := len2 lx
    obtain ⟨b0, b1, rfl⟩ := len2 ly
    rw [trT2, cofD_two, cofD_two]
    exact trD2 ..
  · obtain ⟨x, y, z, rfl, lx, ly, lz⟩ := tab3 hA
    obtain ⟨a0, a1, a2, rfl⟩ := len3 lx
    obtain ⟨b0, b1, b2, rfl⟩ := len3 ly
    obtain ⟨c0, c1, c2, rfl⟩ := len3 lz
    rw [trT3, cofD_three, cofD_three]
    exact trD3 ..
  · obtain ⟨x, y, z, t, rfl, lx, ly, lz, lt⟩ := tab4 hA
    obtain ⟨a0, a1, a2, a3, rfl⟩ := len4 lx
    obtain ⟨b0, b1, b2, b3, rfl⟩ := len4 ly
    obtain ⟨c0, c1, c2, c3, rfl⟩ := len4 lz
    obtain ⟨d0, d1, d2, d3, rfl⟩ := len4 lt
    rw [trT4, cofD_four, cofD_four]
    exact trD4 ..
end L2.VD

namespace L2.VD.K02
open PySem PySem.Spec PyProof.Rows
theorem e_ldet : ∀ n, m_law_determinant_2 n = q_ldetF n := fun n => by
  induction n with
  | zero => rfl
  | succ n ih =>
    funext R
    unfold m_law_determinant_2 q_ldetF
    rw [ih]
theorem minor_ok {T : Tab} {n i k : Nat} (hS : Sh T n n) (hn : n ≤ 4) (hi : i < n) (hk : k < n) : m_minor T (i : Int) (k : Int) = .ok (dropC (dropR T i) k) := by
  have cells : ∀ a ∈ enumL T, (fun a : Int × List Int => M.ok (!decide (a.1 = (i : Int)))) a = M.ok ((fun a : Int × List Int => !decide (a.1 = (i : Int))) a) := fun _ _ => rfl
  have mem : ∀ (m : Nat) (T : Tab), ∀ a ∈ enumN m T, a.2 ∈ T := by
    intro m T
    induction T generalizing m with
    | nil => intro a ha; exact absurd (show a ∈ ([] : List (Int × List Int)) from ha) (List.not_mem_nil)
    | cons r T ih =>
      intro a ha
      rcases List.mem_cons.mp ha with rfl | ha
      · exact List.mem_cons_self ..
      · exact List.mem_cons_of_mem _ (ih _ a ha)
  have len : ∀ (m : Nat) (T : Tab), (enumN m T).length = T.length := by
    intro m T
    induction T generalizing m with
    | nil => rfl
    | cons r T ih => show (enumN (m + 1) T).length + 1 = _; rw [ih]; rfl
  unfold m_minor
  rw [lcfM_map (p := fun a => !decide (a.1 = (i : Int))) (g := fun a => a.2.take k ++ a.2.drop (k + 1)) (by unfold enumL; rw [len, hS.1]; omega) cells fun a ha _ => ?_, okb]
  · congr 1
    unfold dropC
    rw [show (fun a : Int × List Int => a.2.take k ++ a.2.drop (k + 1)) = (fun r : List Int => r.take k ++ r.drop (k + 1)) ∘ Prod.snd from rfl, ← List.map_map]
    congr 1
    have h : n = 0 ∨ n = 1 ∨ n = 2 ∨ n = 3 ∨ n = 4 := by omega
    rcases h with rfl | rfl | rfl | rfl | rfl
    · omega
    · obtain ⟨x, rfl, _⟩ := tab1 hS
      obtain rfl : i = 0 := by omega
      rfl
    · obtain ⟨x, y, rfl, _⟩ := tab2 hS
      have hi : i = 0 ∨ i = 1 := by omega
      rcases hi with rfl | rfl <;> rfl
    · obtain ⟨x, y, z, rfl, _⟩ := tab3 hS
      have hi : i = 0 ∨ i = 1 ∨ i = 2 := by omega
      rcases hi with rfl | rfl | rfl <;> rfl
    · obtain ⟨x, y, z, t, rfl, _⟩ := tab4 hS
      have hi : i = 0 ∨ i = 1 ∨ i = 2 ∨ i = 3 := by omega
      rcases hi with rfl | rfl | rfl | rfl <;> rfl
  · have hl := hS.2 _ (mem 0 T a ha)
    rw [cut_take, cut_gt (k := k + 1) _ (by omega), catM_ok (by rw [List.length_take, List.length_drop]; omega), okb]
theorem upto_map {n : Nat} {β : Type} {f : Int → β} {g : Nat → β} (h : ∀ k, k < n → f (k : Int) = g k) : (upto n).map f = (List.range n).map g := by
  unfold upto
  rw [List.map_map]
  exact List.map_congr_left fun k hk => h k (List.mem_range.mp hk)
theorem sg_eq {i k : Nat} {x : Int} : (if (decide (((i : Int) + (k : Int)).fmod 2 = (1 : Int))) = true then (-x) else x) = sgZ i k * x := by
  unfold sgZ
  have h0 := Int.fmod_nonneg_of_pos ((i : Int) + (k : Int)) (show (0 : Int) < 2 by decide)
  have h1 := Int.fmod_lt_of_pos ((i : Int) + (k : Int)) (show (0 : Int) < 2 by decide)
  have h : ((i : Int) + (k : Int)).fmod 2 = 0 ∨ ((i : Int) + (k : Int)).fmod 2 = 1 := by omega
  rcases h with h | h
  · rw [h, if_neg (by decide)]; omega
  · rw [h, if_pos (by decide)]; omega
theorem adjT_sh {T : Tab} {n : Nat} : Sh (adjT n T) n n := ⟨by unfold adjT; rw [List.length_map, List.length_range], fun r hr => by
  obtain ⟨i, _, rfl⟩ := List.mem_map.mp hr
  rw [List.length_map, List.length_range]⟩
theorem dd_sh {T : Tab} {n i k : Nat} (hS : Sh T n n) (hi : i < n) (hk : k < n) : Sh (dropC (dropR T k) i) (n - 1) (n - 1) := by
  obtain ⟨m, rfl⟩ : ∃ m, n = m + 1 := ⟨n - 1, by omega⟩
  exact dropC_sh (dropR_sh hS hk) hi
theorem dd_bt {T : Tab} {m i k : Nat} (h : Bt m T) : Bt m (dropC (dropR T k) i) := dropC_bt (dropR_bt h)
theorem adjT_bt {T : Tab} {n m : Nat} (hn : n ≤ 4) (hS : Sh T n n) (hB : Bt m T) : Bt ((m + 3) * 3 + 1) (adjT n T) := by
  intro r hr
  obtain ⟨i, hi, rfl⟩ := List.mem_map.mp hr
  intro x hx
  obtain ⟨k, hk, rfl⟩ := List.mem_map.mp hx
  have hi := List.mem_range.mp hi
  have hk := List.mem_range.mp hk
  have hb := cofD_bn (m := m) (n := n - 1) (by omega) (dd_sh hS hi hk) (dd_bt hB)
  exact (Bn.mul1 sgn1 hb).mono (by
    have : (m + 3) * (n - 1) ≤ (m + 3) * 3 := Nat.mul_le_mul_left _ (by omega)
    omega)
theorem ginit {T : Tab} {n : Nat} (h : ∀ r ∈ T, r.length = n) (hl : T.length ≤ 100) : m_Grid_init T (n : Int) = .ok (T, (n : Int)) := by
  rw [e_ginit, init2_ok (fun r hr => by rw [h r hr]) (by omega)]
theorem sq_ok {T : Tab} {n : Nat} (hl : T.length = n) : m_Grid_is_square (T, (n : Int)) = .ok true := by
  unfold m_Grid_is_square
  rw [decide_eq_true (by show ((T.length : Nat) : Int) = n; rw [hl])]
theorem gd_ok {T : Tab} {n : Nat} (hn : n ≤ 4) (hS : Sh T n n) (hB : Bt 1100000 T) : m_Grid_determinant (T, (n : Int)) = .ok (cofD n T) := by
  unfold m_Grid_determinant
  rw [sq_ok hS.1, okb, if_neg (by decide), okb]
  dsimp only
  rw [e_det, gdet_ok hn hS hB, okb]
theorem adj_ok {T : Tab} {n : Nat} (hn : n ≤ 4) (hS : Sh T n n) (hB : Bt 1100000 T) : m_Grid_adjugate (T, (n : Int)) = .ok (adjT n T, (n : Int)) := by
  unfold m_Grid_adjugate
  rw [sq_ok hS.1, okb, if_neg (by decide), okb, okb]
  dsimp only
  rw [rng1M_ok (by omega), okb]
  rw [foldM_app (g := fun i => (upto n).map fun k => sgZ i.toNat k.toNat * cofD (n - 1) (dropC (dropR T k.toNat) i.toNat)) (by rw [upto_length]; simp; omega) fun a ha s hs => ?_, okb]
  · have e : ([] : Tab) ++ (upto n).map (fun i => (upto n).map fun k => sgZ i.toNat k.toNat * cofD (n - 1) (dropC (dropR T k.toNat) i.toNat)) = adjT n T := by
      rw [List.nil_append]
      exact upto_map fun i _ => upto_map fun k _ => by rw [Int.toNat_natCast, Int.toNat_natCast]
    rw [e, ginit (fun r hr => adjT_sh.2 r hr) (by rw [adjT_sh.1]; omega), okb]
  · obtain ⟨i, hi, rfl⟩ := mem_upto.mp ha
    rw [okb, okb]
    rw [foldM_app (g := fun k => sgZ i k.toNat * cofD (n - 1) (dropC (dropR T k.toNat) i)) (by rw [upto_length]; simp; omega) fun b hb s' hs' => ?_, okb, appM_ok hs, okb, okb]
    · rw [List.nil_append, Int.toNat_natCast]
    · obtain ⟨k, hk, rfl⟩ := mem_upto.mp hb
      rw [minor_ok hS hn hk hi, okb, e_det, gdet_ok (by omega) (dd_sh hS hi hk) (dd_bt hB), okb, okb, modM_ok (by decide), okb, sg_eq, appM_ok hs', okb, okb, Int.toNat_natCast]
theorem sp_ok {m p : Nat} {r : List Int} {B : Tab} {n k : Nat} (hr : r.length = n) (hb : Bl m r) (hB : ∀ q ∈ B, k < q.length) (hl : B.length = n) (hBb : Bt p B) (hm : m ≤ 40000000) (hp : p ≤ 40000000) (hn : n ≤ 100) :
    foldM (fun (s18 : Int) (a19 : Int) =>
    ((idxM r a19).bind fun t21 =>
  (idxM B a19).bind fun t22 =>
  (idxM t22 (k : Int)).bind fun t23 =>
  (mulM t21 t23).bind fun t24 => M.ok (s18 + t24)).bind fun v_total_25 => M.ok v_total_25) (upto n) 0 = .ok ((List.range n).map fun j => r.getD j 0 * at2 B j k).sum := by
  rw [foldM_sum (g := fun a => r.getD a.toNat 0 * at2 B a.toNat k) fun a ha s => ?_, Int.zero_add]
  · exact congrArg (fun l : List Int => M.ok l.sum) (upto_map fun j _ => by rw [Int.toNat_natCast])
  · obtain ⟨j, hj, rfl⟩ := mem_upto.mp ha
    have hq := hB (B.getD j []) (mem_getD [] (by omega))
    rw [idx_getD (by omega), okb, idx_D [] (by omega), okb, idx_D 0 hq, okb]
    rw [Int.toNat_natCast]
    have h1 : Bn m (r.getD j 0) := hb _ (mem_getD 0 (by omega))
    have h2 : Bn p ((B.getD j []).getD k 0) := hBb _ (mem_getD [] (by omega)) _ (mem_getD 0 hq)
    rw [Gd.mulM_bn h1 h2 hm hp, okb, okb]
    rfl
theorem lprod_ok {m p : Nat} {A B : Tab} {h n w : Nat} (hA : Sh A h n) (hB : Sh B n w) (hm : m ≤ 40000000) (hp : p ≤ 40000000) (bA : Bt m A) (bB : Bt p B) (hh : h ≤ 100) (hn : n ≤ 100) (hw : w ≤ 100) : m_law_product A B (w : Int) = .ok (mulT A B n w) := by
  unfold m_law_product
  rw [okb]
  rw [foldM_app (g := fun r => (List.range w).map fun k => ((List.range n).map fun j => r.getD j 0 * at2 B j k).sum) (by rw [hA.1]; simp; omega) fun r hr s hs => ?_, okb, List.nil_append]
  · rfl
  · rw [okb, rng1M_ok (by omega), okb]
    rw [foldM_app (g := fun k => ((List.range n).map fun j => r.getD j 0 * at2 B j k.toNat).sum) (by rw [upto_length]; simp; omega) fun a ha s' hs' => ?_, okb, appM_ok hs, okb, okb]
    · rw [List.nil_append]
      exact congrArg (fun l => M.ok (s ++ [l])) (upto_map fun k _ => by rw [Int.toNat_natCast])
    · obtain ⟨k, hk, rfl⟩ := mem_upto.mp ha
      rw [okb, hB.1, rng1M_ok (by omega), okb, sp_ok (hA.2 r hr) (bA r hr) (fun q hq => by rw [hB.2 q hq]; exact hk) hB.1 bB hm hp hn, okb, appM_ok hs', okb, okb, Int.toNat_natCast]
theorem mulT_sh {A B : Tab} {h n w : Nat} (hA : A.length = h) : Sh (mulT A B n w) h w := ⟨by unfold mulT; rw [List.length_map]; exact hA, fun r hr => by
  obtain ⟨q, _, rfl⟩ := List.mem_map.mp hr
  rw [List.length_map, List.length_range]⟩
theorem mulT_bt {A B : Tab} {h n w m p : Nat} (hA : Sh A h n) (hB : Sh B n w) (bA : Bt m A) (bB : Bt p B) (hn : n ≤ 8) : Bt (m + p + 3) (mulT A B n w) := by
  intro r hr
  obtain ⟨q, hq, rfl⟩ := List.mem_map.mp hr
  intro x hx
  obtain ⟨k, hk, rfl⟩ := List.mem_map.mp hx
  have hk := List.mem_range.mp hk
  refine Bn.sum (fun y hy => ?_) (by rw [List.length_map, List.length_range]; exact hn)
  obtain ⟨j, hj, rfl⟩ := List.mem_map.mp hy
  have hj := List.mem_range.mp hj
  have lb := hB.2 (B.getD j []) (mem_getD [] (by rw [hB.1]; exact hj))
  exact (bA q hq _ (mem_getD 0 (by rw [hA.2 q hq]; exact hj))).mul (bB (B.getD j []) (mem_getD [] (by rw [hB.1]; exact hj)) _ (mem_getD 0 (by rw [lb]; exact hk)))
theorem zip_sum : ∀ (r c : List Int) (n : Nat), r.length = n → c.length = n → ((r.zip c).map fun p => p.1 * p.2).sum = ((List.range n).map fun j => r.getD j 0 * c.getD j 0).sum := by
  intro r
  induction r with
  | nil => intro c n hr hc; subst hr; rfl
  | cons x r ih =>
    intro c n hr hc
    cases c with
    | nil => subst hr; simp at hc
    | cons y c =>
      obtain ⟨m, rfl⟩ : ∃ m, n = m + 1 := ⟨r.length, by rw [List.length_cons] at hr; omega⟩
      rw [List.length_cons] at hr hc
      have := ih c m (by omega) (by omega)
      rw [List.zip_cons_cons, List.map_cons, List.sum_cons, this, List.range_succ_eq_map, List.map_cons, List.sum_cons, List.map_map]
      rfl
theorem dot_bn {m p n : Nat} {a b : List Int} (ha : Bl m a) (hb : Bl p b) (la : a.length = n) (lb : b.length = n) (hm : m ≤ 40000000) (hp : p ≤ 40000000) (hn : n ≤ 100) : m_dot a b = .ok ((List.range n).map fun j => a.getD j 0 * b.getD j 0).sum := by
  unfold m_dot
  rw [lcM_map (g := fun p => p.1 * p.2) (by rw [List.length_zip]; omega) fun x hx => by
    obtain ⟨h1, h2⟩ := List.of_mem_zip (show (x.1, x.2) ∈ a.zip b from hx)
    rw [Gd.mulM_bn (ha _ h1) (hb _ h2) hm hp, okb], okb, zip_sum a b n la lb]
theorem cols_ok {B : Tab} {n w : Nat} (hB : Sh B n w) (hn : n ≤ 100) (hw : w ≤ 100) : (lcM (upto w) fun a4 =>
    (lcM B fun a5 => (idxM a5 a4).bind fun t6 => M.ok t6).bind fun t7 => M.ok t7) = .ok ((upto w).map fun k => B.map fun r => r.getD k.toNat 0) := by
  rw [lcM_map (g := fun k => B.map fun r => r.getD k.toNat 0) (by rw [upto_length]; omega) fun a ha => ?_]
  obtain ⟨k, hk, rfl⟩ := mem_upto.mp ha
  rw [lcM_map (g := fun r => r.getD (k : Int).toNat 0) (by rw [hB.1]; omega) fun r hr => by rw [idx_getD (by rw [hB.2 r hr]; exact hk), okb], okb]
theorem gmul_ok {m p : Nat} {A B : Tab} {h n w : Nat} (hA : Sh A h n) (hB : Sh B n w) (hm : m ≤ 40000000) (hp : p ≤ 40000000) (bA : Bt m A) (bB : Bt p B) (hh : h ≤ 100) (hn : n ≤ 100) (hw : w ≤ 100) : m_Grid_mul (A, (n : Int)) (B, (w : Int)) = .ok (mulT A B n w, (w : Int)) := by
  unfold m_Grid_mul
  dsimp only
  rw [if_neg (by rw [hB.1, decide_eq_true rfl]; decide), okb, rng1M_ok (by omega), okb, cols_ok hB hn hw, okb, okb]
  rw [lcM_map (g := fun r => (List.range w).map fun k => ((List.range n).map fun j => r.getD j 0 * at2 B j k).sum) (by rw [hA.1]; omega) fun r hr => ?_, okb]
  · have e : A.map (fun r => (List.range w).map fun k => ((List.range n).map fun j => r.getD j 0 * at2 B j k).sum) = mulT A B n w := rfl
    rw [e, ginit (fun r hr => (mulT_sh hA.1).2 r hr) (by rw [(mulT_sh hA.1).1]; exact hh), okb]
  · rw [lcM_map (g := fun c => ((List.range n).map fun j => r.getD j 0 * c.getD j 0).sum) (by rw [List.length_map, upto_length]; omega) fun c hc => ?_, okb]
    · rw [List.map_map]
      refine congrArg M.ok (upto_map fun k hk => ?_)
      show ((List.range n).map fun j => r.getD j 0 * (B.map fun q => q.getD (k : Int).toNat 0).getD j 0).sum = _
      rw [Int.toNat_natCast]
      congr 1
      refine List.map_congr_left fun j hj => ?_
      have hj := List.mem_range.mp hj
      congr 1
      unfold at2
      rw [List.getD_eq_getElem?_getD (l := B.map _), List.getElem?_map, List.getD_eq_getElem?_getD (l := B), List.getElem?_eq_getElem (by rw [hB.1]; exact hj)]
      rfl
    · obtain ⟨k0, hk0, rfl⟩ := List.mem_map.mp hc
      obtain ⟨k, hk, rfl⟩ := mem_upto.mp hk0
      rw [dot_bn (bA r hr) (m := m) (p := p) (fun x hx => by
        obtain ⟨q, hq, rfl⟩ := List.mem_map.mp hx
        rw [Int.toNat_natCast]
        exact bB q hq _ (mem_getD 0 (by rw [hB.2 q hq]; exact hk))) (hA.2 r hr) (by rw [List.length_map]; exact hB.1) hm hp hn, okb]
theorem gtr_ok {A : Tab} {h w : Nat} (hA : Sh A h w) (hh : h ≤ 100) (hw : w ≤ 100) : m_Grid_transposed (A, (w : Int)) = .ok (trT A w, (h : Int)) := by
  unfold m_Grid_transposed
  dsimp only
  rw [rng1M_ok (by omega), okb, cols_ok hA hh hw, okb]
  have e : (upto w).map (fun k => A.map fun r => r.getD k.toNat 0) = trT A w := upto_map fun k _ => by rw [Int.toNat_natCast]
  rw [e, hA.1, ginit (n := h) (fun r hr => by
    obtain ⟨k, _, rfl⟩ := List.mem_map.mp hr
    rw [List.length_map]; exact hA.1) (by unfold trT; rw [List.length_map, List.length_range]; exact hw), okb]
theorem trT_sh {A : Tab} {n : Nat} (hA : Sh A n n) : Sh (trT A n) n n := ⟨by unfold trT; rw [List.length_map, List.length_range], fun r hr => by
  obtain ⟨k, _, rfl⟩ := List.mem_map.mp hr
  rw [List.length_map]; exact hA.1⟩
theorem trT_bt {A : Tab} {n m : Nat} (hA : Sh A n n) (hB : Bt m A) : Bt m (trT A n) := by
  intro r hr
  obtain ⟨k, hk, rfl⟩ := List.mem_map.mp hr
  intro x hx
  obtain ⟨q, hq, rfl⟩ := List.mem_map.mp hx
  exact hB q hq _ (mem_getD 0 (by rw [hA.2 q hq]; exact List.mem_range.mp hk))
theorem isrows_ok {T : Tab} {n : Nat} (hS : Sh T n n) (hn : n ≤ 100) : m_law_is_rows (T, (n : Int)) (n : Int) (n : Int) = .ok true := by
  have inner : ∀ r : List Int, foldF (fun (s7 : Unit) (a8 : Int) => (M.ok (F.nx ()) : M (F Unit Bool))) r () = .ok (F.nx ()) := fun r => by
    induction r with
    | nil => rfl
    | cons x r ih => rw [foldF_nx (s' := ()) rfl, ih]
  have outer : ∀ T : Tab, (∀ r ∈ T, r.length = n) → foldF (fun (s3 : Unit) (a4 : List Int) =>
    if (!decide ((a4.length : Int) = (n : Int))) = true then
  (M.ok false).bind fun r => M.ok (F.rt r)
  else
  goM (foldF (fun (s7 : Unit) (a8 : Int) =>
    M.ok (F.nx ())) a4 ()) (fun v => F.rt v) fun _ =>
  M.ok (F.nx ())) T () = (.ok (F.nx ()) : M (F Unit Bool)) := fun T => by
    induction T with
    | nil => intro _; rfl
    | cons r T ih =>
      intro h
      rw [foldF_nx (s' := ()) (by rw [if_neg (by rw [h r (List.mem_cons_self ..), decide_eq_true rfl]; decide), inner]; rfl), ih fun x hx => h x (List.mem_cons_of_mem _ hx)]
  unfold m_law_is_rows
  dsimp only
  have hlen : lenM (m_Grid_len (T, (n : Int))) = .ok (n : Int) := by
    unfold m_Grid_len
    dsimp only
    rw [hS.1]
    unfold lenM
    rw [noxb, okb, if_pos (by rw [Bool.and_eq_true, decide_eq_true_eq, decide_eq_true_eq]; omega)]
  rw [decide_eq_true rfl, if_neg (by decide), hlen, okb, decide_eq_true rfl]
  rw [okb]
  rw [if_neg (by decide), outer T hS.2]
  rfl
end L2.VD.K02

namespace L2.VD.K02
open PySem PySem.Spec PyProof.Rows
theorem sh_of {T : Tab} {h w m : Nat} (H : LR T h w m) : Sh T h w := ⟨H.len, fun r hr => (H.row r hr).1⟩
theorem bt_of {T : Tab} {h w m p : Nat} (H : LR T h w m) (hp : m < 2 ^ p) : Bt p T := fun r hr x hx => Nat.lt_of_le_of_lt ((H.row r hr).2 x hx) hp
theorem cell_bn {z : Int} (h : Builtin.Int.intBits z ≤ 1048576) : Bn 1048576 z := by
  unfold Builtin.Int.intBits at h
  unfold Bn
  by_cases h0 : z = 0
  · rw [h0]; exact Nat.pow_pos (by decide)
  · rw [if_neg (by simpa using h0)] at h
    exact Nat.lt_of_lt_of_le Nat.lt_log2_self (Nat.pow_le_pow_right (by decide) h)
theorem lcell_ok {ns : List Int} (hb : ∀ z ∈ ns, Builtin.Int.intBits z ≤ 1048576) : ∃ c, m_law_cell ns 0 = .ok c ∧ Bn 1048576 c := by
  cases ns with
  | nil => exact ⟨0, rfl, Bn.zero⟩
  | cons z ns =>
    refine ⟨z, ?_, cell_bn (hb z (List.mem_cons_self ..))⟩
    unfold m_law_cell
    rw [if_pos (decide_eq_true (by rw [List.length_cons]; omega)), idx_0, okb]
theorem bn_lift {m n : Nat} {x : Int} (h : x.natAbs ≤ m) (hm : m < 2 ^ 5) (hn : 5 ≤ n) : Bn n x := Nat.lt_of_lt_of_le (Nat.lt_of_le_of_lt h hm) (Nat.pow_le_pow_right (by decide) hn)
theorem change_ok {ns l : List Int} (hb : ∀ z ∈ ns, Builtin.Int.intBits z ≤ 1048576) (hl : St l) {A0 : Tab} {n : Nat} (hn : n ≤ 100) (H : LR A0 n n 18) : ∃ A l', ((if (decide ((0 : Int) < (n : Int))) = true then (m_law_take l (4 : Int)).bind fun t9 => M.ok ((decide (t9.1 = (0 : Int))), t9.2) else M.ok (false, l)).bind fun t10 =>
  if t10.1 = true then ((m_law_cell ns (0 : Int)).bind fun t12 =>
  (idxM A0 (0 : Int)).bind fun t13 =>
  (catM ([t12]) (cutL t13 (some (1 : Int)) none)).bind fun t14 =>
  (catM ([t14]) (cutL A0 (some (1 : Int)) none)).bind fun t15 => M.ok t15).bind fun v_a_16 => M.ok (t10.2, v_a_16) else M.ok (t10.2, A0)) = .ok (l', A) ∧ Sh A n n ∧ Bt 1048600 A := by
  have base : Bt 1048600 A0 := fun r hr x hx => bn_lift ((H.row r hr).2 x hx) (by decide) (by decide)
  by_cases h0 : (0 : Int) < (n : Int)
  · obtain ⟨v, l', e1, _, _, _⟩ := take_ok (m := 4) hl (by decide) (by decide)
    rw [if_pos (decide_eq_true h0), e_take, e1, okb, okb]
    dsimp only
    by_cases hv : v = 0
    · obtain ⟨c, ec, hc⟩ := lcell_ok hb
      obtain ⟨r, A', rfl⟩ : ∃ r A', A0 = r :: A' := by
        cases A0 with
        | nil => have := H.len; simp at this; omega
        | cons r A' => exact ⟨r, A', rfl⟩
      have lr := H.row r (List.mem_cons_self ..)
      have ll := H.len
      rw [List.length_cons] at ll
      obtain ⟨x, r', rfl⟩ : ∃ x r', r = x :: r' := by
        cases r with
        | nil => have := lr.1; simp at this; omega
        | cons x r' => exact ⟨x, r', rfl⟩
      have l1 := lr.1
      rw [List.length_cons] at l1
      · refine ⟨(c :: r') :: A', l', ?_, ⟨by rw [List.length_cons]; exact ll, fun q hq => ?_⟩, fun q hq => ?_⟩
        · rw [if_pos (decide_eq_true hv), ec, okb, idx_0, okb, cutL_1, catM_ok (by simp; omega), okb, cutL_1, catM_ok (by simp; omega), okb, okb]
          rfl
        · rcases List.mem_cons.mp hq with rfl | hq
          · rw [List.length_cons]; exact l1
          · exact (H.row q (List.mem_cons_of_mem _ hq)).1
        · rcases List.mem_cons.mp hq with rfl | hq
          · intro y hy
            rcases List.mem_cons.mp hy with rfl | hy
            · exact hc.mono (by decide)
            · exact base _ (List.mem_cons_self ..) y (List.mem_cons_of_mem _ hy)
          · exact base q (List.mem_cons_of_mem _ hq)
    · rw [if_neg (by rw [decide_eq_true_eq]; exact hv)]
      exact ⟨_, _, rfl, sh_of H, base⟩
  · rw [if_neg (by rw [decide_eq_true_eq]; exact h0), okb]
    dsimp only
    rw [if_neg Bool.false_ne_true]
    exact ⟨_, _, rfl, sh_of H, base⟩
theorem due_ok {A : Tab} {n : Nat} (hn : n ≤ 4) (hS : Sh A n n) (hB : Bt 1048600 A) : ((rng1M (n : Int)).bind fun r37 =>
  foldM (fun (s38 : List (List Int)) (a39 : Int) =>
    (M.ok ([] : List Int)).bind fun v_line_44 =>
  ((rng1M (n : Int)).bind fun r45 =>
  foldM (fun (s46 : List Int) (a47 : Int) =>
    ((catM (cutL A none (some a47)) (cutL A (some (a47 + (1 : Int))) none)).bind fun t50 =>
  (lcM t50 fun a51 =>
    (catM (cutL a51 none (some a39)) (cutL a51 (some (a39 + (1 : Int))) none)).bind fun t52 => M.ok t52).bind fun t53 => M.ok t53).bind fun v_minor_54 =>
  ((modM (a39 + a47) (2 : Int)).bind fun t55 =>
  (mulM (2 : Int) t55).bind fun t56 =>
  (m_law_determinant_2 6 v_minor_54).bind fun t57 =>
  (mulM ((1 : Int) - t56) t57).bind fun t58 =>
  (appM s46 t58).bind fun z59 => M.ok z59).bind fun v_line_60 => M.ok v_line_60) r45 v_line_44).bind fun s61 =>
  ((appM s38 s61).bind fun z64 => M.ok z64).bind fun v_due_65 => M.ok v_due_65) r37 ([] : List (List Int))) = .ok (adjT n A) := by
  rw [rng1M_ok (by omega), okb]
  rw [foldM_app (g := fun i => (upto n).map fun k => sgZ i.toNat k.toNat * cofD (n - 1) (dropC (dropR A k.toNat) i.toNat)) (by rw [upto_length]; simp; omega) fun a ha s hs => ?_]
  · rw [List.nil_append]
    exact congrArg M.ok (upto_map fun i _ => upto_map fun k _ => by rw [Int.toNat_natCast, Int.toNat_natCast])
  · obtain ⟨i, hi, rfl⟩ := mem_upto.mp ha
    rw [okb, okb]
    rw [foldM_app (g := fun k => sgZ i k.toNat * cofD (n - 1) (dropC (dropR A k.toNat) i)) (by rw [upto_length]; simp; omega) fun b hb s' hs' => ?_, okb, appM_ok hs, okb, okb]
    · rw [List.nil_append, Int.toNat_natCast]
    · obtain ⟨k, hk, rfl⟩ := mem_upto.mp hb
      have e1 : catM (cutL A none (some (k : Int))) (cutL A (some ((k : Int) + 1)) none) = .ok (dropR A k) := by
        rw [cut_take, cut_gt (k := k + 1) _ (by omega), catM_ok (by rw [List.length_take, List.length_drop, hS.1]; omega)]
        rfl
      have e2 : (lcM (dropR A k) fun a51 =>
          (catM (cutL a51 none (some (i : Int))) (cutL a51 (some ((i : Int) + (1 : Int))) none)).bind fun t52 => M.ok t52) = .ok (dropC (dropR A k) i) := by
        rw [lcM_map (g := fun q => q.take i ++ q.drop (i + 1)) (by unfold dropR; rw [List.length_append, List.length_take, List.length_drop, hS.1]; omega) fun q hq => ?_]
        · rfl
        · rw [cut_take, cut_gt (k := i + 1) _ (by omega), catM_ok (by
            have := hS.2 q (mem_drop hq)
            rw [List.length_take, List.length_drop]; omega), okb]
      have hd := dd_sh hS hi hk
      have e3 : m_law_determinant_2 6 (dropC (dropR A k) i) = .ok (cofD (n - 1) (dropC (dropR A k) i)) := by
        rw [e_ldet, show 6 = (n - 1) + 1 + (6 - n) by omega]
        exact ldetF_ok (m := 1048600) (by decide) (by omega) hd (dd_bt hB)
      rw [e1, okb, e2, okb, okb, modM_ok (by decide), okb, mulM_l (by decide), okb, e3, okb, mulM_l (Nat.le_trans sgn1 (by decide)), okb, appM_ok hs', okb, okb, Int.toNat_natCast]
      rfl
theorem map_range {A : Tab} {n : Nat} {β : Type} (f : List Int → β) (h : A.length = n) : A.map f = (List.range n).map fun i => f (A.getD i []) := by
  refine List.ext_getElem (by simp [h]) fun i h1 h2 => ?_
  rw [List.length_map] at h1
  rw [List.getElem_map, List.getElem_map, List.getElem_range, List.getD_eq_getElem?_getD, List.getElem?_eq_getElem h1]
  rfl
def scalT (n : Nat) (d : Int) : Tab := (List.range n).map fun i => (List.range n).map fun k => d * (if i = k then 1 else 0)
theorem scal_of {P Q : Tab} {n : Nat} {d : Int} (hP : P.length = n) (h : ∀ i k, i < n → k < n → ((List.range n).map fun j => at2 P i j * at2 Q j k).sum = if i = k then d else 0) : mulT P Q n n = scalT n d := by
  unfold mulT scalT
  rw [map_range _ hP]
  refine List.map_congr_left fun i hi => List.map_congr_left fun k hk => ?_
  have := h i k (List.mem_range.mp hi) (List.mem_range.mp hk)
  refine Eq.trans this ?_
  by_cases e : i = k
  · rw [if_pos e, if_pos e, Int.mul_one]
  · rw [if_neg e, if_neg e, Int.mul_zero]
theorem scal_ok {n : Nat} {d : Int} (hn : n ≤ 4) : ((rng1M (n : Int)).bind fun r71 =>
  (lcM r71 fun a72 =>
    (rng1M (n : Int)).bind fun r73 =>
  (lcM r73 fun a74 =>
    (mulM d (if (decide (a72 = a74)) = true then 1 else 0)).bind fun t75 => M.ok t75).bind fun t76 => M.ok t76).bind fun t77 => M.ok t77) = .ok (scalT n d) := by
  rw [rng1M_ok (by omega), okb]
  rw [lcM_map (g := fun a => (upto n).map fun b => d * (if a = b then 1 else 0)) (by rw [upto_length]; omega) fun a ha => ?_, okb]
  · refine congrArg M.ok (upto_map fun i _ => upto_map fun k _ => ?_)
    congr 1
    by_cases e : i = k
    · rw [if_pos e, if_pos (by omega)]
    · rw [if_neg e, if_neg (by omega)]
  · rw [okb, lcM_map (g := fun b => d * (if a = b then 1 else 0)) (by rw [upto_length]; omega) fun b hb => ?_, okb]
    rw [mulM_r (by split <;> decide), okb]
    simp only [decide_eq_true_eq]
theorem refused_ok {n : Nat} (hn : n ≤ 4) : ((rng1M (n : Int)).bind fun r83 =>
  (lcM r83 fun a84 =>
    (rng1M ((n : Int) + (1 : Int))).bind fun r85 =>
  (lcM r85 fun a86 =>
    M.ok (1 : Int)).bind fun t87 => M.ok t87).bind fun t88 =>
  (m_Grid_init t88 ((n : Int) + (1 : Int))).bind fun t89 =>
  (m_law_refused t89).bind fun t90 => M.ok t90) = .ok true := by
  have e0 : ((n : Int) + 1) = ((n + 1 : Nat) : Int) := by omega
  rw [e0, rng1M_ok (by omega), okb]
  rw [lcM_map (g := fun _ => (upto (n + 1)).map fun _ => (1 : Int)) (by rw [upto_length]; omega) fun a ha => by
    rw [rng1M_ok (by omega), okb, lcM_map (g := fun _ => (1 : Int)) (by rw [upto_length]; omega) fun b hb => rfl, okb], okb]
  rw [ginit (fun r hr => by
    obtain ⟨k, _, rfl⟩ := List.mem_map.mp hr
    rw [List.length_map, upto_length]) (by rw [List.length_map, upto_length]; omega), okb]
  generalize hT : (upto n).map (fun _ => (upto (n + 1)).map fun _ => (1 : Int)) = T
  have hl : T.length = n := by rw [← hT, List.length_map, upto_length]
  have sq : m_Grid_is_square (T, ((n + 1 : Nat) : Int)) = .ok false := by
    unfold m_Grid_is_square
    rw [decide_eq_false (by show ¬ ((T.length : Nat) : Int) = ((n + 1 : Nat) : Int); omega)]
  have d1 : m_Grid_determinant (T, ((n + 1 : Nat) : Int)) = .ex ⟨1, []⟩ := by
    unfold m_Grid_determinant
    rw [sq, okb, if_pos (by decide)]
    rfl
  have d2 : m_Grid_adjugate (T, ((n + 1 : Nat) : Int)) = .ex ⟨1, []⟩ := by
    unfold m_Grid_adjugate
    rw [sq, okb, if_pos (by decide)]
    rfl
  have d3 : m_Grid_is_unimodular (T, ((n + 1 : Nat) : Int)) = .ok false := by
    unfold m_Grid_is_unimodular
    rw [sq, okb, if_neg (by decide), okb]
  unfold m_law_refused
  rw [okb, d1, d2, d3]
  rfl
theorem law_ok (ns : List Int) (hb : ∀ z ∈ ns, Builtin.Int.intBits z ≤ 1048576) : m_law ns = .ok true := by
  obtain ⟨s, e1, h1⟩ := state_ok ns
  obtain ⟨v, l1, e2, v0, v1, h2⟩ := take_ok (m := 5) h1 (by decide) (by decide)
  obtain ⟨n, rfl⟩ : ∃ n : Nat, v = (n : Int) := ⟨v.toNat, by omega⟩
  have hn : n ≤ 4 := by omega
  obtain ⟨A0, l2, e3, hA0, h3⟩ := lrows_ok h2 (h := n) (w := n) (m := 9) (by omega) (by omega) (by decide)
  obtain ⟨B, l3, e4, hB, h4⟩ := lrows_ok h3 (h := n) (w := n) (m := 5) (by omega) (by omega) (by decide)
  obtain ⟨A, l4, e5, sA, bA⟩ := change_ok hb h4 (n := n) (A0 := A0) (by omega) ⟨hA0.len, hA0.row⟩
  have sB := sh_of hB
  have bB : Bt 4 B := bt_of hB (by decide)
  have bA' : Bt 1100000 A := bA.mono (by decide)
  have sAB := mulT_sh (B := B) (n := n) (w := n) sA.1
  have bAB : Bt 1100000 (mulT A B n n) := (mulT_bt sA sB bA bB (by omega)).mono (by decide)
  have bC := adjT_bt hn sA bA
  have sC := adjT_sh (T := A) (n := n)
  have dA := cofD_bn (by omega) sA bA
  have dB := cofD_bn (by omega) sB bB
  have lt1 : (1048600 + 3) * n + 1 ≤ 40000000 := by omega
  have lt2 : (4 + 3) * n + 1 ≤ 40000000 := by omega
  have ld : ∀ {T : Tab} {m : Nat}, m ≤ 5000000 → Sh T n n → Bt m T → m_law_determinant_2 6 T = .ok (cofD n T) := fun {T m} hm hS hB => by
    rw [e_ldet, show 6 = n + 1 + (5 - n) by omega]
    exact ldetF_ok hm (by omega) hS hB
  unfold m_law
  rw [e_state, e1, okb, okb, e_take, e2, okb, okb]
  dsimp only
  rw [e_rows, show (9 : Int) = ((9 : Nat) : Int) from rfl, e3, okb, okb]
  dsimp only
  rw [show (5 : Int) = ((5 : Nat) : Int) from rfl, e4, okb, okb]
  dsimp only
  have e5' := e5
  rw [e_take] at e5'
  rw [e5', okb]
  dsimp only
  rw [ginit sA.2 (by rw [sA.1]; omega), okb, ginit sB.2 (by rw [sB.1]; omega), okb, okb, ld (m := 1048600) (by decide) sA bA, okb, ld (m := 4) (by decide) sB bB, okb, okb]
  dsimp only
  rw [gd_ok hn sA bA', okb, decide_eq_true rfl, if_neg (by decide), okb, gmul_ok sA sB (by decide) (by decide) bA bB (by omega) (by omega) (by omega), okb, gd_ok hn sAB bAB, okb, Gd.mulM_bn dA dB lt1 lt2, okb, det_mul hn sA sB, decide_eq_true rfl, if_neg (by decide), gtr_ok sA (by omega) (by omega), okb, gd_ok hn (trT_sh sA) (trT_bt sA bA'), okb, det_tr hn sA, decide_eq_true rfl, okb, okb, if_neg (by decide)]
  rw [adj_ok hn sA bA', okb, okb, isrows_ok sC (by omega), okb, if_neg (by decide), okb]
  have hdue := due_ok hn sA bA
  rw [hdue, okb]
  dsimp only
  rw [decide_eq_true rfl, if_neg (by decide), scal_ok hn, okb]
  have p1 : m_law_product A (adjT n A) (n : Int) = .ok (scalT n (cofD n A)) := by
    rw [lprod_ok sA sC (by decide) (by decide) bA bC (by omega) (by omega) (by omega), scal_of sA.1 (adj_id1 hn sA)]
  have p2 : m_law_product (adjT n A) A (n : Int) = .ok (scalT n (cofD n A)) := by
    rw [lprod_ok sC sA (by decide) (by decide) bC bA (by omega) (by omega) (by omega), scal_of sC.1 (adj_id2 hn sA)]
  rw [p1, okb, decide_eq_true rfl, if_neg (by decide), p2, okb, decide_eq_true rfl, okb, if_neg (by decide)]
  have un : m_Grid_is_unimodular (A, (n : Int)) = .ok (decide (absI (cofD n A) = (1 : Int))) := by
    unfold m_Grid_is_unimodular
    rw [sq_ok sA.1, okb, if_pos rfl, e_det]
    dsimp only
    rw [gdet_ok hn sA bA', okb, okb]
  rw [un, okb, decide_eq_true rfl, if_neg (by decide), refused_ok hn]
end L2.VD.K02

namespace L2.VD.K02
open PySem PySem.Spec PyProof.Rows
theorem law_true (ns : List Int) (h : ns.length ≤ 63) (hb : ∀ z ∈ ns, Builtin.Int.intBits z ≤ 1048576) : ∃ e', f_law [.sh (.sq (ns.map T.int))] = .ok (.sh (.bl true)) e' := by
  have h := w_law ns
  rw [law_ok ns hb] at h
  exact h
end L2.VD.K02
namespace L2.VD.K02
open PySem PySem.Spec PyProof.Rows
def spLaw (K : PySem.W.Frag) : Sp := fun vs H Q _ => ∃ (a : Addr) (ns : List Int), vs = [.ref a] ∧ SqL K H a (ns.map V.int) ∧ ns.length ≤ 63 ∧ (∀ z ∈ ns, Builtin.Int.intBits z ≤ 1048576) ∧ ∀ H', Q (.bl true) H'
theorem sp_law {K : PySem.W.Frag} {mg : Str → Option Value} (tx : Tx K mg) : ∀ vs H Q E, spLaw K vs H Q E → spD tx.C 1 f_law vs H Q E := by
  rintro vs H Q E ⟨a, ns, rfl, hS, hl, hb, q⟩
  obtain ⟨e', he⟩ := law_true ns hl hb
  have no : ∀ i a', ¬ Owns ⟨[.sh (.sq (ns.map T.int))], [some (.ref a)], H, H⟩ i a' := by
    rintro i a' ⟨sl, v, h1, h2, h3⟩
    match i, h1 with
    | 0, h1 => cases h1; exact h3
  refine ⟨rfl, [.sh (.sq (ns.map T.int))], H, ⟨fun _ _ h => h, rfl, fun i sl h => ?_, fun i a' h => absurd h (no i a'), fun i j a' h _ => absurd h (no i a')⟩, ?_⟩
  · match i, h with
    | 0, h => cases h; exact ⟨.ref a, rfl, a, _, rfl, hS, Rps.ints.mpr rfl⟩
  · rw [he]
    exact fun σ' H' G' _ _ v ov => by
      have ov : v = .bl true := ov
      rw [ov]; exact q _
theorem all_mk {w : World} {K : PySem.W.Frag} {h : Heap} {mg : Str → Option Value} {fa : Addr} {D5 f0 f1 f2 f3 f4 f5 f6 f8 f9 f10 f11 f12 f13 f14 f15 f16 f17 f18 f19 f20 f21 f22 f23 f24 f25 f26 f27 f7 C1 C2 : Addr} (X : K.In h) (G : h.Ns mainGlobals mg) (hfa : mg "law" = some (.ref fa))
    {od0 an0 od1 an1 od2 an2 od3 an3 od4 an4 od5 an5 vd5 od6 an6 od8 an8 od9 an9 od10 an10 od11 an11 od12 an12 od13 an13 od14 an14 od15 an15 od16 an16 od17 an17 od18 an18 od19 an19 od20 an20 od21 an21 od22 an22 od23 an23 od24 an24 od25 an25 od26 an26 od27 an27 od7 an7 : Option Addr} {sl0 sl1 sl2 sl3 sl4 sl5 vs5 sl6 sl8 sl9 sl10 sl11 sl12 sl13 sl14 sl15 sl16 sl17 sl18 sl19 sl20 sl21 sl22 sl23 sl24 sl25 sl26 sl27 sl7 : Array (Option Value)} {oc0 kV0 dc0 pm0 cd0 ct0 oc1 kV1 dc1 pm1 cd1 ct1 oc2 kV2 dc2 pm2 cd2 ct2 oc3 kV3 dc3 pm3 cd3 ct3 oc4 kV4 dc4 pm4 cd4 ct4 oc5 kV5 dc5 pm5 cd5 ct5 vc5 oc6 kV6 dc6 pm6 cd6 ct6 oc8 kV8 dc8 pm8 cd8 ct8 oc9 kV9 dc9 pm9 cd9 ct9 oc10 kV10 dc10 pm10 cd10 ct10 oc11 kV11 dc11 pm11 cd11 ct11 oc12 kV12 dc12 pm12 cd12 ct12 oc13 kV13 dc13 pm13 cd13 ct13 oc14 kV14 dc14 pm14 cd14 ct14 oc15 kV15 dc15 pm15 cd15 ct15 oc16 kV16 dc16 pm16 cd16 ct16 oc17 kV17 dc17 pm17 cd17 ct17 oc18 kV18 dc18 pm18 cd18 ct18 oc19 kV19 dc19 pm19 cd19 ct19 oc20 kV20 dc20 pm20 cd20 ct20 oc21 kV21 dc21 pm21 cd21 ct21 oc22 kV22 dc22 pm22 cd22 ct22 oc23 kV23 dc23 pm23 cd23 ct23 oc24 kV24 dc24 pm24 cd24 ct24 oc25 kV25 dc25 pm25 cd25 ct25 oc26 kV26 dc26 pm26 cd26 ct26 oc27 kV27 dc27 pm27 cd27 ct27 oc7 kV7 dc7 pm7 cd7 ct7 : Value} {vn5 : Nat}
    (B1 : PySem.W.nsIn K mainGlobals "Malformed" = some (some (.ref C1)))
    (B2 : PySem.W.nsIn K mainGlobals "Grid" = some (some (.ref C2)))
    (A0 : PySem.W.nsIn K mainGlobals "is_integer" = some (some (.ref f0)))
    (hL0 : K.lookup f0 = some ⟨oc0, od0, .func (PySem.W.fnOf "is_integer" "is_integer" (defArgs s_is_integer) (defBody s_is_integer) (defScope s_is_integer) .none kV0 dc0 pm0 an0 cd0 ct0), sl0⟩)
    (P0 : PySem.W.codeIn K cd0 "is_integer" = true)
    (K0 : PySem.W.keepIn K (.ref f0) = true)
    (A1 : PySem.W.nsIn K mainGlobals "dot" = some (some (.ref f1)))
    (hL1 : K.lookup f1 = some ⟨oc1, od1, .func (PySem.W.fnOf "dot" "dot" (defArgs s_dot) (defBody s_dot) (defScope s_dot) .none kV1 dc1 pm1 an1 cd1 ct1), sl1⟩)
    (P1 : PySem.W.codeIn K cd1 "dot" = true)
    (K1 : PySem.W.keepIn K (.ref f1) = true)
    (A2 : PySem.W.nsIn K mainGlobals "_checked" = some (some (.ref f2)))
    (hL2 : K.lookup f2 = some ⟨oc2, od2, .func (PySem.W.fnOf "_checked" "_checked" (defArgs s_checked) (defBody s_checked) (defScope s_checked) .none kV2 dc2 pm2 an2 cd2 ct2), sl2⟩)
    (P2 : PySem.W.codeIn K cd2 "_checked" = true)
    (K2 : PySem.W.keepIn K (.ref f2) = true)
    (A3 : PySem.W.nsIn K mainGlobals "_determinant" = some (some (.ref f3)))
    (hL3 : K.lookup f3 = some ⟨oc3, od3, .func (PySem.W.fnOf "_determinant" "_determinant" (defArgs s_determinant) (defBody s_determinant) (defScope s_determinant) .none kV3 dc3 pm3 an3 cd3 ct3), sl3⟩)
    (P3 : PySem.W.codeIn K cd3 "_determinant" = true)
    (K3 : PySem.W.keepIn K (.ref f3) = true)
    (A4 : PySem.W.nsIn K mainGlobals "_minor" = some (some (.ref f4)))
    (hL4 : K.lookup f4 = some ⟨oc4, od4, .func (PySem.W.fnOf "_minor" "_minor" (defArgs s_minor) (defBody s_minor) (defScope s_minor) .none kV4 dc4 pm4 an4 cd4 ct4), sl4⟩)
    (P4 : PySem.W.codeIn K cd4 "_minor" = true)
    (K4 : PySem.W.keepIn K (.ref f4) = true)
    (A5 : PySem.W.findIn K (.ref C2) "__init__" = some (some (.ref f5)))
    (G5 : PySem.W.isFn K (.ref f5) = true)
    (hL5 : K.lookup f5 = some ⟨oc5, od5, .func (PySem.W.fnOf "__init__" "Grid.__init__" (defArgs s_Grid_init) (defBody s_Grid_init) (defScope s_Grid_init) (.ref D5) kV5 dc5 pm5 an5 cd5 ct5), sl5⟩)
    (P5 : PySem.W.codeIn K cd5 "Grid.__init__" = true)
    (K5 : PySem.W.keepIn K (.ref f5) = true)
    (V5 : K.lookup D5 = some ⟨vc5, vd5, .seq #[Value.none] vn5, vs5⟩)
    (A6 : PySem.W.findIn K (.ref C2) "__len__" = some (some (.ref f6)))
    (G6 : PySem.W.isFn K (.ref f6) = true)
    (hL6 : K.lookup f6 = some ⟨oc6, od6, .func (PySem.W.fnOf "__len__" "Grid.__len__" (defArgs s_Grid_len) (defBody s_Grid_len) (defScope s_Grid_len) .none kV6 dc6 pm6 an6 cd6 ct6), sl6⟩)
    (P6 : PySem.W.codeIn K cd6 "Grid.__len__" = true)
    (K6 : PySem.W.keepIn K (.ref f6) = true)
    (A8 : PySem.W.findIn K (.ref C2) "__eq__" = some (some (.ref f8)))
    (G8 : PySem.W.isFn K (.ref f8) = true)
    (hL8 : K.lookup f8 = some ⟨oc8, od8, .func (PySem.W.fnOf "__eq__" "Grid.__eq__" (defArgs s_Grid_eq) (defBody s_Grid_eq) (defScope s_Grid_eq) .none kV8 dc8 pm8 an8 cd8 ct8), sl8⟩)
    (P8 : PySem.W.codeIn K cd8 "Grid.__eq__" = true)
    (K8 : PySem.W.keepIn K (.ref f8) = true)
    (A9 : PySem.W.findIn K (.ref C2) "__add__" = some (some (.ref f9)))
    (G9 : PySem.W.isFn K (.ref f9) = true)
    (hL9 : K.lookup f9 = some ⟨oc9, od9, .func (PySem.W.fnOf "__add__" "Grid.__add__" (defArgs s_Grid_add) (defBody s_Grid_add) (defScope s_Grid_add) .none kV9 dc9 pm9 an9 cd9 ct9), sl9⟩)
    (P9 : PySem.W.codeIn K cd9 "Grid.__add__" = true)
    (K9 : PySem.W.keepIn K (.ref f9) = true)
    (A10 : PySem.W.findIn K (.ref C2) "__sub__" = some (some (.ref f10)))
    (G10 : PySem.W.isFn K (.ref f10) = true)
    (hL10 : K.lookup f10 = some ⟨oc10, od10, .func (PySem.W.fnOf "__sub__" "Grid.__sub__" (defArgs s_Grid_sub) (defBody s_Grid_sub) (defScope s_Grid_sub) .none kV10 dc10 pm10 an10 cd10 ct10), sl10⟩)
    (P10 : PySem.W.codeIn K cd10 "Grid.__sub__" = true)
    (K10 : PySem.W.keepIn K (.ref f10) = true)
    (A11 : PySem.W.findIn K (.ref C2) "__mul__" = some (some (.ref f11)))
    (G11 : PySem.W.isFn K (.ref f11) = true)
    (hL11 : K.lookup f11 = some ⟨oc11, od11, .func (PySem.W.fnOf "__mul__" "Grid.__mul__" (defArgs s_Grid_mul) (defBody s_Grid_mul) (defScope s_Grid_mul) .none kV11 dc11 pm11 an11 cd11 ct11), sl11⟩)
    (P11 : PySem.W.codeIn K cd11 "Grid.__mul__" = true)
    (K11 : PySem.W.keepIn K (.ref f11) = true)
    (A12 : PySem.W.findIn K (.ref C2) "__neg__" = some (some (.ref f12)))
    (G12 : PySem.W.isFn K (.ref f12) = true)
    (hL12 : K.lookup f12 = some ⟨oc12, od12, .func (PySem.W.fnOf "__neg__" "Grid.__neg__" (defArgs s_Grid_neg) (defBody s_Grid_neg) (defScope s_Grid_neg) .none kV12 dc12 pm12 an12 cd12 ct12), sl12⟩)
    (P12 : PySem.W.codeIn K cd12 "Grid.__neg__" = true)
    (K12 : PySem.W.keepIn K (.ref f12) = true)
    (A13 : PySem.W.findIn K (.ref C2) "transposed" = some (some (.ref f13)))
    (G13 : PySem.W.isFn K (.ref f13) = true)
    (hL13 : K.lookup f13 = some ⟨oc13, od13, .func (PySem.W.fnOf "transposed" "Grid.transposed" (defArgs s_Grid_transposed) (defBody s_Grid_transposed) (defScope s_Grid_transposed) .none kV13 dc13 pm13 an13 cd13 ct13), sl13⟩)
    (P13 : PySem.W.codeIn K cd13 "Grid.transposed" = true)
    (K13 : PySem.W.keepIn K (.ref f13) = true)
    (A14 : PySem.W.findIn K (.ref C2) "before" = some (some (.ref f14)))
    (G14 : PySem.W.isFn K (.ref f14) = true)
    (hL14 : K.lookup f14 = some ⟨oc14, od14, .func (PySem.W.fnOf "before" "Grid.before" (defArgs s_Grid_before) (defBody s_Grid_before) (defScope s_Grid_before) .none kV14 dc14 pm14 an14 cd14 ct14), sl14⟩)
    (P14 : PySem.W.codeIn K cd14 "Grid.before" = true)
    (K14 : PySem.W.keepIn K (.ref f14) = true)
    (A15 : PySem.W.findIn K (.ref C2) "is_square" = some (some (.ref f15)))
    (G15 : PySem.W.isFn K (.ref f15) = true)
    (hL15 : K.lookup f15 = some ⟨oc15, od15, .func (PySem.W.fnOf "is_square" "Grid.is_square" (defArgs s_Grid_is_square) (defBody s_Grid_is_square) (defScope s_Grid_is_square) .none kV15 dc15 pm15 an15 cd15 ct15), sl15⟩)
    (P15 : PySem.W.codeIn K cd15 "Grid.is_square" = true)
    (K15 : PySem.W.keepIn K (.ref f15) = true)
    (A16 : PySem.W.findIn K (.ref C2) "determinant" = some (some (.ref f16)))
    (G16 : PySem.W.isFn K (.ref f16) = true)
    (hL16 : K.lookup f16 = some ⟨oc16, od16, .func (PySem.W.fnOf "determinant" "Grid.determinant" (defArgs s_Grid_determinant) (defBody s_Grid_determinant) (defScope s_Grid_determinant) .none kV16 dc16 pm16 an16 cd16 ct16), sl16⟩)
    (P16 : PySem.W.codeIn K cd16 "Grid.determinant" = true)
    (K16 : PySem.W.keepIn K (.ref f16) = true)
    (A17 : PySem.W.findIn K (.ref C2) "adjugate" = some (some (.ref f17)))
    (G17 : PySem.W.isFn K (.ref f17) = true)
    (hL17 : K.lookup f17 = some ⟨oc17, od17, .func (PySem.W.fnOf "adjugate" "Grid.adjugate" (defArgs s_Grid_adjugate) (defBody s_Grid_adjugate) (defScope s_Grid_adjugate) .none kV17 dc17 pm17 an17 cd17 ct17), sl17⟩)
    (P17 : PySem.W.codeIn K cd17 "Grid.adjugate" = true)
    (K17 : PySem.W.keepIn K (.ref f17) = true)
    (A18 : PySem.W.findIn K (.ref C2) "is_unimodular" = some (some (.ref f18)))
    (G18 : PySem.W.isFn K (.ref f18) = true)
    (hL18 : K.lookup f18 = some ⟨oc18, od18, .func (PySem.W.fnOf "is_unimodular" "Grid.is_unimodular" (defArgs s_Grid_is_unimodular) (defBody s_Grid_is_unimodular) (defScope s_Grid_is_unimodular) .none kV18 dc18 pm18 an18 cd18 ct18), sl18⟩)
    (P18 : PySem.W.codeIn K cd18 "Grid.is_unimodular" = true)
    (K18 : PySem.W.keepIn K (.ref f18) = true)
    (A19 : PySem.W.nsIn K mainGlobals "_law_cell" = some (some (.ref f19)))
    (hL19 : K.lookup f19 = some ⟨oc19, od19, .func (PySem.W.fnOf "_law_cell" "_law_cell" (defArgs s_law_cell) (defBody s_law_cell) (defScope s_law_cell) .none kV19 dc19 pm19 an19 cd19 ct19), sl19⟩)
    (P19 : PySem.W.codeIn K cd19 "_law_cell" = true)
    (K19 : PySem.W.keepIn K (.ref f19) = true)
    (A20 : PySem.W.nsIn K mainGlobals "_law_state" = some (some (.ref f20)))
    (hL20 : K.lookup f20 = some ⟨oc20, od20, .func (PySem.W.fnOf "_law_state" "_law_state" (defArgs s_law_state) (defBody s_law_state) (defScope s_law_state) .none kV20 dc20 pm20 an20 cd20 ct20), sl20⟩)
    (P20 : PySem.W.codeIn K cd20 "_law_state" = true)
    (K20 : PySem.W.keepIn K (.ref f20) = true)
    (A21 : PySem.W.nsIn K mainGlobals "_law_take" = some (some (.ref f21)))
    (hL21 : K.lookup f21 = some ⟨oc21, od21, .func (PySem.W.fnOf "_law_take" "_law_take" (defArgs s_law_take) (defBody s_law_take) (defScope s_law_take) .none kV21 dc21 pm21 an21 cd21 ct21), sl21⟩)
    (P21 : PySem.W.codeIn K cd21 "_law_take" = true)
    (K21 : PySem.W.keepIn K (.ref f21) = true)
    (A22 : PySem.W.nsIn K mainGlobals "_law_rows" = some (some (.ref f22)))
    (hL22 : K.lookup f22 = some ⟨oc22, od22, .func (PySem.W.fnOf "_law_rows" "_law_rows" (defArgs s_law_rows) (defBody s_law_rows) (defScope s_law_rows) .none kV22 dc22 pm22 an22 cd22 ct22), sl22⟩)
    (P22 : PySem.W.codeIn K cd22 "_law_rows" = true)
    (K22 : PySem.W.keepIn K (.ref f22) = true)
    (A23 : PySem.W.nsIn K mainGlobals "_law_product" = some (some (.ref f23)))
    (hL23 : K.lookup f23 = some ⟨oc23, od23, .func (PySem.W.fnOf "_law_product" "_law_product" (defArgs s_law_product) (defBody s_law_product) (defScope s_law_product) .none kV23 dc23 pm23 an23 cd23 ct23), sl23⟩)
    (P23 : PySem.W.codeIn K cd23 "_law_product" = true)
    (K23 : PySem.W.keepIn K (.ref f23) = true)
    (A24 : PySem.W.nsIn K mainGlobals "_law_determinant" = some (some (.ref f24)))
    (hL24 : K.lookup f24 = some ⟨oc24, od24, .func (PySem.W.fnOf "_law_determinant" "_law_determinant" (defArgs s_law_determinant) (defBody s_law_determinant) (defScope s_law_determinant) .none kV24 dc24 pm24 an24 cd24 ct24), sl24⟩)
    (P24 : PySem.W.codeIn K cd24 "_law_determinant" = true)
    (K24 : PySem.W.keepIn K (.ref f24) = true)
    (A25 : PySem.W.nsIn K mainGlobals "_law_is_rows" = some (some (.ref f25)))
    (hL25 : K.lookup f25 = some ⟨oc25, od25, .func (PySem.W.fnOf "_law_is_rows" "_law_is_rows" (defArgs s_law_is_rows) (defBody s_law_is_rows) (defScope s_law_is_rows) .none kV25 dc25 pm25 an25 cd25 ct25), sl25⟩)
    (P25 : PySem.W.codeIn K cd25 "_law_is_rows" = true)
    (K25 : PySem.W.keepIn K (.ref f25) = true)
    (A26 : PySem.W.nsIn K mainGlobals "_law_refused" = some (some (.ref f26)))
    (hL26 : K.lookup f26 = some ⟨oc26, od26, .func (PySem.W.fnOf "_law_refused" "_law_refused" (defArgs s_law_refused) (defBody s_law_refused) (defScope s_law_refused) .none kV26 dc26 pm26 an26 cd26 ct26), sl26⟩)
    (P26 : PySem.W.codeIn K cd26 "_law_refused" = true)
    (K26 : PySem.W.keepIn K (.ref f26) = true)
    (A27 : PySem.W.nsIn K mainGlobals "law" = some (some (.ref f27)))
    (hL27 : K.lookup f27 = some ⟨oc27, od27, .func (PySem.W.fnOf "law" "law" (defArgs s_law) (defBody s_law) (defScope s_law) .none kV27 dc27 pm27 an27 cd27 ct27), sl27⟩)
    (P27 : PySem.W.codeIn K cd27 "law" = true)
    (K27 : PySem.W.keepIn K (.ref f27) = true)
    (A7 : PySem.W.findIn K (.ref C2) "__iter__" = some (some (.ref f7)))
    (G7 : PySem.W.isFn K (.ref f7) = true)
    (hL7 : K.lookup f7 = some ⟨oc7, od7, .func (PySem.W.fnOf "__iter__" "Grid.__iter__" (defArgs s_Grid_iter) (defBody s_Grid_iter) (defScope s_Grid_iter) .none kV7 dc7 pm7 an7 cd7 ct7), sl7⟩)
    (P7 : PySem.W.codeIn K cd7 "Grid.__iter__" = true)
    (K7 : PySem.W.keepIn K (.ref f7) = true)
    (ca2a : PySem.W.plainGet K C2 Str.empty = true)
    (ca2b : PySem.W.hasDictIn K C2 = true)
    (ca2c : PySem.W.plainOver K C2 = true)
    (ca2d : PySem.W.findIn K (.ref C2) "__setattr__" = some (some (.builtin "object.__setattr__")))
    (in2a : PySem.W.findIn K (.ref C2) "__class__" = some (some (.builtin "object.__class__")))
    (in2c : PySem.W.mroIn K C2 (.type "object") = some true)
    (mk2a : PySem.W.makesIn K C2 = true)
    (mk2b : PySem.W.keepIn K (.ref C2) = true)
    (sf2 : PySem.W.selfFirst K C2 = true)
    (e2n1 : PySem.W.subIn K (.type "tuple") (.ref C2) = some false)
    (e2n2 : PySem.W.subIn K (.type "list") (.ref C2) = some false)
    (e2n3 : PySem.W.subIn K (.type "int") (.ref C2) = some false)
    (e2n4 : PySem.W.subIn K (.type "NoneType") (.ref C2) = some false)
    (e2n5 : PySem.W.subIn K (.type "str") (.ref C2) = some false)
    (e2n6 : PySem.W.subIn K (.type "bool") (.ref C2) = some false)
    (e2ne : PySem.W.findIn K (.ref C2) "__ne__" = some (some (.builtin "object.__ne__")))
    (kd2_1 : PySem.W.subIn K (.ref C1) (.ref C2) = some false)
    (inb : PySem.W.specialIn K (.builtin "object.__class__") "__get__" = some (some (.builtin "getset_descriptor.__get__")))
    (inc : PySem.W.takesIn K (.builtin "object.__class__") = some true)
    (ic2 : PySem.W.isClsIn K C2 = true)
    (ty2 : PySem.W.typeIn K (.ref C2) = some (.type "type"))
    (rt2_bool : PySem.W.subIn K (.ref C2) (.type "bool") = some false)
    (rt2_int : PySem.W.subIn K (.ref C2) (.type "int") = some false)
    (rt2_list : PySem.W.subIn K (.ref C2) (.type "list") = some false)
    (rt2_tuple : PySem.W.subIn K (.ref C2) (.type "tuple") = some false)
    (xra1 : PySem.W.subIn K (.ref C1) (.type "BaseException") = some true)
    (ic1 : PySem.W.isClsIn K C1 = true)
    (xrb1 : PySem.W.typeIn K (.ref C1) = some (.type "type"))
    (rr1_1 : PySem.W.subIn K (.ref C1) (.ref C1) = some true)
    (xna2_rows : PySem.W.findIn K (.ref C2) "rows" = some none)
    (xna2_width : PySem.W.findIn K (.ref C2) "width" = some none)
    (xex1 : PySem.W.excIn K C1 [.type "ValueError", .type "Exception", .type "BaseException", .type "object"] "ValueError.__new__" = true)
    (xkp1 : PySem.W.keepIn K (.ref C1) = true)
    (xz_abs : PySem.W.nsIn K mainGlobals "abs" = some none)
    (xz_bool : PySem.W.nsIn K mainGlobals "bool" = some none)
    (xz_enumerate : PySem.W.nsIn K mainGlobals "enumerate" = some none)
    (xz_int : PySem.W.nsIn K mainGlobals "int" = some none)
    (xz_isinstance : PySem.W.nsIn K mainGlobals "isinstance" = some none)
    (xz_iter : PySem.W.nsIn K mainGlobals "iter" = some none)
    (xz_len : PySem.W.nsIn K mainGlobals "len" = some none)
    (xz_list : PySem.W.nsIn K mainGlobals "list" = some none)
    (xz_range : PySem.W.nsIn K mainGlobals "range" = some none)
    (xz_sum : PySem.W.nsIn K mainGlobals "sum" = some none)
    (xz_tuple : PySem.W.nsIn K mainGlobals "tuple" = some none)
    (xz_zip : PySem.W.nsIn K mainGlobals "zip" = some none)
    : ∃ fd : FuncData, (∀ (s : Shared) (v : Value), BindsTo s fd ⟨[v], []⟩ [("_law_script", v)]) ∧ ∀ base : Heap, K.In base → base.Ns mainGlobals mg → base.NoSeer → FnOk P w K mg base (L2.CX P w) 42 fa fd ["_law_script"] (spLaw K) := by
  have e := hfa.symm.trans (PySem.W.mg_of X G A27)
  cases e
  have F0 := fun_mk (st := s_is_integer) hL0 P0 K0
  have b0 := F0.binds (ps := ["value"]) fun _ _ _ _ _ _ us hl => match us, hl with | [_], _ => rfl
  have F1 := fun_mk (st := s_dot) hL1 P1 K1
  have b1 := F1.binds (ps := ["a", "b"]) fun _ _ _ _ _ _ us hl => match us, hl with | [_, _], _ => rfl
  have F2 := fun_mk (st := s_checked) hL2 P2 K2
  have b2 := F2.binds (ps := ["rows", "width"]) fun _ _ _ _ _ _ us hl => match us, hl with | [_, _], _ => rfl
  have F3 := fun_mk (st := s_determinant) hL3 P3 K3
  have b3 := F3.binds (ps := ["rows"]) fun _ _ _ _ _ _ us hl => match us, hl with | [_], _ => rfl
  have F4 := fun_mk (st := s_minor) hL4 P4 K4
  have b4 := F4.binds (ps := ["rows", "i", "k"]) fun _ _ _ _ _ _ us hl => match us, hl with | [_, _, _], _ => rfl
  have F5 : FunD K "__init__" "Grid.__init__" (defArgs s_Grid_init) (defBody s_Grid_init) (defScope s_Grid_init) [V.non] [] f5 (PySem.W.fnOf "__init__" "Grid.__init__" (defArgs s_Grid_init) (defBody s_Grid_init) (defScope s_Grid_init) (.ref D5) kV5 dc5 pm5 an5 cd5 ct5) := ⟨⟨_, _, _, _, _, _, _, _, _, _, rfl, hL5, P5, .inr ⟨(fun z => nomatch z), D5, _, [Value.none], _, rfl, V5, rfl, .cons rfl .nil⟩, .inl rfl⟩, K5⟩
  obtain ⟨u5, v5, bd5⟩ := FunD.binds1 (ps := ["self", "rows", "width"]) F5 2 0 (fun z => nomatch z) rfl (fun T kV doc pm an cdv ct us its hl hi => by
    match us, hl, its, hi with
    | [_, _], _, [_], _ => exact ⟨_, rfl, rfl⟩)
  obtain ⟨ux5, vx5, b5⟩ := FunD.binds1 (ps := ["self", "rows", "width"]) F5 3 1 (fun z => nomatch z) rfl (fun T kV doc pm an cdv ct us its hl hi => by
    match us, hl, its, hi with
    | [_, _, _], _, [_], _ => exact ⟨_, rfl, rfl⟩)
  cases vx5
  have F6 := fun_mk (st := s_Grid_len) hL6 P6 K6
  have b6 := F6.binds (ps := ["self"]) fun _ _ _ _ _ _ us hl => match us, hl with | [_], _ => rfl
  have F8 := fun_mk (st := s_Grid_eq) hL8 P8 K8
  have b8 := F8.binds (ps := ["self", "other"]) fun _ _ _ _ _ _ us hl => match us, hl with | [_, _], _ => rfl
  have F9 := fun_mk (st := s_Grid_add) hL9 P9 K9
  have b9 := F9.binds (ps := ["self", "other"]) fun _ _ _ _ _ _ us hl => match us, hl with | [_, _], _ => rfl
  have F10 := fun_mk (st := s_Grid_sub) hL10 P10 K10
  have b10 := F10.binds (ps := ["self", "other"]) fun _ _ _ _ _ _ us hl => match us, hl with | [_, _], _ => rfl
  have F11 := fun_mk (st := s_Grid_mul) hL11 P11 K11
  have b11 := F11.binds (ps := ["self", "other"]) fun _ _ _ _ _ _ us hl => match us, hl with | [_, _], _ => rfl
  have F12 := fun_mk (st := s_Grid_neg) hL12 P12 K12
  have b12 := F12.binds (ps := ["self"]) fun _ _ _ _ _ _ us hl => match us, hl with | [_], _ => rfl
  have F13 := fun_mk (st := s_Grid_transposed) hL13 P13 K13
  have b13 := F13.binds (ps := ["self"]) fun _ _ _ _ _ _ us hl => match us, hl with | [_], _ => rfl
  have F14 := fun_mk (st := s_Grid_before) hL14 P14 K14
  have b14 := F14.binds (ps := ["self", "row"]) fun _ _ _ _ _ _ us hl => match us, hl with | [_, _], _ => rfl
  have F15 := fun_mk (st := s_Grid_is_square) hL15 P15 K15
  have b15 := F15.binds (ps := ["self"]) fun _ _ _ _ _ _ us hl => match us, hl with | [_], _ => rfl
  have F16 := fun_mk (st := s_Grid_determinant) hL16 P16 K16
  have b16 := F16.binds (ps := ["self"]) fun _ _ _ _ _ _ us hl => match us, hl with | [_], _ => rfl
  have F17 := fun_mk (st := s_Grid_adjugate) hL17 P17 K17
  have b17 := F17.binds (ps := ["self"]) fun _ _ _ _ _ _ us hl => match us, hl with | [_], _ => rfl
  have F18 := fun_mk (st := s_Grid_is_unimodular) hL18 P18 K18
  have b18 := F18.binds (ps := ["self"]) fun _ _ _ _ _ _ us hl => match us, hl with | [_], _ => rfl
  have F19 := fun_mk (st := s_law_cell) hL19 P19 K19
  have b19 := F19.binds (ps := ["_law_script", "_law_k"]) fun _ _ _ _ _ _ us hl => match us, hl with | [_, _], _ => rfl
  have F20 := fun_mk (st := s_law_state) hL20 P20 K20
  have b20 := F20.binds (ps := ["_law_script"]) fun _ _ _ _ _ _ us hl => match us, hl with | [_], _ => rfl
  have F21 := fun_mk (st := s_law_take) hL21 P21 K21
  have b21 := F21.binds (ps := ["_law_state_here", "_law_m"]) fun _ _ _ _ _ _ us hl => match us, hl with | [_, _], _ => rfl
  have F22 := fun_mk (st := s_law_rows) hL22 P22 K22
  have b22 := F22.binds (ps := ["_law_state_here", "_law_height", "_law_width", "_law_most"]) fun _ _ _ _ _ _ us hl => match us, hl with | [_, _, _, _], _ => rfl
  have F23 := fun_mk (st := s_law_product) hL23 P23 K23
  have b23 := F23.binds (ps := ["_law_a", "_law_b", "_law_width"]) fun _ _ _ _ _ _ us hl => match us, hl with | [_, _, _], _ => rfl
  have F24 := fun_mk (st := s_law_determinant) hL24 P24 K24
  have b24 := F24.binds (ps := ["_law_rows_here"]) fun _ _ _ _ _ _ us hl => match us, hl with | [_], _ => rfl
  have F25 := fun_mk (st := s_law_is_rows) hL25 P25 K25
  have b25 := F25.binds (ps := ["_law_value", "_law_height", "_law_width"]) fun _ _ _ _ _ _ us hl => match us, hl with | [_, _, _], _ => rfl
  have F26 := fun_mk (st := s_law_refused) hL26 P26 K26
  have b26 := F26.binds (ps := ["_law_grid"]) fun _ _ _ _ _ _ us hl => match us, hl with | [_], _ => rfl
  have F27 := fun_mk (st := s_law) hL27 P27 K27
  have b27 := F27.binds (ps := ["_law_script"]) fun _ _ _ _ _ _ us hl => match us, hl with | [_], _ => rfl
  have F7 := fun_mk (st := s_Grid_iter) hL7 P7 K7
  have b7 := F7.binds (ps := ["self"]) fun _ _ _ _ _ _ us hl => match us, hl with | [_], _ => rfl
  let T : Tx K mg :=
    { a := fun n => match n with | 0 => f0 | 1 => f1 | 2 => f2 | 3 => f3 | 4 => f4 | 5 => f5 | 6 => f6 | 7 => f7 | 8 => f8 | 9 => f9 | 10 => f10 | 11 => f11 | 12 => f12 | 13 => f13 | 14 => f14 | 15 => f15 | 16 => f16 | 17 => f17 | 18 => f18 | 19 => f19 | 20 => f20 | 21 => f21 | 22 => f22 | 23 => f23 | 24 => f24 | 25 => f25 | 26 => f26 | 27 => fa | _ => fa
      fd := fun n => match n with | 0 => PySem.W.fnOf "is_integer" "is_integer" (defArgs s_is_integer) (defBody s_is_integer) (defScope s_is_integer) .none kV0 dc0 pm0 an0 cd0 ct0 | 1 => PySem.W.fnOf "dot" "dot" (defArgs s_dot) (defBody s_dot) (defScope s_dot) .none kV1 dc1 pm1 an1 cd1 ct1 | 2 => PySem.W.fnOf "_checked" "_checked" (defArgs s_checked) (defBody s_checked) (defScope s_checked) .none kV2 dc2 pm2 an2 cd2 ct2 | 3 => PySem.W.fnOf "_determinant" "_determinant" (defArgs s_determinant) (defBody s_determinant) (defScope s_determinant) .none kV3 dc3 pm3 an3 cd3 ct3 | 4 => PySem.W.fnOf "_minor" "_minor" (defArgs s_minor) (defBody s_minor) (defScope s_minor) .none kV4 dc4 pm4 an4 cd4 ct4 | 5 => PySem.W.fnOf "__init__" "Grid.__init__" (defArgs s_Grid_init) (defBody s_Grid_init) (defScope s_Grid_init) (.ref D5) kV5 dc5 pm5 an5 cd5 ct5 | 6 => PySem.W.fnOf "__len__" "Grid.__len__" (defArgs s_Grid_len) (defBody s_Grid_len) (defScope s_Grid_len) .none kV6 dc6 pm6 an6 cd6 ct6 | 7 => PySem.W.fnOf "__iter__" "Grid.__iter__" (defArgs s_Grid_iter) (defBody s_Grid_iter) (defScope s_Grid_iter) .none kV7 dc7 pm7 an7 cd7 ct7 | 8 => PySem.W.fnOf "__eq__" "Grid.__eq__" (defArgs s_Grid_eq) (defBody s_Grid_eq) (defScope s_Grid_eq) .none kV8 dc8 pm8 an8 cd8 ct8 | 9 => PySem.W.fnOf "__add__" "Grid.__add__" (defArgs s_Grid_add) (defBody s_Grid_add) (defScope s_Grid_add) .none kV9 dc9 pm9 an9 cd9 ct9 | 10 => PySem.W.fnOf "__sub__" "Grid.__sub__" (defArgs s_Grid_sub) (defBody s_Grid_sub) (defScope s_Grid_sub) .none kV10 dc10 pm10 an10 cd10 ct10 | 11 => PySem.W.fnOf "__mul__" "Grid.__mul__" (defArgs s_Grid_mul) (defBody s_Grid_mul) (defScope s_Grid_mul) .none kV11 dc11 pm11 an11 cd11 ct11 | 12 => PySem.W.fnOf "__neg__" "Grid.__neg__" (defArgs s_Grid_neg) (defBody s_Grid_neg) (defScope s_Grid_neg) .none kV12 dc12 pm12 an12 cd12 ct12 | 13 => PySem.W.fnOf "transposed" "Grid.transposed" (defArgs s_Grid_transposed) (defBody s_Grid_transposed) (defScope s_Grid_transposed) .none kV13 dc13 pm13 an13 cd13 ct13 | 14 => PySem.W.fnOf "before" "Grid.before" (defArgs s_Grid_before) (defBody s_Grid_before) (defScope s_Grid_before) .none kV14 dc14 pm14 an14 cd14 ct14 | 15 => PySem.W.fnOf "is_square" "Grid.is_square" (defArgs s_Grid_is_square) (defBody s_Grid_is_square) (defScope s_Grid_is_square) .none kV15 dc15 pm15 an15 cd15 ct15 | 16 => PySem.W.fnOf "determinant" "Grid.determinant" (defArgs s_Grid_determinant) (defBody s_Grid_determinant) (defScope s_Grid_determinant) .none kV16 dc16 pm16 an16 cd16 ct16 | 17 => PySem.W.fnOf "adjugate" "Grid.adjugate" (defArgs s_Grid_adjugate) (defBody s_Grid_adjugate) (defScope s_Grid_adjugate) .none kV17 dc17 pm17 an17 cd17 ct17 | 18 => PySem.W.fnOf "is_unimodular" "Grid.is_unimodular" (defArgs s_Grid_is_unimodular) (defBody s_Grid_is_unimodular) (defScope s_Grid_is_unimodular) .none kV18 dc18 pm18 an18 cd18 ct18 | 19 => PySem.W.fnOf "_law_cell" "_law_cell" (defArgs s_law_cell) (defBody s_law_cell) (defScope s_law_cell) .none kV19 dc19 pm19 an19 cd19 ct19 | 20 => PySem.W.fnOf "_law_state" "_law_state" (defArgs s_law_state) (defBody s_law_state) (defScope s_law_state) .none kV20 dc20 pm20 an20 cd20 ct20 | 21 => PySem.W.fnOf "_law_take" "_law_take" (defArgs s_law_take) (defBody s_law_take) (defScope s_law_take) .none kV21 dc21 pm21 an21 cd21 ct21 | 22 => PySem.W.fnOf "_law_rows" "_law_rows" (defArgs s_law_rows) (defBody s_law_rows) (defScope s_law_rows) .none kV22 dc22 pm22 an22 cd22 ct22 | 23 => PySem.W.fnOf "_law_product" "_law_product" (defArgs s_law_product) (defBody s_law_product) (defScope s_law_product) .none kV23 dc23 pm23 an23 cd23 ct23 | 24 => PySem.W.fnOf "_law_determinant" "_law_determinant" (defArgs s_law_determinant) (defBody s_law_determinant) (defScope s_law_determinant) .none kV24 dc24 pm24 an24 cd24 ct24 | 25 => PySem.W.fnOf "_law_is_rows" "_law_is_rows" (defArgs s_law_is_rows) (defBody s_law_is_rows) (defScope s_law_is_rows) .none kV25 dc25 pm25 an25 cd25 ct25 | 26 => PySem.W.fnOf "_law_refused" "_law_refused" (defArgs s_law_refused) (defBody s_law_refused) (defScope s_law_refused) .none kV26 dc26 pm26 an26 cd26 ct26 | 27 => PySem.W.fnOf "law" "law" (defArgs s_law) (defBody s_law) (defScope s_law) .none kV27 dc27 pm27 an27 cd27 ct27 | _ => PySem.W.fnOf "is_integer" "is_integer" (defArgs s_is_integer) (defBody s_is_integer) (defScope s_is_integer) .none kV0 dc0 pm0 an0 cd0 ct0
      ca := fun n => match n with | 0 => C2 | 1 => C1 | 2 => C2 | _ => C2
      F0 := F0
      b0 := b0
      m0 := PySem.W.mg_of X G A0
      F1 := F1
      b1 := b1
      m1 := PySem.W.mg_of X G A1
      F2 := F2
      b2 := b2
      m2 := PySem.W.mg_of X G A2
      F3 := F3
      b3 := b3
      m3 := PySem.W.mg_of X G A3
      F4 := F4
      b4 := b4
      m4 := PySem.W.mg_of X G A4
      F5 := F5
      bd5us := u5
      bd5 := ⟨v5, bd5⟩
      b5 := b5
      mk2 := ⟨mk2a, A5, G5, mk2b⟩
      F6 := F6
      b6 := b6
      h6 := A6
      g6 := G6
      F8 := F8
      b8 := b8
      h8 := A8
      g8 := G8
      F9 := F9
      b9 := b9
      h9 := A9
      g9 := G9
      F10 := F10
      b10 := b10
      h10 := A10
      g10 := G10
      F11 := F11
      b11 := b11
      h11 := A11
      g11 := G11
      F12 := F12
      b12 := b12
      h12 := A12
      g12 := G12
      F13 := F13
      b13 := b13
      h13 := A13
      g13 := G13
      F14 := F14
      b14 := b14
      h14 := A14
      g14 := G14
      F15 := F15
      b15 := b15
      h15 := A15
      g15 := G15
      F16 := F16
      b16 := b16
      h16 := A16
      g16 := G16
      F17 := F17
      b17 := b17
      h17 := A17
      g17 := G17
      F18 := F18
      b18 := b18
      h18 := A18
      g18 := G18
      F19 := F19
      b19 := b19
      m19 := PySem.W.mg_of X G A19
      F20 := F20
      b20 := b20
      m20 := PySem.W.mg_of X G A20
      F21 := F21
      b21 := b21
      m21 := PySem.W.mg_of X G A21
      F22 := F22
      b22 := b22
      m22 := PySem.W.mg_of X G A22
      F23 := F23
      b23 := b23
      m23 := PySem.W.mg_of X G A23
      F24 := F24
      b24 := b24
      m24 := PySem.W.mg_of X G A24
      F25 := F25
      b25 := b25
      m25 := PySem.W.mg_of X G A25
      F26 := F26
      b26 := b26
      m26 := PySem.W.mg_of X G A26
      F27 := F27
      b27 := b27
      m27 := PySem.W.mg_of X G A27
      F7 := F7
      b7 := b7
      h7 := A7
      g7 := G7
      mc1 := PySem.W.mg_of X G B1
      mc2 := PySem.W.mg_of X G B2
      cl2 := ⟨ca2a, ca2b, ca2c, ca2d⟩
      ins2 := ⟨⟨ca2a, ca2b, ca2c, ca2d⟩, in2a, inb, inc, in2c⟩
      sf2 := sf2
      eq2 := ⟨e2n1, e2n2, e2n3, e2n4, e2n5, e2n6, e2ne, in2c⟩
      kd2 := fun d hd => match d, hd with | 0, _ => .inr rfl | 1, _ => .inl kd2_1 | 2, z => absurd rfl z | _ + 3, _ => .inr rfl
      na2_rows := xna2_rows
      na2_width := xna2_width
      ex1 := xex1
      kp1 := xkp1
      ra1 := xra1
      rb1 := xrb1
      em1_1 := exm_of xra1 ic1 xrb1 rr1_1
      z_abs := PySem.W.mg_none_of X G xz_abs
      z_bool := PySem.W.mg_none_of X G xz_bool
      z_enumerate := PySem.W.mg_none_of X G xz_enumerate
      z_int := PySem.W.mg_none_of X G xz_int
      z_isinstance := PySem.W.mg_none_of X G xz_isinstance
      z_iter := PySem.W.mg_none_of X G xz_iter
      z_len := PySem.W.mg_none_of X G xz_len
      z_list := PySem.W.mg_none_of X G xz_list
      z_range := PySem.W.mg_none_of X G xz_range
      z_sum := PySem.W.mg_none_of X G xz_sum
      z_tuple := PySem.W.mg_none_of X G xz_tuple
      z_zip := PySem.W.mg_none_of X G xz_zip
      q_Grid_0 := (kit_tr e2n4 ic2 ty2)
      q_Grid_1 := (kit_tr e2n6 ic2 ty2)
      q_Grid_2 := (kit_tr e2n3 ic2 ty2)
      q_Grid_3 := (kit_tr e2n5 ic2 ty2)
      q_Grid_4 := (kit_tr e2n1 ic2 ty2)
      q_Grid_5 := (kit_tr e2n2 ic2 ty2)
      q_Grid_8 := kit_self
      q_bool_0 := (kit_ty (r := false) (by decide +kernel))
      q_bool_1 := (kit_ty (r := true) (by decide +kernel))
      q_bool_2 := (kit_ty (r := false) (by decide +kernel))
      q_bool_3 := (kit_ty (r := false) (by decide +kernel))
      q_bool_4 := (kit_ty (r := false) (by decide +kernel))
      q_bool_5 := (kit_ty (r := false) (by decide +kernel))
      q_bool_8 := (kit_rt (b := false) rt2_bool)
      q_int_0 := (kit_ty (r := false) (by decide +kernel))
      q_int_1 := (kit_ty (r := true) (by decide +kernel))
      q_int_2 := (kit_ty (r := true) (by decide +kernel))
      q_int_3 := (kit_ty (r := false) (by decide +kernel))
      q_int_4 := (kit_ty (r := false) (by decide +kernel))
      q_int_5 := (kit_ty (r := false) (by decide +kernel))
      q_int_8 := (kit_rt (b := false) rt2_int)
      q_list_tuple_0 := kitAny2 (kit_ty (r := false) (by decide +kernel)) (kit_ty (r := false) (by decide +kernel))
      q_list_tuple_1 := kitAny2 (kit_ty (r := false) (by decide +kernel)) (kit_ty (r := false) (by decide +kernel))
      q_list_tuple_2 := kitAny2 (kit_ty (r := false) (by decide +kernel)) (kit_ty (r := false) (by decide +kernel))
      q_list_tuple_3 := kitAny2 (kit_ty (r := false) (by decide +kernel)) (kit_ty (r := false) (by decide +kernel))
      q_list_tuple_4 := kitAny2 (kit_ty (r := false) (by decide +kernel)) (kit_ty (r := true) (by decide +kernel))
      q_list_tuple_5 := kitAny2 (kit_ty (r := true) (by decide +kernel)) (kit_ty (r := false) (by decide +kernel))
      q_list_tuple_8 := kitAny2 (kit_rt (b := false) rt2_list) (kit_rt (b := false) rt2_tuple)
      q_tuple_0 := (kit_ty (r := false) (by decide +kernel))
      q_tuple_1 := (kit_ty (r := false) (by decide +kernel))
      q_tuple_2 := (kit_ty (r := false) (by decide +kernel))
      q_tuple_3 := (kit_ty (r := false) (by decide +kernel))
      q_tuple_4 := (kit_ty (r := true) (by decide +kernel))
      q_tuple_5 := (kit_ty (r := false) (by decide +kernel))
      q_tuple_8 := (kit_rt (b := false) rt2_tuple) }
  exact ⟨PySem.W.fnOf "law" "law" (defArgs s_law) (defBody s_law) (defScope s_law) .none kV27 dc27 pm27 an27 cd27 ct27, fun s v => .of_eq rfl, fun base _ _ hb => (ok_law T hb).imp (sp_law T)⟩
end L2.VD.K02
open PySem PySem.W PyProof.Rows
set_option maxRecDepth 100000 in
set_option maxHeartbeats 0 in
theorem PySem.Challenge.cw_gridmetric_k02_determinants_holds : PySem.Challenge.rw_gridmetric_k02_determinants.Holds := by
  w_on; o_law; k_head; (case hw => w_witness2)
  k_fill
  refine L2.VD.walk_big (l := PySem.Challenge.rw_gridmetric_k02_determinants) (n := 63) (k := 42) (x := "_law_script") (CX := fun w => L2.CX PySem.Challenge.rw_gridmetric_k02_determinants.prog w) (sp := fun w => L2.VD.K02.spLaw _) (by decide +kernel) rfl (by decide) rfl ⟨rfl, by decide, by decide⟩ (fun w h Y => PySem.W.kIn_of Y) ?F (fun _ _ a ns hl hb _ hS => ⟨a, ns, rfl, hS, hl, hb, fun _ => rfl⟩) ?E
  case F =>
    intro w mg fa h KX G hmg
    refine' L2.VD.K02.all_mk KX G hmg ?B1 ?B2 ?A0 ?hL0 ?P0 ?K0 ?A1 ?hL1 ?P1 ?K1 ?A2 ?hL2 ?P2 ?K2 ?A3 ?hL3 ?P3 ?K3 ?A4 ?hL4 ?P4 ?K4 ?A5 ?G5 ?hL5 ?P5 ?K5 ?V5 ?A6 ?G6 ?hL6 ?P6 ?K6 ?A8 ?G8 ?hL8 ?P8 ?K8 ?A9 ?G9 ?hL9 ?P9 ?K9 ?A10 ?G10 ?hL10 ?P10 ?K10 ?A11 ?G11 ?hL11 ?P11 ?K11 ?A12 ?G12 ?hL12 ?P12 ?K12 ?A13 ?G13 ?hL13 ?P13 ?K13 ?A14 ?G14 ?hL14 ?P14 ?K14 ?A15 ?G15 ?hL15 ?P15 ?K15 ?A16 ?G16 ?hL16 ?P16 ?K16 ?A17 ?G17 ?hL17 ?P17 ?K17 ?A18 ?G18 ?hL18 ?P18 ?K18 ?A19 ?hL19 ?P19 ?K19 ?A20 ?hL20 ?P20 ?K20 ?A21 ?hL21 ?P21 ?K21 ?A22 ?hL22 ?P22 ?K22 ?A23 ?hL23 ?P23 ?K23 ?A24 ?hL24 ?P24 ?K24 ?A25 ?hL25 ?P25 ?K25 ?A26 ?hL26 ?P26 ?K26 ?A27 ?hL27 ?P27 ?K27 ?A7 ?G7 ?hL7 ?P7 ?K7 ?ca2a ?ca2b ?ca2c ?ca2d ?in2a ?in2c ?mk2a ?mk2b ?sf2 ?e2n1 ?e2n2 ?e2n3 ?e2n4 ?e2n5 ?e2n6 ?e2ne ?kd2_1 ?inb ?inc ?ic2 ?ty2 ?rt2_bool ?rt2_int ?rt2_list ?rt2_tuple ?xra1 ?ic1 ?xrb1 ?rr1_1 ?xna2_rows ?xna2_width ?xex1 ?xkp1 ?xz_abs ?xz_bool ?xz_enumerate ?xz_int ?xz_isinstance ?xz_iter ?xz_len ?xz_list ?xz_range ?xz_sum ?xz_tuple ?xz_zip
    (case B1 => k_is)
    (case B2 => k_is)
    (case A0 => k_is)
    (case hL0 => k_is)
    (case P0 => k_is)
    (case K0 => k_is)
    (case A1 => k_is)
    (case hL1 => k_is)
    (case P1 => k_is)
    (case K1 => k_is)
    (case A2 => k_is)
    (case hL2 => k_is)
    (case P2 => k_is)
    (case K2 => k_is)
    (case A3 => k_is)
    (case hL3 => k_is)
    (case P3 => k_is)
    (case K3 => k_is)
    (case A4 => k_is)
    (case hL4 => k_is)
    (case P4 => k_is)
    (case K4 => k_is)
    (case A5 => k_is)
    (case G5 => k_is)
    (case hL5 => k_is)
    (case P5 => k_is)
    (case K5 => k_is)
    (case V5 => k_is)
    (case A6 => k_is)
    (case G6 => k_is)
    (case hL6 => k_is)
    (case P6 => k_is)
    (case K6 => k_is)
    (case A8 => k_is)
    (case G8 => k_is)
    (case hL8 => k_is)
    (case P8 => k_is)
    (case K8 => k_is)
    (case A9 => k_is)
    (case G9 => k_is)
    (case hL9 => k_is)
    (case P9 => k_is)
    (case K9 => k_is)
    (case A10 => k_is)
    (case G10 => k_is)
    (case hL10 => k_is)
    (case P10 => k_is)
    (case K10 => k_is)
    (case A11 => k_is)
    (case G11 => k_is)
    (case hL11 => k_is)
    (case P11 => k_is)
    (case K11 => k_is)
    (case A12 => k_is)
    (case G12 => k_is)
    (case hL12 => k_is)
    (case P12 => k_is)
    (case K12 => k_is)
    (case A13 => k_is)
    (case G13 => k_is)
    (case hL13 => k_is)
    (case P13 => k_is)
    (case K13 => k_is)
    (case A14 => k_is)
    (case G14 => k_is)
    (case hL14 => k_is)
    (case P14 => k_is)
    (case K14 => k_is)
    (case A15 => k_is)
    (case G15 => k_is)
    (case hL15 => k_is)
    (case P15 => k_is)
    (case K15 => k_is)
    (case A16 => k_is)
    (case G16 => k_is)
    (case hL16 => k_is)
    (case P16 => k_is)
    (case K16 => k_is)
    (case A17 => k_is)
    (case G17 => k_is)
    (case hL17 => k_is)
    (case P17 => k_is)
    (case K17 => k_is)
    (case A18 => k_is)
    (case G18 => k_is)
    (case hL18 => k_is)
    (case P18 => k_is)
    (case K18 => k_is)
    (case A19 => k_is)
    (case hL19 => k_is)
    (case P19 => k_is)
    (case K19 => k_is)
    (case A20 => k_is)
    (case hL20 => k_is)
    (case P20 => k_is)
    (case K20 => k_is)
    (case A21 => k_is)
    (case hL21 => k_is)
    (case P21 => k_is)
    (case K21 => k_is)
    (case A22 => k_is)
    (case hL22 => k_is)
    (case P22 => k_is)
    (case K22 => k_is)
    (case A23 => k_is)
    (case hL23 => k_is)
    (case P23 => k_is)
    (case K23 => k_is)
    (case A24 => k_is)
    (case hL24 => k_is)
    (case P24 => k_is)
    (case K24 => k_is)
    (case A25 => k_is)
    (case hL25 => k_is)
    (case P25 => k_is)
    (case K25 => k_is)
    (case A26 => k_is)
    (case hL26 => k_is)
    (case P26 => k_is)
    (case K26 => k_is)
    (case A27 => k_is)
    (case hL27 => k_is)
    (case P27 => k_is)
    (case K27 => k_is)
    (case A7 => k_is)
    (case G7 => k_is)
    (case hL7 => k_is)
    (case P7 => k_is)
    (case K7 => k_is)
    (case ca2a => k_is)
    (case ca2b => k_is)
    (case ca2c => k_is)
    (case ca2d => k_is)
    (case in2a => k_is)
    (case in2c => k_is)
    (case mk2a => k_is)
    (case mk2b => k_is)
    (case sf2 => k_is)
    (case e2n1 => k_is)
    (case e2n2 => k_is)
    (case e2n3 => k_is)
    (case e2n4 => k_is)
    (case e2n5 => k_is)
    (case e2n6 => k_is)
    (case e2ne => k_is)
    (case kd2_1 => k_is)
    (case inb => k_is)
    (case inc => k_is)
    (case ic2 => k_is)
    (case ty2 => k_is)
    (case rt2_bool => k_is)
    (case rt2_int => k_is)
    (case rt2_list => k_is)
    (case rt2_tuple => k_is)
    (case xra1 => k_is)
    (case ic1 => k_is)
    (case xrb1 => k_is)
    (case rr1_1 => first | rfl | k_is)
    (case xna2_rows => k_is)
    (case xna2_width => k_is)
    (case xex1 => k_exc)
    (case xkp1 => k_is)
    (case xz_abs => k_is)
    (case xz_bool => k_is)
    (case xz_enumerate => k_is)
    (case xz_int => k_is)
    (case xz_isinstance => k_is)
    (case xz_iter => k_is)
    (case xz_len => k_is)
    (case xz_list => k_is)
    (case xz_range => k_is)
    (case xz_sum => k_is)
    (case xz_tuple => k_is)
    (case xz_zip => k_is)
  case E =>
    intro w H s e s' h
    obtain ⟨_, _, _, _, _, _, _, _, _, _, _, _, h⟩ := h
    exact h

