import PyProof.Rows.All
import Wide.All
import OpenK.AllK
import Wide.FinOn
import HandS.ForMost
import HandS.ForExc
import HandS.CallSlots
import HandS.TupAny
import HandS.TupMul
import HandS.TupLe
import HandS.Wide
import HandS.Zip
import HandS.Flow
import HandS.Deep
import HandS.Style
import HandS.IsInst
import HandS.Gcd
import HandS.TryOnly
import HandS.TryMany
import KE.GoesZip
import KE.GoesMore
import HandS.OwnEq
import HandS.NamedTup0
import PyProof.InstEq
import HandS.IterVal
import HandS.Defaults
import HandS.Words
import PySem.Challenge.RW_gridmetric_k01_matrix_arithmetic
set_option Elab.async false
set_option linter.all false
set_option maxRecDepth 100000
set_option maxHeartbeats 4000000
namespace L2.VD
open PySem PySem.Spec PyProof.Rows

inductive T where
  | non | bl (b : Bool) | int (i : Int) | str (x : Str)
  | tup (ts : List T) | lst (ts : List T) | sq (ts : List T)
  | obj (c : Nat) (ts : List T)

/-- the written part, the classes' addresses, their fields' names -/
structure VX where
  K : PySem.W.Frag
  ca : Nat → Addr
  cf : Nat → List Str

section
variable (C : VX) (G : Hp)
mutual
def Rp : T → V → Prop
  | .non, v => v = .non
  | .bl b, v => v = .bl b
  | .int i, v => v = .int i
  | .str x, v => v = .str x
  | .tup ts, v => ∃ a xs, v = .ref a ∧ SqT C.K G a xs ∧ Rps ts xs
  | .lst ts, v => ∃ a xs, v = .ref a ∧ G a = some (.lst xs) ∧ Rps ts xs
  | .sq ts, v => ∃ a xs, v = .ref a ∧ SqL C.K G a xs ∧ Rps ts xs
  | .obj c ts, v => ∃ a dx xs, v = .ref a ∧ G a = some (.ins (C.ca c) dx ((C.cf c).zip xs)) ∧ xs.length = (C.cf c).length ∧ Rps ts xs
def Rps : List T → List V → Prop
  | [], xs => xs = []
  | t :: ts, xs => ∃ x r, xs = x :: r ∧ Rp t x ∧ Rps ts r
end
end
section
variable {C : VX} {G G' : Hp}
theorem sqT_mono {K : PySem.W.Frag} {a : Addr} {xs : List V} (g : ∀ a o, G a = some o → G' a = some o) (h : SqT K G a xs) : SqT K G' a xs := by
  rcases h with (h | ⟨o, h⟩) | h
  · exact .inl (.inl (g _ _ h))
  · exact .inl (.inr ⟨o, g _ _ h⟩)
  · exact .inr h
theorem sqL_mono {K : PySem.W.Frag} {a : Addr} {xs : List V} (g : ∀ a o, G a = some o → G' a = some o) (h : SqL K G a xs) : SqL K G' a xs := by
  rcases h with (h | ⟨o, h⟩) | h
  · exact .inl (.inl (g _ _ h))
  · exact .inl (.inr ⟨o, g _ _ h⟩)
  · exact .inr h
mutual
theorem Rp.mono (g : ∀ a o, G a = some o → G' a = some o) : ∀ (t : T) {v : V}, Rp C G t v → Rp C G' t v
  | .non, _, h => h
  | .bl _, _, h => h
  | .int _, _, h => h
  | .str _, _, h => h
  | .tup ts, _, h => by
    obtain ⟨a, xs, e, h1, h2⟩ := h
    exact ⟨a, xs, e, sqT_mono g h1, Rps.mono g ts h2⟩
  | .lst ts, _, h => by
    obtain ⟨a, xs, e, h1, h2⟩ := h
    exact ⟨a, xs, e, g _ _ h1, Rps.mono g ts h2⟩
  | .sq ts, _, h => by
    obtain ⟨a, xs, e, h1, h2⟩ := h
    exact ⟨a, xs, e, sqL_mono g h1, Rps.mono g ts h2⟩
  | .obj c ts, _, h => by
    obtain ⟨a, dx, xs, e, h1, hl, h2⟩ := h
    exact ⟨a, dx, xs, e, g _ _ h1, hl, Rps.mono g ts h2⟩
theorem Rps.mono (g : ∀ a o, G a = some o → G' a = some o) : ∀ (ts : List T) {xs : List V}, Rps C G ts xs → Rps C G' ts xs
  | [], _, h => h
  | t :: ts, _, h => by
    obtain ⟨x, r, e, h1, h2⟩ := h
    exact ⟨x, r, e, Rp.mono g t h1, Rps.mono g ts h2⟩
end
theorem Rps.length : ∀ {ts : List T} {xs : List V}, Rps C G ts xs → xs.length = ts.length
  | [], _, h => by
    have e : _ = [] := h
    rw [e]; rfl
  | t :: ts, _, h => by
    obtain ⟨x, r, rfl, _, h2⟩ := h
    rw [List.length_cons, List.length_cons, Rps.length h2]
theorem Rps.nil : Rps C G [] [] := rfl
theorem Rps.cons {t : T} {ts : List T} {x : V} {xs : List V} (h : Rp C G t x) (hs : Rps C G ts xs) : Rps C G (t :: ts) (x :: xs) := ⟨x, xs, rfl, h, hs⟩
theorem Rps.get : ∀ {ts : List T} {xs : List V} {i : Nat} {t : T}, Rps C G ts xs → ts[i]? = some t → ∃ x, xs[i]? = some x ∧ Rp C G t x
  | [], _, i, t, _, e => by simp at e
  | u :: ts, _, 0, t, h, e => by
    obtain ⟨x, r, rfl, h1, _⟩ := h
    have e' : u = t := by simpa using e
    exact ⟨x, rfl, e' ▸ h1⟩
  | u :: ts, _, i + 1, t, h, e => by
    obtain ⟨x, r, rfl, _, h2⟩ := h
    have e' : ts[i]? = some t := by simpa using e
    obtain ⟨y, e1, e2⟩ := Rps.get h2 e'
    exact ⟨y, by simpa using e1, e2⟩
theorem Rps.append : ∀ {ts us : List T} {xs ys : List V}, Rps C G ts xs → Rps C G us ys → Rps C G (ts ++ us) (xs ++ ys)
  | [], _, _, _, h, k => by
    have e : _ = [] := h
    rw [e]; exact k
  | t :: ts, _, _, _, h, k => by
    obtain ⟨x, r, rfl, h1, h2⟩ := h
    exact ⟨x, r ++ _, rfl, h1, Rps.append h2 k⟩
theorem Rps.set : ∀ {ts : List T} {xs : List V} {t : T} {x : V} (i : Nat), Rps C G ts xs → Rp C G t x → Rps C G (ts.set i t) (xs.set i x)
  | [], _, _, _, _, h, _ => by
    have e : _ = [] := h
    rw [e]; rfl
  | t :: ts, _, _, y, 0, h, k => by
    obtain ⟨x, r, rfl, h1, h2⟩ := h
    exact ⟨y, r, rfl, k, h2⟩
  | t :: ts, _, _, y, i + 1, h, k => by
    obtain ⟨x, r, rfl, h1, h2⟩ := h
    exact ⟨x, r.set i y, rfl, h1, Rps.set i h2 k⟩
theorem Rps.take : ∀ {ts : List T} {xs : List V} (n : Nat), Rps C G ts xs → Rps C G (ts.take n) (xs.take n)
  | ts, xs, 0, _ => by simp [Rps]
  | [], _, n + 1, h => by
    have e : _ = [] := h
    rw [e]; rfl
  | t :: ts, _, n + 1, h => by
    obtain ⟨x, r, rfl, h1, h2⟩ := h
    exact ⟨x, r.take n, rfl, h1, Rps.take n h2⟩
theorem Rps.drop : ∀ {ts : List T} {xs : List V} (n : Nat), Rps C G ts xs → Rps C G (ts.drop n) (xs.drop n)
  | ts, xs, 0, h => h
  | [], _, n + 1, h => by
    have e : _ = [] := h
    rw [e]; rfl
  | t :: ts, _, n + 1, h => by
    obtain ⟨x, r, rfl, h1, h2⟩ := h
    exact Rps.drop n h2
theorem Rps.eraseIdx : ∀ {ts : List T} {xs : List V} (n : Nat), Rps C G ts xs → Rps C G (ts.eraseIdx n) (xs.eraseIdx n)
  | [], _, n, h => by
    have e : _ = [] := h
    rw [e]; rfl
  | t :: ts, _, 0, h => by
    obtain ⟨x, r, rfl, h1, h2⟩ := h
    exact h2
  | t :: ts, _, n + 1, h => by
    obtain ⟨x, r, rfl, h1, h2⟩ := h
    exact ⟨x, r.eraseIdx n, rfl, h1, Rps.eraseIdx n h2⟩
theorem Rps.reverse : ∀ {ts : List T} {xs : List V}, Rps C G ts xs → Rps C G ts.reverse xs.reverse
  | [], _, h => by
    have e : _ = [] := h
    rw [e]; rfl
  | t :: ts, _, h => by
    obtain ⟨x, r, rfl, h1, h2⟩ := h
    rw [List.reverse_cons, List.reverse_cons]
    exact Rps.append (Rps.reverse h2) (Rps.cons h1 .nil)
theorem Rps.ints : ∀ {ns : List Int} {xs : List V}, Rps C G (ns.map T.int) xs ↔ xs = ns.map V.int
  | [], xs => Iff.rfl
  | n :: ns, xs => by
    constructor
    · rintro ⟨x, r, rfl, h1, h2⟩
      have e : x = V.int n := h1
      rw [e, Rps.ints.mp h2]; rfl
    · intro e
      rw [e]
      exact ⟨V.int n, ns.map V.int, rfl, rfl, Rps.ints.mpr rfl⟩
end

inductive Slot where
  | un | sh (t : T) | ol (pin : Bool) (ts : List T) | oll (tss : List (List T)) | oi (c : Nat) (ts : List T)

def ownsV (H : Hp) (v : V) : Slot → Addr → Prop
  | .ol _ _, a => v = .ref a
  | .oi _ _, a => v = .ref a
  | .oll _, a => v = .ref a ∨ ∃ b xs, v = .ref b ∧ H b = some (.lst xs) ∧ V.ref a ∈ xs
  | .un, _ => False
  | .sh _, _ => False

/-- lists in a list, each one by itself -/
def Rll (C : VX) (G H : Hp) : List (List T) → List V → Prop
  | [], xs => xs = []
  | ts :: r, xs => ∃ b ys xr, xs = .ref b :: xr ∧ H b = some (.lst ys) ∧ Rps C G ts ys ∧ Rll C G H r xr

def SlotOk (C : VX) (G H : Hp) (ov : Option (Option V)) : Slot → Prop
  | .un => True
  | .sh t => ∃ v, ov = some (some v) ∧ Rp C G t v
  | .ol _ ts => ∃ a xs, ov = some (some (.ref a)) ∧ H a = some (.lst xs) ∧ Rps C G ts xs
  | .oll tss => ∃ a xs, ov = some (some (.ref a)) ∧ H a = some (.lst xs) ∧ xs.Nodup ∧ V.ref a ∉ xs ∧ Rll C G H tss xs
  | .oi c ts => ∃ a dx xs, ov = some (some (.ref a)) ∧ H a = some (.ins (C.ca c) dx ((C.cf c).zip xs)) ∧ xs.length ≤ (C.cf c).length ∧ Rps C G ts xs

/-- slots, their values, the heap, its part that no one changes any more -/
structure S where
  e : List Slot
  σ : St
  H : Hp
  G : Hp

def Owns (s : S) (i : Nat) (a : Addr) : Prop := ∃ sl v, s.e[i]? = some sl ∧ s.σ[i]? = some (some v) ∧ ownsV s.H v sl a

structure Sees (C : VX) (s : S) : Prop where
  sub : ∀ a o, s.G a = some o → s.H a = some o
  len : s.e.length = s.σ.length
  at_ : ∀ (i : Nat) sl, s.e[i]? = some sl → SlotOk C s.G s.H s.σ[i]? sl
  own : ∀ i a, Owns s i a → s.G a = none
  inj : ∀ i j a, Owns s i a → Owns s j a → i = j

/-- kept at its place: lent by a caller, or an instance in the making -/
def Slot.pk : Slot → Option Nat
  | .ol true _ => some 0
  | .oi c _ => some (c + 1)
  | _ => none
structure Ext (s s' : S) : Prop where
  g : ∀ a o, s.G a = some o → s'.G a = some o
  keep : ∀ a o, s.H a = some o → (∀ i, ¬ Owns s i a) → s'.H a = some o
  gnew : ∀ a, s'.G a ≠ none → s.G a ≠ none ∨ s.H a = none ∨ ∃ i, Owns s i a
  own : ∀ i a, Owns s' i a → s.H a = none ∨ ∃ j, Owns s j a
  pin : ∀ (i k : Nat), (s.e[i]?).bind Slot.pk = some k → s'.σ[i]? = s.σ[i]? ∧ (s'.e[i]?).bind Slot.pk = some k

theorem Ext.refl (s : S) : Ext s s where
  g := fun _ _ h => h
  keep := fun _ _ h _ => h
  gnew := fun _ h => .inl h
  own := fun i _ h => .inr ⟨i, h⟩
  pin := fun _ _ h => ⟨rfl, h⟩
theorem Ext.gone {s s' : S} (x : Ext s s') {a : Addr} (h : s'.H a = none) : s.H a = none ∨ ∃ j, Owns s j a := by
  by_cases hj : ∃ j, Owns s j a
  · exact .inr hj
  · left
    cases e : s.H a with
    | none => rfl
    | some o =>
      have := x.keep a o e (fun i hi => hj ⟨i, hi⟩)
      rw [h] at this
      cases this
theorem Ext.trans {s s1 s2 : S} (x : Ext s s1) (y : Ext s1 s2) : Ext s s2 where
  g := fun a o h => y.g a o (x.g a o h)
  keep := fun a o h hn => y.keep a o (x.keep a o h hn) fun i hi => by
    rcases x.own i a hi with e | ⟨j, hj⟩
    · rw [h] at e; cases e
    · exact hn j hj
  gnew := fun a h => by
    rcases y.gnew a h with h1 | h1 | ⟨i, h1⟩
    · exact x.gnew a h1
    · exact .inr (x.gone h1)
    · exact .inr (x.own i a h1)
  own := fun i a h => by
    rcases y.own i a h with h1 | ⟨j, h1⟩
    · exact x.gone h1
    · exact x.own j a h1
  pin := fun i k h => by
    obtain ⟨e1, h1⟩ := x.pin i k h
    obtain ⟨e2, h2⟩ := y.pin i k h1
    exact ⟨e2.trans e1, h2⟩

inductive Out where
  | sh (t : T) | fr (ts : List T) | frr (tss : List (List T)) | ft (tss : List (List T))

def Out.t : Out → T
  | .sh t => t
  | .fr ts => .lst ts
  | .frr tss => .lst (tss.map T.lst)
  | .ft tss => .tup (tss.map T.lst)

/-- new, and no one's -/
structure Fresh (s s' : S) (a : Addr) : Prop where
  g : s'.G a = none
  no : ∀ i, ¬ Owns s' i a
  new : s.H a = none ∨ ∃ j, Owns s j a
theorem Fresh.base {s s1 s2 : S} {a : Addr} (x : Ext s s1) (f : Fresh s1 s2 a) : Fresh s s2 a :=
  ⟨f.g, f.no, f.new.elim (fun h => x.gone h) fun ⟨j, h⟩ => x.own j a h⟩

def OutOk (C : VX) (s s' : S) (v : V) : Out → Prop
  | .sh t => Rp C s'.G t v
  | .fr ts => ∃ a xs, v = .ref a ∧ s'.H a = some (.lst xs) ∧ Fresh s s' a ∧ Rps C s'.G ts xs
  | .frr tss => ∃ a xs, v = .ref a ∧ s'.H a = some (.lst xs) ∧ Fresh s s' a ∧ xs.Nodup ∧ V.ref a ∉ xs ∧ Rll C s'.G s'.H tss xs ∧ ∀ b, V.ref b ∈ xs → Fresh s s' b
  | .ft tss => ∃ a xs, v = .ref a ∧ SqT C.K s'.G a xs ∧ xs.Nodup ∧ Rll C s'.G s'.H tss xs ∧ ∀ b, V.ref b ∈ xs → Fresh s s' b
theorem OutOk.base {C : VX} {s s1 s2 : S} {v : V} (x : Ext s s1) : ∀ {o : Out}, OutOk C s1 s2 v o → OutOk C s s2 v o
  | .sh _, h => h
  | .fr _, ⟨a, xs, e, h1, f, h2⟩ => ⟨a, xs, e, h1, f.base x, h2⟩
  | .frr _, ⟨a, xs, e, h1, f, h2, h3, h4, h5⟩ => ⟨a, xs, e, h1, f.base x, h2, h3, h4, fun b hb => (h5 b hb).base x⟩
  | .ft _, ⟨a, xs, e, h1, h2, h3, h4⟩ => ⟨a, xs, e, h1, h2, h3, fun b hb => (h4 b hb).base x⟩

/-- an exception: its class, its fields -/
structure Exn where
  c : Nat
  ts : List T
inductive Res (α : Type) where
  | ok (a : α) (e : List Slot) | ex (x : Exn) (e : List Slot) | bad
def Res.bind {α β : Type} (r : Res α) (f : α → List Slot → Res β) : Res β := match r with
  | .ok a e => f a e
  | .ex x e => .ex x e
  | .bad => .bad
def Res.of {α : Type} (o : Option α) (e : List Slot) : Res α := match o with
  | some a => .ok a e
  | none => .bad

def XOk (C : VX) (s' : S) (cls : Value) (d : Option Addr) (x : Exn) : Prop :=
  cls = .ref (C.ca x.c) ∧ match d with
    | none => x.ts = []
    | some dx => ∃ xs, s'.H dx = some (.xd ((C.cf x.c).zip xs)) ∧ xs.length = (C.cf x.c).length ∧ Rps C s'.G x.ts xs

section
variable (C : VX) (W : WX)
def SatE {α : Type} (s : S) (r : Res α) (P : α → S → Prop) : Prop := match r with
  | .ok a e' => ∀ H' G', Sees C ⟨e', s.σ, H', G'⟩ → Ext s ⟨e', s.σ, H', G'⟩ → P a ⟨e', s.σ, H', G'⟩
  | .ex x e' => ∀ cls d H' G', Sees C ⟨e', s.σ, H', G'⟩ → Ext s ⟨e', s.σ, H', G'⟩ → XOk C ⟨e', s.σ, H', G'⟩ cls d x → W cls d s.σ H'
  | .bad => False
inductive Fl where
  | nx | bk | ct | rt (o : Out)
def FlOk (D : Ends) (s s' : S) : Fl → Prop
  | .nx => D.nx s'.σ s'.H
  | .bk => D.bk s'.σ s'.H
  | .ct => D.ct s'.σ s'.H
  | .rt o => ∀ v, OutOk C s s' v o → D.rt v s'.H
def SatS (s : S) (r : Res Fl) (D : Ends) : Prop := match r with
  | .ok f e' => ∀ σ' H' G', Sees C ⟨e', σ', H', G'⟩ → Ext s ⟨e', σ', H', G'⟩ → FlOk C D s ⟨e', σ', H', G'⟩ f
  | .ex x e' => ∀ cls d σ' H' G', Sees C ⟨e', σ', H', G'⟩ → Ext s ⟨e', σ', H', G'⟩ → XOk C ⟨e', σ', H', G'⟩ cls d x → W cls d σ' H'
  | .bad => False
/-- an expression's denotation, as a reading -/
abbrev DE := List Slot → Res Out
abbrev DT := List Slot → Res Bool
abbrev DA := List Slot → Res (List T)
abbrev DS := List Slot → Res Fl
def tD (d : DE) : TE := fun σ H Q => ∃ e G, Sees C ⟨e, σ, H, G⟩ ∧ SatE C W ⟨e, σ, H, G⟩ (d e) fun o s' => ∀ v, OutOk C ⟨e, σ, H, G⟩ s' v o → Q v s'.H
def tDT (d : DT) : TT := fun σ H Q => ∃ e G, Sees C ⟨e, σ, H, G⟩ ∧ SatE C W ⟨e, σ, H, G⟩ (d e) fun b s' => Q b s'.H
def tDA (d : DA) : TA := fun σ H Q => ∃ e G, Sees C ⟨e, σ, H, G⟩ ∧ SatE C W ⟨e, σ, H, G⟩ (d e) fun ts s' => ∀ vs, Rps C s'.G ts vs → Q vs s'.H
def tDS (d : DS) : TS := fun D σ H => ∃ e G, Sees C ⟨e, σ, H, G⟩ ∧ SatS C W ⟨e, σ, H, G⟩ (d e) D
end

theorem _root_.L2.PE.imp {X : Cx} {e : Expr} {t t' : TE} (h : PE X e t) (i : ∀ σ H Q, t' σ H Q → t σ H Q) : PE X e t' := ⟨fun pins s σ H Q I q => h.run pins s σ H Q I (i σ H Q q)⟩
theorem _root_.L2.PT.imp {X : Cx} {e : Expr} {t t' : TT} (h : PT X e t) (i : ∀ σ H Q, t' σ H Q → t σ H Q) : PT X e t' := ⟨fun pins s σ H Q I q => h.run pins s σ H Q I (i σ H Q q)⟩
theorem _root_.L2.PA.imp {X : Cx} {es : List Expr} {t t' : TA} (h : PA X es t) (i : ∀ σ H Q, t' σ H Q → t σ H Q) : PA X es t' := ⟨fun pos pins s σ H Q I q => h.run pos pins s σ H Q I (i σ H Q q)⟩
theorem _root_.L2.PS.imp {X : Cx} {st : Stmt} {t t' : TS} (h : PS X st t) (i : ∀ D σ H, t' D σ H → t D σ H) : PS X st t' := ⟨fun pins s σ H D I q => h.run pins s σ H D I (i D σ H q)⟩
theorem _root_.L2.PSs.imp {X : Cx} {st : List Stmt} {t t' : TS} (h : PSs X st t) (i : ∀ D σ H, t' D σ H → t D σ H) : PSs X st t' := ⟨fun pins s σ H D I q => h.run pins s σ H D I (i D σ H q)⟩

section
variable {C : VX} {W : WX} {α β : Type} {s : S}
theorem SatE.mono {r : Res α} {P P' : α → S → Prop} (h : SatE C W s r P) (i : ∀ a s', Sees C s' → Ext s s' → s'.σ = s.σ → P a s' → P' a s') : SatE C W s r P' := by
  cases r with
  | ok a e => exact fun H' G' h1 h2 => i a _ h1 h2 rfl (h H' G' h1 h2)
  | ex x e => exact h
  | bad => exact h
theorem SatE.rebase {s1 : S} {r : Res α} {P : α → S → Prop} (h : SatE C W s r P) (hσ : s1.σ = s.σ) (x : Ext s s1) : SatE C W s1 r P := by
  obtain ⟨e1, σ1, H1, G1⟩ := s1
  have : σ1 = s.σ := hσ
  subst this
  cases r with
  | ok a e => exact fun H' G' h1 h2 => h H' G' h1 (x.trans h2)
  | ex y e => exact fun cls d H' G' h1 h2 h3 => h cls d H' G' h1 (x.trans h2) h3
  | bad => exact h
theorem SatE.bind {r : Res α} {f : α → List Slot → Res β} {P : β → S → Prop} (h : SatE C W s (r.bind f) P) : SatE C W s r fun a s1 => SatE C W s1 (f a s1.e) P := by
  cases r with
  | ok a e =>
    have h' : SatE C W s (f a e) P := h
    exact fun H' G' h1 h2 => h'.rebase rfl h2
  | ex x e => exact h
  | bad => exact h
theorem SatS.rebase {s1 : S} {r : Res Fl} {D : Ends} (h : SatS C W s r D) (x : Ext s s1) : SatS C W s1 r D := by
  cases r with
  | ok f e =>
    intro σ' H' G' h1 h2
    have h3 := h σ' H' G' h1 (x.trans h2)
    cases f with
    | rt o => exact fun v ov => h3 v (ov.base x)
    | nx => exact h3
    | bk => exact h3
    | ct => exact h3
  | ex y e => exact fun cls d σ' H' G' h1 h2 h3 => h cls d σ' H' G' h1 (x.trans h2) h3
  | bad => exact h
/-- an expression, then the rest of a statement -/
def Res.bindS {α : Type} (r : Res α) (f : α → List Slot → Res Fl) : Res Fl := r.bind f
theorem SatS.bind {r : Res α} {f : α → List Slot → Res Fl} {D : Ends} (h : SatS C W s (r.bind f) D) : SatE C W s r fun a s1 => SatS C W s1 (f a s1.e) D := by
  cases r with
  | ok a e =>
    have h' : SatS C W s (f a e) D := h
    exact fun H' G' h1 h2 => h'.rebase h2
  | ex x e => exact fun cls d H' G' h1 h2 h3 => h cls d s.σ H' G' h1 h2 h3
  | bad => exact h
end
end L2.VD

namespace L2.VD
open PySem PySem.Spec PyProof.Rows

section
variable {C : VX} {G G' H H' : Hp}
theorem Rll.length : ∀ {tss : List (List T)} {xs : List V}, Rll C G H tss xs → xs.length = tss.length
  | [], _, h => by
    have e : _ = [] := h
    rw [e]; rfl
  | t :: ts, _, h => by
    obtain ⟨b, ys, xr, rfl, _, _, h2⟩ := h
    rw [List.length_cons, List.length_cons, Rll.length h2]
theorem Rll.mono (k : ∀ b o, V.ref b ∈ xs → H b = some o → H' b = some o) (g : ∀ a o, G a = some o → G' a = some o) : ∀ {tss : List (List T)}, Rll C G H tss xs → Rll C G' H' tss xs := by
  induction xs with
  | nil =>
    intro tss h
    cases tss with
    | nil => rfl
    | cons t ts => obtain ⟨b, ys, xr, e, _⟩ := h; cases e
  | cons x xs ih =>
    intro tss h
    cases tss with
    | nil => cases h
    | cons t ts =>
      obtain ⟨b, ys, xr, e, h1, h2, h3⟩ := h
      cases e
      exact ⟨b, ys, xs, rfl, k b _ (List.mem_cons_self ..) h1, h2.mono g, ih (fun b o hb => k b o (List.mem_cons_of_mem _ hb)) h3⟩
theorem Rll.here : ∀ {tss : List (List T)} {xs : List V}, Rll C G H tss xs → ∀ x ∈ xs, ∃ b ys, x = .ref b ∧ H b = some (.lst ys)
  | [], _, h, x, hx => by
    have e : _ = [] := h
    rw [e] at hx; cases hx
  | t :: ts, _, h, x, hx => by
    obtain ⟨b, ys, xr, rfl, h1, h2, h3⟩ := h
    cases hx with
    | head => exact ⟨b, ys, rfl, h1⟩
    | tail _ hx => exact Rll.here h3 x hx
theorem Rll.get : ∀ {tss : List (List T)} {xs : List V} {i : Nat} {ts : List T}, Rll C G H tss xs → tss[i]? = some ts → ∃ b ys, xs[i]? = some (.ref b) ∧ H b = some (.lst ys) ∧ Rps C G ts ys
  | [], _, i, t, _, e => by simp at e
  | u :: ts, _, 0, t, h, e => by
    obtain ⟨b, ys, xr, rfl, h1, h2, h3⟩ := h
    have e' : u = t := by simpa using e
    subst e'
    exact ⟨b, ys, rfl, h1, h2⟩
  | u :: ts, _, i + 1, t, h, e => by
    obtain ⟨b, ys, xr, rfl, h1, h2, h3⟩ := h
    have e' : ts[i]? = some t := by simpa using e
    obtain ⟨c, zs, e1, e2, e3⟩ := Rll.get h3 e'
    exact ⟨c, zs, by simpa using e1, e2, e3⟩
end

section
variable {C : VX} {s : S} {H' G' : Hp}
theorem SlotOk.mono {G G' H H' : Hp} {ov : Option (Option V)} (k : ∀ a o, H a = some o → H' a = some o) (g : ∀ a o, G a = some o → G' a = some o) : ∀ {sl : Slot}, SlotOk C G H ov sl → SlotOk C G' H' ov sl
  | .un, _ => trivial
  | .sh t, ⟨v, e, h⟩ => ⟨v, e, h.mono g⟩
  | .ol _ ts, ⟨a, xs, e, h1, h2⟩ => ⟨a, xs, e, k _ _ h1, h2.mono g⟩
  | .oll tss, ⟨a, xs, e, h1, h2, h3, h4⟩ => ⟨a, xs, e, k _ _ h1, h2, h3, h4.mono (fun b o _ => k b o) g⟩
  | .oi c ts, ⟨a, dx, xs, e, h1, h2, h3⟩ => ⟨a, dx, xs, e, k _ _ h1, h2, h3.mono g⟩
theorem Owns.here (hs : Sees C s) {i : Nat} {a : Addr} (h : Owns s i a) : ∃ o, s.H a = some o := by
  obtain ⟨sl, v, h1, h2, h3⟩ := h
  have h4 := hs.at_ i sl h1
  rw [h2] at h4
  cases sl with
  | un => exact h3.elim
  | sh t => exact h3.elim
  | ol p ts =>
    obtain ⟨b, xs, e, h5, _⟩ := h4
    cases e
    cases (show V.ref b = V.ref a from h3)
    exact ⟨_, h5⟩
  | oi c ts =>
    obtain ⟨b, dx, xs, e, h5, _⟩ := h4
    cases e
    cases (show V.ref b = V.ref a from h3)
    exact ⟨_, h5⟩
  | oll tss =>
    obtain ⟨b, xs, e, h5, _, _, h6⟩ := h4
    cases e
    rcases h3 with h3 | ⟨b', xs', h3, h7, h8⟩
    · cases h3
      exact ⟨_, h5⟩
    · cases h3
      rw [h5] at h7
      cases h7
      obtain ⟨c, ys, e, h9⟩ := h6.here _ h8
      cases e
      exact ⟨_, h9⟩
theorem ownsV_back {H H' : Hp} {v : V} {a : Addr} {sl : Slot} {G : Hp} (h4 : SlotOk C G H (some (some v)) sl) (k : ∀ b o, (v = .ref b) → H b = some o → H' b = some o) (h : ownsV H' v sl a) : ownsV H v sl a := by
  cases sl with
  | un => exact h
  | sh t => exact h
  | ol p ts => exact h
  | oi c ts => exact h
  | oll tss =>
    rcases h with h | ⟨b, xs, rfl, h7, h8⟩
    · exact .inl h
    · obtain ⟨b', xs', e, h5, _⟩ := h4
      cases e
      have := k b _ rfl h5
      rw [h7] at this
      cases this
      exact .inr ⟨b, xs, rfl, h5, h8⟩
theorem Owns.back (hs : Sees C s) (k : ∀ a o, s.H a = some o → H' a = some o) {i : Nat} {a : Addr} (h : Owns ⟨s.e, s.σ, H', G'⟩ i a) : Owns s i a := by
  obtain ⟨sl, v, h1, h2, h3⟩ := h
  have h4 := hs.at_ i sl h1
  have h2' : s.σ[i]? = some (some v) := h2
  rw [h2'] at h4
  exact ⟨sl, v, h1, h2, ownsV_back h4 (fun b o _ => k b o) h3⟩
theorem Sees.grow (hs : Sees C s) (k : ∀ a o, s.H a = some o → H' a = some o) (g : ∀ a o, s.G a = some o → G' a = some o) (sub : ∀ a o, G' a = some o → H' a = some o) (gn : ∀ a, G' a ≠ none → s.G a ≠ none ∨ s.H a = none) :
    Sees C ⟨s.e, s.σ, H', G'⟩ ∧ Ext s ⟨s.e, s.σ, H', G'⟩ := by
  constructor
  · refine ⟨sub, hs.len, fun i sl h => (hs.at_ i sl h).mono k g, fun i a h => ?_, fun i j a h1 h2 => hs.inj i j a (h1.back hs k) (h2.back hs k)⟩
    have h1 := h.back hs k
    have h2 := hs.own i a h1
    obtain ⟨o, h3⟩ := h1.here hs
    cases e : G' a with
    | none => exact e
    | some o' =>
      rcases gn a (by rw [e]; exact fun z => nomatch z) with z | z
      · exact absurd h2 z
      · rw [h3] at z; cases z
  · exact ⟨g, fun a o h _ => k a o h, fun a h => (gn a h).elim .inl fun z => .inr (.inl z), fun i a h => .inr ⟨i, h.back hs k⟩, fun i ts h => ⟨rfl, h⟩⟩
theorem upd_sup {H : Hp} {p : Addr} {o : HO} (h : H p = none) : ∀ b u, H b = some u → upd H p o b = some u := fun b u e => by
  rw [upd_ne (ne_of_none e h)]
  exact e
theorem Sees.gnone (hs : Sees C s) {p : Addr} (h : s.H p = none) : s.G p = none := by
  cases e : s.G p with
  | none => rfl
  | some o =>
    have := hs.sub p o e
    rw [h] at this
    cases this
/-- a new thing, frozen at once -/
theorem Sees.newG (hs : Sees C s) {p : Addr} (h : s.H p = none) (o : HO) : Sees C ⟨s.e, s.σ, upd s.H p o, upd s.G p o⟩ ∧ Ext s ⟨s.e, s.σ, upd s.H p o, upd s.G p o⟩ :=
  hs.grow (upd_sup h) (upd_sup (hs.gnone h)) (fun a u e => by
    by_cases ha : a = p
    · subst ha
      rw [upd_same] at e ⊢
      exact e
    · rw [upd_ne ha] at e ⊢
      exact hs.sub a u e) fun a e => by
    by_cases ha : a = p
    · subst ha
      exact .inr h
    · rw [upd_ne ha] at e
      exact .inl e
/-- a new thing -/
theorem Sees.newH (hs : Sees C s) {p : Addr} (h : s.H p = none) (o : HO) : Sees C ⟨s.e, s.σ, upd s.H p o, s.G⟩ ∧ Ext s ⟨s.e, s.σ, upd s.H p o, s.G⟩ :=
  hs.grow (upd_sup h) (fun _ _ e => e) (fun a u e => upd_sup h _ _ (hs.sub a u e)) fun a e => .inl e
theorem Sees.fresh (hs : Sees C s) {p : Addr} (h : s.H p = none) (o : HO) : Fresh s ⟨s.e, s.σ, upd s.H p o, s.G⟩ p :=
  ⟨hs.gnone h, fun i hi => by
    have h1 := hi.back hs (upd_sup h)
    obtain ⟨u, h2⟩ := h1.here hs
    rw [h] at h2
    exact (nomatch h2), .inl h⟩
/-- the frozen part may grow where the heap stands and no slot owns -/
theorem Sees.fz {s0 : S} (hs : Sees C s) (x : Ext s0 s) (g : ∀ a o, s.G a = some o → G' a = some o) (sub : ∀ a o, G' a = some o → s.H a = some o) (fr : ∀ a, G' a ≠ none → s.G a ≠ none ∨ Fresh s0 s a) :
    Sees C ⟨s.e, s.σ, s.H, G'⟩ ∧ Ext s0 ⟨s.e, s.σ, s.H, G'⟩ := by
  constructor
  · refine ⟨sub, hs.len, fun i sl h => (hs.at_ i sl h).mono (fun _ _ e => e) g, fun i a h => ?_, fun i j a h1 h2 => hs.inj i j a (h1.back hs fun _ _ e => e) (h2.back hs fun _ _ e => e)⟩
    have h1 := h.back hs fun _ _ e => e
    cases e : G' a with
    | none => exact e
    | some o' =>
      rcases fr a (by rw [e]; exact fun z => nomatch z) with z | z
      · exact absurd (hs.own i a h1) z
      · exact absurd h1 (z.no i)
  · refine ⟨fun a o h => g a o (x.g a o h), x.keep, fun a h => ?_, fun i a h => x.own i a (h.back hs fun _ _ e => e), x.pin⟩
    rcases fr a h with z | z
    · exact x.gnew a z
    · exact .inr z.new
end

open Classical in
noncomputable def fzG (G H : Hp) (A : Addr → Prop) : Hp := fun a => if A a then H a else G a
section
variable {G H : Hp} {A : Addr → Prop}
theorem fzG_sub (h : ∀ a o, G a = some o → H a = some o) : ∀ a o, fzG G H A a = some o → H a = some o := fun a o e => by
  unfold fzG at e
  split at e
  · exact e
  · exact h a o e
theorem fzG_g (h : ∀ a o, G a = some o → H a = some o) : ∀ a o, G a = some o → fzG G H A a = some o := fun a o e => by
  unfold fzG
  split
  · exact h a o e
  · exact e
theorem fzG_new : ∀ a, fzG G H A a ≠ none → G a ≠ none ∨ A a := fun a e => by
  unfold fzG at e
  split at e
  · exact .inr (by assumption)
  · exact .inl e
theorem fzG_at {a : Addr} (h : A a) : fzG G H A a = H a := by
  unfold fzG
  rw [if_pos h]
end

theorem Rps_of_Rll {C : VX} {G G' H : Hp} : ∀ {tss : List (List T)} {xs : List V}, (∀ b, V.ref b ∈ xs → G' b = H b) → (∀ a o, G a = some o → G' a = some o) → Rll C G H tss xs → Rps C G' (tss.map T.lst) xs
  | [], _, _, _, h => h
  | t :: ts, _, k, g, h => by
    obtain ⟨b, ys, xr, rfl, h1, h2, h3⟩ := h
    exact ⟨.ref b, xr, rfl, ⟨b, ys, rfl, (k b (List.mem_cons_self ..)).trans h1, h2.mono g⟩, Rps_of_Rll (fun c hc => k c (List.mem_cons_of_mem _ hc)) g h3⟩

section
variable {C : VX} {W : WX} {s s0 : S}
/-- what came out is frozen -/
theorem OutOk.freeze (hs : Sees C s) (x : Ext s0 s) {v : V} : ∀ {o : Out}, OutOk C s0 s v o → ∃ G', Sees C ⟨s.e, s.σ, s.H, G'⟩ ∧ Ext s0 ⟨s.e, s.σ, s.H, G'⟩ ∧ (∀ a o, s.G a = some o → G' a = some o) ∧ Rp C G' o.t v
  | .sh t, h => ⟨s.G, hs, x, fun _ _ e => e, h⟩
  | .fr ts, ⟨a, xs, e, h1, f, h2⟩ => by
    have z := hs.fz (G' := fzG s.G s.H (fun b => b = a)) x (fzG_g hs.sub) (fzG_sub hs.sub) fun b hb => (fzG_new b hb).imp id fun (q : b = a) => q ▸ f
    exact ⟨_, z.1, z.2, fzG_g hs.sub, a, xs, e, (fzG_at (A := fun b => b = a) rfl).trans h1, h2.mono (fzG_g hs.sub)⟩
  | .frr tss, ⟨a, xs, e, h1, f, h2, h3, h4, h5⟩ => by
    have z := hs.fz (G' := fzG s.G s.H (fun b => b = a ∨ V.ref b ∈ xs)) x (fzG_g hs.sub) (fzG_sub hs.sub) fun b hb => (fzG_new b hb).imp id fun q => q.elim (fun q => q ▸ f) (h5 b)
    exact ⟨_, z.1, z.2, fzG_g hs.sub, a, xs, e, (fzG_at (A := fun b => b = a ∨ V.ref b ∈ xs) (.inl rfl)).trans h1, Rps_of_Rll (fun b hb => fzG_at (.inr hb)) (fzG_g hs.sub) h4⟩
  | .ft tss, ⟨a, xs, e, h1, h2, h4, h5⟩ => by
    have z := hs.fz (G' := fzG s.G s.H (fun b => V.ref b ∈ xs)) x (fzG_g hs.sub) (fzG_sub hs.sub) fun b hb => (fzG_new b hb).imp id (h5 b)
    exact ⟨_, z.1, z.2, fzG_g hs.sub, a, xs, e, sqT_mono (fzG_g hs.sub) h1, Rps_of_Rll (fun b hb => fzG_at hb) (fzG_g hs.sub) h4⟩

/-- the reading of an expression whose value is frozen -/
theorem tD_T {d : DE} {Q : VK} (hs : Sees C s) (h : SatE C W s (d s.e) fun o s1 => ∀ v, Rp C s1.G o.t v → Q v s1.H) : tD C W d s.σ s.H Q := by
  refine ⟨s.e, s.G, hs, ?_⟩
  cases e : d s.e with
  | ok o e' =>
    rw [e] at h
    intro H' G' h1 h2 v ov
    obtain ⟨G2, z1, z2, _, z4⟩ := ov.freeze h1 h2
    exact h H' G2 z1 z2 v z4
  | ex y e' => rw [e] at h; exact h
  | bad => rw [e] at h; exact h
theorem tD_O {d : DE} {Q : VK} (hs : Sees C s) (h : SatE C W s (d s.e) fun o s1 => ∀ v, OutOk C s s1 v o → Q v s1.H) : tD C W d s.σ s.H Q := ⟨s.e, s.G, hs, h⟩
theorem tDT_I {d : DT} {Q : Bool → Hp → Prop} (hs : Sees C s) (h : SatE C W s (d s.e) fun b s1 => Q b s1.H) : tDT C W d s.σ s.H Q := ⟨s.e, s.G, hs, h⟩
theorem tDA_I {d : DA} {Q : List V → Hp → Prop} (hs : Sees C s) (h : SatE C W s (d s.e) fun ts s1 => ∀ vs, Rps C s1.G ts vs → Q vs s1.H) : tDA C W d s.σ s.H Q := ⟨s.e, s.G, hs, h⟩
theorem tDS_I {d : DS} {D : Ends} (hs : Sees C s) (h : SatS C W s (d s.e) D) : tDS C W d D s.σ s.H := ⟨s.e, s.G, hs, h⟩
end

section
variable {C : VX} {s : S}
theorem get_set {α : Type} {l : List α} {i j : Nat} {x y : α} (h : (l.set i x)[j]? = some y) : (j = i ∧ y = x ∧ i < l.length) ∨ (j ≠ i ∧ l[j]? = some y) := by
  by_cases e : j = i
  · subst e
    rw [List.getElem?_set_self'] at h
    cases q : l[j]? with
    | none => rw [q] at h; cases h
    | some z =>
      rw [q] at h
      cases h
      exact .inl ⟨rfl, rfl, (List.getElem?_eq_some_iff.mp q).1⟩
  · rw [List.getElem?_set_ne (Ne.symm e)] at h
    exact .inr ⟨e, h⟩
/-- the slot i changes with the heap: what others own stays -/
theorem Sees.slot (hs : Sees C s) {i : Nat} {sl : Slot} {H' G' : Hp} (hi : ∃ v, s.σ[i]? = some (some v)) (k : ∀ a o, s.H a = some o → ¬ Owns s i a → H' a = some o) (g : ∀ a o, s.G a = some o → G' a = some o) (sub : ∀ a o, G' a = some o → H' a = some o)
    (new : SlotOk C G' H' s.σ[i]? sl) (own : ∀ v a, s.σ[i]? = some (some v) → ownsV H' v sl a → Owns s i a ∧ G' a = none) (gn : ∀ a, G' a ≠ none → s.G a ≠ none ∨ Owns s i a) (pin : ∀ k, (s.e[i]?).bind Slot.pk = some k → sl.pk = some k) :
    Sees C ⟨s.e.set i sl, s.σ, H', G'⟩ ∧ Ext s ⟨s.e.set i sl, s.σ, H', G'⟩ := by
  have back : ∀ j a, Owns ⟨s.e.set i sl, s.σ, H', G'⟩ j a → Owns s j a := by
    rintro j a ⟨sl', v, h1, h2, h3⟩
    rcases get_set h1 with ⟨rfl, rfl, _⟩ | ⟨hj, h1⟩
    · exact (own v a h2 h3).1
    · have h4 := hs.at_ j sl' h1
      rw [show s.σ[j]? = some (some v) from h2] at h4
      refine ⟨sl', v, h1, h2, ownsV_back h4 (fun b o hb hB => k b o hB fun hO => hj ?_) h3⟩
      refine hs.inj j i b ⟨sl', v, h1, h2, ?_⟩ hO
      cases sl' with
      | un => exact h3.elim
      | sh t => exact h3.elim
      | ol p ts => exact hb
      | oi c ts => exact hb
      | oll tss => exact .inl hb
  have gno : ∀ j a, Owns ⟨s.e.set i sl, s.σ, H', G'⟩ j a → G' a = none := by
    intro j a h
    have h1 := back j a h
    have h2 := hs.own j a h1
    cases e : G' a with
    | none => rfl
    | some o' =>
      rcases gn a (by rw [e]; exact fun z => nomatch z) with z | z
      · exact absurd h2 z
      · have hji := hs.inj j i a h1 z
        subst hji
        obtain ⟨sl', v, h1, h2, h3⟩ := h
        rcases get_set h1 with ⟨_, rfl, _⟩ | ⟨hj, _⟩
        · rw [(own v a h2 h3).2] at e; cases e
        · exact absurd rfl hj
  constructor
  · refine ⟨sub, by show (s.e.set i sl).length = _; rw [List.length_set]; exact hs.len, fun j sl' h1 => ?_, gno, fun j j' a h1 h2 => hs.inj j j' a (back j a h1) (back j' a h2)⟩
    rcases get_set h1 with ⟨rfl, rfl, _⟩ | ⟨hj, h1⟩
    · exact new
    · have h4 := hs.at_ j sl' h1
      show SlotOk C G' H' s.σ[j]? sl'
      have kk : ∀ a o, Owns s j a → s.H a = some o → H' a = some o := fun a o ha hA => k a o hA fun hO => hj (hs.inj j i a ha hO)
      cases sl' with
      | un => trivial
      | sh t =>
        obtain ⟨v, e, h⟩ := h4
        exact ⟨v, e, h.mono g⟩
      | ol p ts =>
        obtain ⟨a, xs, e, h1', h2⟩ := h4
        exact ⟨a, xs, e, kk a _ ⟨_, _, h1, e, rfl⟩ h1', h2.mono g⟩
      | oi c ts =>
        obtain ⟨a, dx, xs, e, h1', h2, h3⟩ := h4
        exact ⟨a, dx, xs, e, kk a _ ⟨_, _, h1, e, rfl⟩ h1', h2, h3.mono g⟩
      | oll tss =>
        obtain ⟨a, xs, e, h1', h2, h3, h4⟩ := h4
        exact ⟨a, xs, e, kk a _ ⟨_, _, h1, e, .inl rfl⟩ h1', h2, h3, h4.mono (fun b o hb hB => kk b o ⟨_, _, h1, e, .inr ⟨a, xs, rfl, h1', hb⟩⟩ hB) g⟩
  · refine ⟨g, fun a o h hn => k a o h (hn i), fun a h => (gn a h).imp id fun z => .inr ⟨i, z⟩, fun j a h => .inr ⟨j, back j a h⟩, fun j kk h => ⟨rfl, ?_⟩⟩
    by_cases hj : j = i
    · subst hj
      show ((s.e.set j sl)[j]?).bind Slot.pk = _
      cases q : s.e[j]? with
      | none => rw [q] at h; exact nomatch h
      | some s0 =>
        rw [List.getElem?_set_self (List.getElem?_eq_some_iff.mp q).1]
        exact pin kk h
    · show ((s.e.set i sl)[j]?).bind Slot.pk = _
      rw [List.getElem?_set_ne (Ne.symm hj)]
      exact h
/-- an own list has other items -/
theorem Sees.olset (hs : Sees C s) {i : Nat} {p : Bool} {ts ts' : List T} {a : Addr} {xs' : List V} (h1 : s.e[i]? = some (.ol p ts)) (h2 : s.σ[i]? = some (some (.ref a))) (r : Rps C s.G ts' xs') :
    Sees C ⟨s.e.set i (.ol p ts'), s.σ, upd s.H a (.lst xs'), s.G⟩ ∧ Ext s ⟨s.e.set i (.ol p ts'), s.σ, upd s.H a (.lst xs'), s.G⟩ := by
  have hO : Owns s i a := ⟨_, _, h1, h2, rfl⟩
  have hG := hs.own i a hO
  refine hs.slot ⟨_, h2⟩ (fun b o hb hn => ?_) (fun _ _ h => h) (fun b o hb => ?_) ⟨a, xs', h2, upd_same, r⟩ (fun v b hv hb => ?_) (fun b hb => .inl hb) fun kk h0 => ?_
  · rw [upd_ne fun e => hn (by rw [e]; exact hO)]
    exact hb
  · rw [upd_ne fun e => by rw [e, hG] at hb; cases hb]
    exact hs.sub b o hb
  · rw [h2] at hv
    cases hv
    cases (show V.ref a = V.ref b from hb)
    exact ⟨hO, hG⟩
  · rw [h1] at h0
    cases p
    · exact nomatch (show (none : Option Nat) = some kk from h0)
    · exact h0
/-- a slot's own list is frozen -/
theorem Sees.olfreeze (hs : Sees C s) {i : Nat} {ts : List T} (h1 : s.e[i]? = some (.ol false ts)) :
    ∃ G' v, s.σ[i]? = some (some v) ∧ Rp C G' (.lst ts) v ∧ Sees C ⟨s.e.set i (.sh (.lst ts)), s.σ, s.H, G'⟩ ∧ Ext s ⟨s.e.set i (.sh (.lst ts)), s.σ, s.H, G'⟩ := by
  obtain ⟨a, xs, e, h3, h4⟩ := hs.at_ i _ h1
  have hO : Owns s i a := ⟨_, _, h1, e, rfl⟩
  have r : Rp C (fzG s.G s.H (fun b => b = a)) (.lst ts) (.ref a) := ⟨a, xs, rfl, (fzG_at (A := fun b => b = a) rfl).trans h3, h4.mono (fzG_g hs.sub)⟩
  refine ⟨fzG s.G s.H (fun b => b = a), .ref a, e, r, ?_⟩
  refine hs.slot ⟨_, e⟩ (fun b o hb hn => hb) (fzG_g hs.sub) (fzG_sub hs.sub) ⟨_, e, r⟩ (fun v b hv hb => hb.elim) (fun b hb => (fzG_new b hb).imp id fun (q : b = a) => q ▸ hO) fun kk h0 => ?_
  rw [h1] at h0
  exact nomatch (show (none : Option Nat) = some kk from h0)
theorem Sees.ollfreeze (hs : Sees C s) {i : Nat} {tss : List (List T)} (h1 : s.e[i]? = some (.oll tss)) :
    ∃ G' v, s.σ[i]? = some (some v) ∧ Rp C G' (.lst (tss.map T.lst)) v ∧ Sees C ⟨s.e.set i (.sh (.lst (tss.map T.lst))), s.σ, s.H, G'⟩ ∧ Ext s ⟨s.e.set i (.sh (.lst (tss.map T.lst))), s.σ, s.H, G'⟩ := by
  obtain ⟨a, xs, e, h3, h4, h5, h6⟩ := hs.at_ i _ h1
  have hO : ∀ b, (b = a ∨ V.ref b ∈ xs) → Owns s i b := fun b hb => ⟨_, _, h1, e, hb.elim (fun q => .inl (by rw [q])) fun q => .inr ⟨a, xs, rfl, h3, q⟩⟩
  have r : Rp C (fzG s.G s.H (fun b => b = a ∨ V.ref b ∈ xs)) (.lst (tss.map T.lst)) (.ref a) := ⟨a, xs, rfl, (fzG_at (A := fun b => b = a ∨ V.ref b ∈ xs) (.inl rfl)).trans h3, Rps_of_Rll (fun b hb => fzG_at (.inr hb)) (fzG_g hs.sub) h6⟩
  refine ⟨fzG s.G s.H (fun b => b = a ∨ V.ref b ∈ xs), .ref a, e, r, ?_⟩
  refine hs.slot ⟨_, e⟩ (fun b o hb hn => hb) (fzG_g hs.sub) (fzG_sub hs.sub) ⟨_, e, r⟩ (fun v b hv hb => hb.elim) (fun b hb => (fzG_new b hb).imp id fun q => hO b q) fun kk h0 => ?_
  rw [h1] at h0
  exact nomatch (show (none : Option Nat) = some kk from h0)
end
end L2.VD

namespace L2.VD
open PySem PySem.Spec PyProof.Rows

/-- not too long for a list, a tuple, a text -/
abbrev fits (n : Nat) : Bool := Nat.ble n 16777216
theorem fits_le {n : Nat} (h : fits n = true) : n ≤ sizeLine := by
  rw [sizeLine_eq]
  exact Nat.le_of_ble_eq_true h

def dC (t : T) : DE := fun e => .ok (.sh t) e
def dVar (i : Nat) : DE := fun e => match e[i]? with
  | some (.sh t) => .ok (.sh t) e
  | some (.ol false ts) => .ok (.sh (.lst ts)) (e.set i (.sh (.lst ts)))
  | some (.oll tss) => .ok (.sh (.lst (tss.map T.lst))) (e.set i (.sh (.lst (tss.map T.lst))))
  | _ => .bad
section
variable {X : Cx} {C : VX} {W : WX}
theorem e_const {x : Expr} {t : T} {v : V} (h : PE X x (tC v)) (r : ∀ G, Rp C G t v) : PE X x (tD C W (dC t)) := h.imp fun σ H Q ⟨e, G, hs, q⟩ => by
  exact q H G hs (Ext.refl _) v (r G)
theorem e_int {i j pos} : PE X (.Constant (.int i) j pos) (tD C W (dC (.int i))) := e_const pe_int fun _ => rfl
theorem e_bl {b j pos} : PE X (.Constant (.bool b) j pos) (tD C W (dC (.bl b))) := e_const pe_bl fun _ => rfl
theorem e_non {j pos} : PE X (.Constant .none j pos) (tD C W (dC .non)) := e_const pe_non fun _ => rfl
theorem e_str {x j pos} : PE X (.Constant (.str x) j pos) (tD C W (dC (.str x))) := e_const pe_str fun _ => rfl
theorem e_glob {x : Str} {t : T} {v : V} {u : Value} {pos : Pos} (hg : Gl X x) (hm : X.mg x = some u) (r : RelV v u) (q : ∀ G, Rp C G t v) (hd : (x == ("__debug__" : Str)) = false := by decide) : PE X (.Name x pos) (tD C W (dC t)) := e_const (pe_glob hg hm r hd) q
theorem e_var (i : Nat) {x : Str} {pos : Pos} (hN : X.N[i]? = some x := by rfl) (hv : Vis X.env.scope x := by first | exact Or.inl rfl | exact Or.inr (Or.inl rfl) | exact Or.inr (Or.inr rfl)) (hd : (x == ("__debug__" : Str)) = false := by decide)
    (hcd : (x == ("__classdict__" : Str)) = false := by decide) : PE X (.Name x pos) (tD C W (dVar i)) := (pv i hN hv hd hcd).imp fun σ H Q ⟨e, G, hs, q⟩ => by
  unfold dVar at q
  split at q
  · rename_i t h
    obtain ⟨v, e1, r⟩ := hs.at_ i _ h
    exact ⟨v, e1, q H G hs (Ext.refl _) v r⟩
  · rename_i ts h
    obtain ⟨G', v, e1, r, z1, z2⟩ := hs.olfreeze h
    exact ⟨v, e1, q H G' z1 z2 v r⟩
  · rename_i tss h
    obtain ⟨G', v, e1, r, z1, z2⟩ := hs.ollfreeze h
    exact ⟨v, e1, q H G' z1 z2 v r⟩
  · exact q.elim
end

/-- an operation on frozen values -/
structure OpS (C : VX) (r : R2) (f : T → T → Option Out) : Prop where
  run : ∀ (s : S) (x y : V) (t u : T) (o : Out) (Q : VK), Sees C s → Rp C s.G t x → Rp C s.G u y → f t u = some o →
    (∀ v H' G', Sees C ⟨s.e, s.σ, H', G'⟩ → Ext s ⟨s.e, s.σ, H', G'⟩ → OutOk C s ⟨s.e, s.σ, H', G'⟩ v o → Q v H') → r x y s.H Q
def dOp (f : T → T → Option Out) (da db : DE) : DE := fun e => (da e).bind fun a e1 => (db e1).bind fun b e2 => Res.of (f a.t b.t) e2
section
variable {X : Cx} {C : VX} {W : WX} {a b : Expr} {da db : DE} {f : T → T → Option Out} {r : R2} {pos : Pos}
theorem SatE.of {α : Type} {s : S} {o : Option α} {P : α → S → Prop} (h : SatE C W s (Res.of o s.e) P) : ∃ x, o = some x ∧ ∀ H' G', Sees C ⟨s.e, s.σ, H', G'⟩ → Ext s ⟨s.e, s.σ, H', G'⟩ → P x ⟨s.e, s.σ, H', G'⟩ := by
  cases o with
  | none => exact h.elim
  | some x => exact ⟨x, rfl, h⟩
theorem tOp_of (hf : OpS C r f) {σ : St} {H : Hp} {Q : VK} (h : tD C W (dOp f da db) σ H Q) : tOp r (tD C W da) (tD C W db) σ H Q := by
  obtain ⟨e, G, hs, h⟩ := h
  refine tD_T (s := ⟨e, σ, H, G⟩) hs ((SatE.bind h).mono fun x s1 hs1 x1 e1 h1 v rv => ?_)
  have hσ : s1.σ = σ := e1
  subst hσ
  refine tD_T hs1 ((SatE.bind h1).mono fun y s2 hs2 x2 e2 h2 w rw' => ?_)
  obtain ⟨o, ho, k⟩ := SatE.of h2
  refine hf.run s2 v w _ _ o Q hs2 (rv.mono x2.g) rw' ho fun u H' G' z1 z2 z3 => ?_
  exact k H' G' z1 z2 u (z3.base (x1.trans x2))
theorem e_op {op : Operator} (ho : OpR X (binaryOp op) r) (hf : OpS C r f) (ha : PE X a (tD C W da)) (hb : PE X b (tD C W db)) : PE X (.BinOp a op b pos) (tD C W (dOp f da db)) := (pe_op ho ha hb).imp fun _ _ _ h => tOp_of hf h
theorem e_cmp {op : CmpOp} (ho : OpR X (compareOp op) r) (hf : OpS C r f) (ha : PE X a (tD C W da)) (hb : PE X b (tD C W db)) (hm : behindInMarks op b = false) : PE X (.Compare a [op] [b] pos) (tD C W (dOp f da db)) := (pe_cmpR ho ha hb hm).imp fun _ _ _ h => tOp_of hf h
theorem OpS.or {r r' : R2} (h : ∀ s x y t u o Q, Sees C s → Rp C s.G t x → Rp C s.G u y → f t u = some o → (∀ v H' G', Sees C ⟨s.e, s.σ, H', G'⟩ → Ext s ⟨s.e, s.σ, H', G'⟩ → OutOk C s ⟨s.e, s.σ, H', G'⟩ v o → Q v H') → r x y s.H Q ∨ r' x y s.H Q) : OpS C (fun x y H Q => r x y H Q ∨ r' x y H Q) f := ⟨h⟩
end

/-- a scalar value comes out -/
theorem out_sh {C : VX} {s : S} {Q : VK} {t : T} (hs : Sees C s) (h : ∀ v H' G', Sees C ⟨s.e, s.σ, H', G'⟩ → Ext s ⟨s.e, s.σ, H', G'⟩ → OutOk C s ⟨s.e, s.σ, H', G'⟩ v (.sh t) → Q v H') {v : V} (r : Rp C s.G t v) : Q v s.H := h v s.H s.G hs (Ext.refl _) r
theorem out_tup {C : VX} {s : S} {Q : VK} {ts : List T} {xs : List V} {p : Addr} (hs : Sees C s) (hp : s.H p = none) (h : ∀ v H' G', Sees C ⟨s.e, s.σ, H', G'⟩ → Ext s ⟨s.e, s.σ, H', G'⟩ → OutOk C s ⟨s.e, s.σ, H', G'⟩ v (.sh (.tup ts)) → Q v H') (r : Rps C s.G ts xs) : Q (.ref p) (upd s.H p (.tup xs)) := by
  obtain ⟨z1, z2⟩ := hs.newG hp (.tup xs)
  exact h _ _ _ z1 z2 ⟨p, xs, rfl, .inl (.inl upd_same), r.mono z2.g⟩
theorem out_lst {C : VX} {s : S} {Q : VK} {ts : List T} {xs : List V} {p : Addr} (hs : Sees C s) (hp : s.H p = none) (h : ∀ v H' G', Sees C ⟨s.e, s.σ, H', G'⟩ → Ext s ⟨s.e, s.σ, H', G'⟩ → OutOk C s ⟨s.e, s.σ, H', G'⟩ v (.fr ts) → Q v H') (r : Rps C s.G ts xs) : Q (.ref p) (upd s.H p (.lst xs)) := by
  obtain ⟨z1, z2⟩ := hs.newH hp (.lst xs)
  exact h _ _ _ z1 z2 ⟨p, xs, rfl, upd_same, hs.fresh hp _, r⟩

def fAdd : T → T → Option Out
  | .int i, .int j => some (.sh (.int (i + j)))
  | .str a, .str b => if fits (a.length + b.length) then some (.sh (.str (a ++ b))) else none
  | .tup a, .tup b => if fits (a.length + b.length) then some (.sh (.tup (a ++ b))) else none
  | .lst a, .lst b => if fits (a.length + b.length) then some (.fr (a ++ b)) else none
  | _, _ => none
def fSub : T → T → Option Out
  | .int i, .int j => some (.sh (.int (i - j)))
  | _, _ => none
/-- the product's room -/
def mulFits (i j : Int) : Bool := Nat.ble j.natAbs 9223372036854775807 || Nat.ble i.natAbs 9223372036854775807 || Nat.ble (i.natAbs.log2 + j.natAbs.log2) 100000000
def rep (n : Nat) (ts : List T) : List T := (List.replicate n ts).flatten
def fMul : T → T → Option Out
  | .int i, .int j => if mulFits i j then some (.sh (.int (i * j))) else none
  | .lst a, .int j => if decide (-(2 ^ 63) ≤ j) && decide (j < 2 ^ 63) && fits (a.length * j.toNat) then some (.fr (rep j.toNat a)) else none
  | .tup a, .int j => if decide (a ≠ []) && decide (2 ≤ j) && decide (j ≤ 1000) && Nat.ble a.length 1000 then some (.sh (.tup (rep j.toNat a))) else none
  | _, _ => none
/-- the divisor's room -/
def divFits (j : Int) : Bool := decide (j ≠ 0) && Nat.ble j.natAbs.log2 8999
def fDiv : T → T → Option Out
  | .int i, .int j => if divFits j then some (.sh (.int (i.fdiv j))) else none
  | _, _ => none
def fMod : T → T → Option Out
  | .int i, .int j => if decide (j ≠ 0) then some (.sh (.int (i.fmod j))) else none
  | _, _ => none
def fPow : T → T → Option Out
  | .int i, .int j => if decide (0 ≤ j) && decide (j ≤ 1000000) && decide (i.natAbs < 2 ^ 64) then some (.sh (.int (i ^ j.toNat))) else none
  | _, _ => none
section
variable {C : VX}
def CMulB (i j : Int) : Prop := mulFits i j = true
theorem CMulB.ok {i j : Int} (h : CMulB i j) : IntMulOk i j := by
  have b : ∀ x : Int, Builtin.Int.intBits x ≤ x.natAbs.log2 + 1 := fun x => by
    unfold Builtin.Int.intBits
    split <;> omega
  have small : ∀ x : Int, Nat.ble x.natAbs 9223372036854775807 = true → Builtin.Int.intBits x ≤ 64 := fun x hx => by
    have h0 : x.natAbs ≤ 9223372036854775807 := Nat.le_of_ble_eq_true hx
    have h1 := b x
    by_cases hz : x.natAbs = 0
    · rw [hz] at h1
      have : Nat.log2 0 = 0 := by decide
      omega
    · have : x.natAbs.log2 < 63 := (Nat.log2_lt hz).mpr (by omega)
      omega
  have h : (Nat.ble j.natAbs 9223372036854775807 || Nat.ble i.natAbs 9223372036854775807 || Nat.ble (i.natAbs.log2 + j.natAbs.log2) 100000000) = true := h
  rw [Bool.or_eq_true, Bool.or_eq_true] at h
  rcases h with (h | h) | h
  · exact IntMulOk.of_right (small j h)
  · exact IntMulOk.of_left (small i h)
  have h1 := b i
  have h2 := b j
  have h3 : i.natAbs.log2 + j.natAbs.log2 ≤ 100000000 := Nat.le_of_ble_eq_true h
  have e : bitsLine = 134217728 := by decide
  unfold IntMulOk
  intro z
  rw [Bool.and_eq_true] at z
  have z2 := z.2
  unfold Builtin.Int.intTooBig at z2
  have z3 := of_decide_eq_true z2
  rw [e] at z3
  omega
theorem op_mulB {X : Cx} : OpR X (binaryOp .Mult) (rI CMulB fun i j => .int (i * j)) := opI fun _ _ _ _ _ _ _ hc q => mul_int q hc.ok
def CDivB (_ j : Int) : Prop := j ≠ 0 ∧ j.natAbs.log2 < 9000
theorem op_fdivB {X : Cx} : OpR X (binaryOp .FloorDiv) (rI CDivB fun i j => .int (i.fdiv j)) := opI fun i j _ _ _ _ _ hc q => floordiv_int hc.1 q (.inl (PyProof.noPylong_of_log2 hc.2))
def rAddV (K : PySem.W.Frag) : R2 := fun x y H Q => rI0 (fun i j => .int (i + j)) x y H Q ∨ (∃ i j, x = .str i ∧ y = .str j ∧ i.length + j.length ≤ sizeLine ∧ Q (.str (i ++ j)) H) ∨ rCatA K x y H Q ∨ rCat x y H Q
theorem op_addV {X : Cx} : OpR X (binaryOp .Add) (rAddV X.K) := op_add.or (op_add_str.or (op_catA.or op_cat))
theorem os_add {K : PySem.W.Frag} (hK : C.K = K := by rfl) : OpS C (rAddV K) fAdd := by
  subst hK
  refine ⟨fun s x y t u o Q hs rx ry ho q => ?_⟩
  unfold fAdd at ho
  split at ho
  · cases ho
    cases rx; cases ry
    exact .inl ⟨_, _, rfl, rfl, out_sh hs q rfl⟩
  · split at ho
    · rename_i h
      cases ho
      cases rx; cases ry
      exact .inr (.inl ⟨_, _, rfl, rfl, fits_le h, out_sh hs q rfl⟩)
    · cases ho
  · split at ho
    · rename_i ta tb h
      cases ho
      obtain ⟨a, xs, rfl, h1, h2⟩ := rx
      obtain ⟨b, ys, rfl, h3, h4⟩ := ry
      refine .inr (.inr (.inl ⟨a, b, xs, ys, rfl, rfl, sqT_mono hs.sub h1, sqT_mono hs.sub h3, ?_, fun e => ?_, fun _ e => ?_, fun _ _ p hp => ?_⟩))
      · rw [h2.length, h4.length]
        exact fits_le h
      · have e' : ta = [] := by
          have := h2.length
          rw [e] at this
          exact List.eq_nil_of_length_eq_zero this.symm
        subst e'
        exact out_sh hs q ⟨b, ys, rfl, h3, h4⟩
      · have e' : tb = [] := by
          have := h4.length
          rw [e] at this
          exact List.eq_nil_of_length_eq_zero this.symm
        subst e'
        rw [List.append_nil] at q
        exact out_sh hs q ⟨a, xs, rfl, h1, h2⟩
      · exact out_tup hs hp q (h2.append h4)
    · cases ho
  · split at ho
    · rename_i ta tb h
      cases ho
      obtain ⟨a, xs, rfl, h1, h2⟩ := rx
      obtain ⟨b, ys, rfl, h3, h4⟩ := ry
      refine .inr (.inr (.inr ⟨a, b, xs, ys, rfl, rfl, hs.sub _ _ h1, hs.sub _ _ h3, ?_, fun p hp => ?_⟩))
      · rw [h2.length, h4.length]
        exact fits_le h
      · exact out_lst hs hp q (h2.append h4)
    · cases ho
  · cases ho
theorem os_sub : OpS C (rI0 fun i j => .int (i - j)) fSub := by
  refine ⟨fun s x y t u o Q hs rx ry ho q => ?_⟩
  unfold fSub at ho
  split at ho
  · cases ho
    cases rx; cases ry
    exact ⟨_, _, rfl, rfl, out_sh hs q rfl⟩
  · cases ho
theorem Rps.rep {G : Hp} {ts : List T} {xs : List V} (h : Rps C G ts xs) : ∀ n : Nat, Rps C G (VD.rep n ts) (List.replicate n xs).flatten
  | 0 => rfl
  | n + 1 => by
    show Rps C G (List.replicate (n + 1) ts).flatten _
    rw [List.replicate_succ, List.replicate_succ, List.flatten_cons, List.flatten_cons]
    exact h.append (Rps.rep h n)
def rMulV (K : PySem.W.Frag) : R2 := fun x y H Q => rI CMulB (fun i j => .int (i * j)) x y H Q ∨ rRep x y H Q ∨ rRepT K x y H Q
theorem op_mulV {X : Cx} : OpR X (binaryOp .Mult) (rMulV X.K) := op_mulB.or (op_rep.or op_repT)
theorem os_mul {K : PySem.W.Frag} (hK : C.K = K := by rfl) : OpS C (rMulV K) fMul := by
  subst hK
  refine ⟨fun s x y t u o Q hs rx ry ho q => ?_⟩
  unfold fMul at ho
  split at ho
  · split at ho
    · rename_i h
      cases ho
      cases rx; cases ry
      exact .inl ⟨_, _, rfl, rfl, h, out_sh hs q rfl⟩
    · cases ho
  · split at ho
    · rename_i ta j h
      rw [Bool.and_eq_true, Bool.and_eq_true] at h
      cases ho
      obtain ⟨a, xs, rfl, h1, h2⟩ := rx
      cases ry
      refine .inr (.inl ⟨a, j, xs, rfl, rfl, hs.sub _ _ h1, of_decide_eq_true h.1.1, of_decide_eq_true h.1.2, ?_, fun p hp => ?_⟩)
      · rw [h2.length]
        exact fits_le h.2
      · exact out_lst hs hp q (h2.rep _)
    · cases ho
  · split at ho
    · rename_i ta j h
      rw [Bool.and_eq_true, Bool.and_eq_true, Bool.and_eq_true] at h
      cases ho
      obtain ⟨a, xs, rfl, h1, h2⟩ := rx
      cases ry
      refine .inr (.inr ⟨a, j, xs, rfl, rfl, sqT_mono hs.sub h1, ?_, of_decide_eq_true h.1.1.2, of_decide_eq_true h.1.2, ?_, fun p hp => ?_⟩)
      · intro e
        have := h2.length
        rw [e] at this
        exact of_decide_eq_true h.1.1.1 (List.eq_nil_of_length_eq_zero this.symm)
      · rw [h2.length]
        exact Nat.le_of_ble_eq_true h.2
      · exact out_tup hs hp q (h2.rep _)
    · cases ho
  · cases ho
theorem os_div : OpS C (rI CDivB fun i j => .int (i.fdiv j)) fDiv := by
  refine ⟨fun s x y t u o Q hs rx ry ho q => ?_⟩
  unfold fDiv at ho
  split at ho
  · split at ho
    · rename_i h
      cases ho
      cases rx; cases ry
      unfold divFits at h
      rw [Bool.and_eq_true] at h
      exact ⟨_, _, rfl, rfl, ⟨of_decide_eq_true h.1, Nat.lt_succ_of_le (Nat.le_of_ble_eq_true h.2)⟩, out_sh hs q rfl⟩
    · cases ho
  · cases ho
theorem os_mod : OpS C (rI (fun _ j => j ≠ 0) fun i j => .int (i.fmod j)) fMod := by
  refine ⟨fun s x y t u o Q hs rx ry ho q => ?_⟩
  unfold fMod at ho
  split at ho
  · split at ho
    · rename_i h
      cases ho
      cases rx; cases ry
      exact ⟨_, _, rfl, rfl, of_decide_eq_true h, out_sh hs q rfl⟩
    · cases ho
  · cases ho
theorem os_pow : OpS C (rI CPow fun i j => .int (i ^ j.toNat)) fPow := by
  refine ⟨fun s x y t u o Q hs rx ry ho q => ?_⟩
  unfold fPow at ho
  split at ho
  · split at ho
    · rename_i h
      cases ho
      cases rx; cases ry
      rw [Bool.and_eq_true, Bool.and_eq_true] at h
      exact ⟨_, _, rfl, rfl, ⟨of_decide_eq_true h.1.1, of_decide_eq_true h.1.2, of_decide_eq_true h.2⟩, out_sh hs q rfl⟩
    · cases ho
  · cases ho
end
section
variable {X : Cx} {C : VX} {W : WX} {a b : Expr} {da db : DE} {pos : Pos}
abbrev dAdd := dOp fAdd
abbrev dSub := dOp fSub
abbrev dMul := dOp fMul
abbrev dDiv := dOp fDiv
abbrev dMod := dOp fMod
abbrev dPow := dOp fPow
theorem e_add (ha : PE X a (tD C W da)) (hb : PE X b (tD C W db)) (hK : C.K = X.K := by rfl) : PE X (.BinOp a .Add b pos) (tD C W (dAdd da db)) := e_op op_addV (os_add hK) ha hb
theorem e_sub (ha : PE X a (tD C W da)) (hb : PE X b (tD C W db)) : PE X (.BinOp a .Sub b pos) (tD C W (dSub da db)) := e_op op_sub os_sub ha hb
theorem e_mul (ha : PE X a (tD C W da)) (hb : PE X b (tD C W db)) (hK : C.K = X.K := by rfl) : PE X (.BinOp a .Mult b pos) (tD C W (dMul da db)) := e_op op_mulV (os_mul hK) ha hb
theorem e_div (ha : PE X a (tD C W da)) (hb : PE X b (tD C W db)) : PE X (.BinOp a .FloorDiv b pos) (tD C W (dDiv da db)) := e_op op_fdivB os_div ha hb
theorem e_mod (ha : PE X a (tD C W da)) (hb : PE X b (tD C W db)) : PE X (.BinOp a .Mod b pos) (tD C W (dMod da db)) := e_op op_modN os_mod ha hb
theorem e_pow (ha : PE X a (tD C W da)) (hb : PE X b (tD C W db)) : PE X (.BinOp a .Pow b pos) (tD C W (dPow da db)) := e_op op_pow os_pow ha hb
end

def dUn (f : T → Option Out) (da : DE) : DE := fun e => (da e).bind fun a e1 => Res.of (f a.t) e1
structure UnS (C : VX) (r : V → Hp → VK → Prop) (f : T → Option Out) : Prop where
  run : ∀ (s : S) (x : V) (t : T) (o : Out) (Q : VK), Sees C s → Rp C s.G t x → f t = some o →
    (∀ v H' G', Sees C ⟨s.e, s.σ, H', G'⟩ → Ext s ⟨s.e, s.σ, H', G'⟩ → OutOk C s ⟨s.e, s.σ, H', G'⟩ v o → Q v H') → r x s.H Q
def fNeg : T → Option Out
  | .int i => some (.sh (.int (-i)))
  | _ => none
abbrev dNeg := dUn fNeg
section
variable {X : Cx} {C : VX} {W : WX} {a : Expr} {da : DE} {f : T → Option Out} {r : V → Hp → VK → Prop} {pos : Pos}
theorem tUn_of (hf : UnS C r f) {σ : St} {H : Hp} {Q : VK} (h : tD C W (dUn f da) σ H Q) : tUn r (tD C W da) σ H Q := by
  obtain ⟨e, G, hs, h⟩ := h
  refine tD_T (s := ⟨e, σ, H, G⟩) hs ((SatE.bind h).mono fun x s1 hs1 x1 e1 h1 v rv => ?_)
  have hσ : s1.σ = σ := e1
  subst hσ
  obtain ⟨o, ho, k⟩ := SatE.of h1
  refine hf.run s1 v _ o Q hs1 rv ho fun u H' G' z1 z2 z3 => ?_
  exact k H' G' z1 z2 u (z3.base x1)
theorem os_neg : UnS C (rU fun i => .int (-i)) fNeg := by
  refine ⟨fun s x t o Q hs rx ho q => ?_⟩
  unfold fNeg at ho
  split at ho
  · cases ho
    cases rx
    exact ⟨_, rfl, out_sh hs q rfl⟩
  · cases ho
theorem e_neg (ha : PE X a (tD C W da)) : PE X (.UnaryOp .USub a pos) (tD C W (dNeg da)) := (pe_un un_neg ha).imp fun _ _ _ h => tUn_of os_neg h
end

mutual
def T.p : T → PyData
  | .non => .none
  | .bl b => .bool b
  | .int i => .int i
  | .str x => .str x
  | .tup ts => .tuple (T.ps ts)
  | .lst ts => .list (T.ps ts)
  | .sq ts => .list (T.ps ts)
  | .obj _ _ => .dict []
def T.ps : List T → List PyData
  | [] => []
  | t :: ts => t.p :: T.ps ts
end
mutual
theorem Rp.dp {C : VX} {G H : Hp} (g : ∀ a o, G a = some o → H a = some o) : ∀ (t : T) {v : V}, t.p.canLay0 = true → Rp C G t v → Dp C.K H v t.p
  | .non, _, _, h => by cases h; exact .non
  | .bl b, _, _, h => by cases h; exact .bl b
  | .int i, _, _, h => by cases h; exact .int i
  | .str x, _, _, h => by cases h; exact .str x
  | .tup ts, _, c, h => by
    obtain ⟨a, xs, rfl, h1, h2⟩ := h
    exact .tup (sqT_mono g h1) (Rps.dp g ts c h2)
  | .lst ts, _, c, h => by
    obtain ⟨a, xs, rfl, h1, h2⟩ := h
    exact .lst (.of (g _ _ h1)) (Rps.dp g ts c h2)
  | .sq ts, _, c, h => by
    obtain ⟨a, xs, rfl, h1, h2⟩ := h
    exact .lst (sqL_mono g h1) (Rps.dp g ts c h2)
  | .obj _ _, _, c, _ => nomatch (show false = true from c)
theorem Rps.dp {C : VX} {G H : Hp} (g : ∀ a o, G a = some o → H a = some o) : ∀ (ts : List T) {xs : List V}, PyData.canLayAll0 (T.ps ts) = true → Rps C G ts xs → DpAll C.K H xs (T.ps ts)
  | [], _, _, h => by cases h; exact .nil
  | t :: ts, _, c, h => by
    obtain ⟨x, r, rfl, h1, h2⟩ := h
    have c' : (t.p.canLay0 && PyData.canLayAll0 (T.ps ts)) = true := c
    rw [Bool.and_eq_true] at c'
    exact .cons (Rp.dp g t c'.1 h1) (Rps.dp g ts c'.2 h2)
end
/-- ==, where both are plain data -/
def eqT (t u : T) : Option Bool := if SeqAt.shaped t.p && SeqAt.shaped u.p then some (PyData.eqv t.p u.p) else none
def fEq (t u : T) : Option Out := (eqT t u).map fun b => .sh (.bl b)
def fNe (t u : T) : Option Out := (eqT t u).map fun b => .sh (.bl (!b))
def ltT : T → T → Option Bool
  | .int i, .int j => some (decide (i < j))
  | .str x, .str y => some (decide (x.cps.toList < y.cps.toList))
  | _, _ => none
def leT : T → T → Option Bool
  | .int i, .int j => some (decide (i ≤ j))
  | .str x, .str y => some (!decide (y.cps.toList < x.cps.toList))
  | _, _ => none
def fLt (t u : T) : Option Out := (ltT t u).map fun b => .sh (.bl b)
def fGt (t u : T) : Option Out := (ltT u t).map fun b => .sh (.bl b)
def fLe (t u : T) : Option Out := (leT t u).map fun b => .sh (.bl b)
def fGe (t u : T) : Option Out := (leT u t).map fun b => .sh (.bl b)
def isN (t : T) : Bool := match t with
  | .non => true
  | _ => false
/-- x is None, x is True .. -/
def fIsN (t u : T) : Option Out := match u with
  | .non => some (.sh (.bl (isN t)))
  | .bl b => match t with
    | .bl a => some (.sh (.bl (decide (a = b))))
    | _ => none
  | _ => none
def fIsNotN (t u : T) : Option Out := match u with
  | .non => some (.sh (.bl (!isN t)))
  | .bl b => match t with
    | .bl a => some (.sh (.bl (!decide (a = b))))
    | _ => none
  | _ => none
section
variable {C : VX}
theorem os_eq {K : PySem.W.Frag} (hK : C.K = K := by rfl) : OpS C (rEqD K) fEq := by
  subst hK
  refine ⟨fun s x y t u o Q hs rx ry ho q => ?_⟩
  unfold fEq eqT at ho
  split at ho
  · rename_i h
    rw [Bool.and_eq_true] at h
    cases ho
    exact ⟨_, _, rx.dp hs.sub t (SeqAt.canLay_of_shaped h.1), ry.dp hs.sub u (SeqAt.canLay_of_shaped h.2), h.1, h.2, out_sh hs q rfl⟩
  · cases ho
theorem os_ne {K : PySem.W.Frag} (hK : C.K = K := by rfl) : OpS C (rNeD K) fNe := by
  subst hK
  refine ⟨fun s x y t u o Q hs rx ry ho q => ?_⟩
  unfold fNe eqT at ho
  split at ho
  · rename_i h
    rw [Bool.and_eq_true] at h
    cases ho
    exact ⟨_, _, rx.dp hs.sub t (SeqAt.canLay_of_shaped h.1), ry.dp hs.sub u (SeqAt.canLay_of_shaped h.2), h.1, h.2, out_sh hs q rfl⟩
  · cases ho
def rLtV : R2 := fun x y H Q => rI0 (fun i j => .bl (decide (i < j))) x y H Q ∨ (∃ i j, x = .str i ∧ y = .str j ∧ Q (.bl (decide (i.cps.toList < j.cps.toList))) H)
def rLeV : R2 := fun x y H Q => rI0 (fun i j => .bl (decide (i ≤ j))) x y H Q ∨ (∃ i j, x = .str i ∧ y = .str j ∧ Q (.bl (!decide (j.cps.toList < i.cps.toList))) H)
def rGtV : R2 := fun x y H Q => rI0 (fun i j => .bl (decide (j < i))) x y H Q ∨ (∃ i j, x = .str i ∧ y = .str j ∧ Q (.bl (decide (j.cps.toList < i.cps.toList))) H)
def rGeV : R2 := fun x y H Q => rI0 (fun i j => .bl (decide (j ≤ i))) x y H Q ∨ (∃ i j, x = .str i ∧ y = .str j ∧ Q (.bl (!decide (i.cps.toList < j.cps.toList))) H)
theorem os_lt : OpS C rLtV fLt := by
  refine ⟨fun s x y t u o Q hs rx ry ho q => ?_⟩
  unfold fLt ltT at ho
  split at ho
  · cases ho; cases rx; cases ry
    exact .inl ⟨_, _, rfl, rfl, out_sh hs q rfl⟩
  · cases ho; cases rx; cases ry
    exact .inr ⟨_, _, rfl, rfl, out_sh hs q rfl⟩
  · cases ho
theorem os_gt : OpS C rGtV fGt := by
  refine ⟨fun s x y t u o Q hs rx ry ho q => ?_⟩
  unfold fGt ltT at ho
  split at ho
  · cases ho; cases rx; cases ry
    exact .inl ⟨_, _, rfl, rfl, out_sh hs q rfl⟩
  · cases ho; cases rx; cases ry
    exact .inr ⟨_, _, rfl, rfl, out_sh hs q rfl⟩
  · cases ho
theorem os_le : OpS C rLeV fLe := by
  refine ⟨fun s x y t u o Q hs rx ry ho q => ?_⟩
  unfold fLe leT at ho
  split at ho
  · cases ho; cases rx; cases ry
    exact .inl ⟨_, _, rfl, rfl, out_sh hs q rfl⟩
  · cases ho; cases rx; cases ry
    exact .inr ⟨_, _, rfl, rfl, out_sh hs q rfl⟩
  · cases ho
theorem os_ge : OpS C rGeV fGe := by
  refine ⟨fun s x y t u o Q hs rx ry ho q => ?_⟩
  unfold fGe leT at ho
  split at ho
  · cases ho; cases rx; cases ry
    exact .inl ⟨_, _, rfl, rfl, out_sh hs q rfl⟩
  · cases ho; cases rx; cases ry
    exact .inr ⟨_, _, rfl, rfl, out_sh hs q rfl⟩
  · cases ho
theorem isN_of {G : Hp} {t : T} {v : V} (h : Rp C G t v) : decide (v = V.non) = isN t := by
  cases t with
  | non => cases h; rfl
  | bl b => cases h; rfl
  | int i => cases h; rfl
  | str x => cases h; rfl
  | tup ts => obtain ⟨a, xs, rfl, _⟩ := h; rfl
  | lst ts => obtain ⟨a, xs, rfl, _⟩ := h; rfl
  | sq ts => obtain ⟨a, xs, rfl, _⟩ := h; rfl
  | obj c ts => obtain ⟨a, dx, xs, rfl, _⟩ := h; rfl
def rIsV : R2 := fun x y H Q => (y = .non ∧ Q (.bl (decide (x = .non))) H) ∨ (∃ a b, x = .bl a ∧ y = .bl b ∧ Q (.bl (decide (a = b))) H)
def rIsNotV : R2 := fun x y H Q => (y = .non ∧ Q (.bl (!decide (x = .non))) H) ∨ (∃ a b, x = .bl a ∧ y = .bl b ∧ Q (.bl (!decide (a = b))) H)
theorem os_isN : OpS C rIsV fIsN := by
  refine ⟨fun s x y t u o Q hs rx ry ho q => ?_⟩
  unfold fIsN at ho
  split at ho
  · cases ho; cases ry
    refine .inl ⟨rfl, ?_⟩
    rw [isN_of rx]
    exact out_sh hs q rfl
  · split at ho
    · cases ho; cases rx; cases ry
      exact .inr ⟨_, _, rfl, rfl, out_sh hs q rfl⟩
    · cases ho
  · cases ho
theorem os_isNotN : OpS C rIsNotV fIsNotN := by
  refine ⟨fun s x y t u o Q hs rx ry ho q => ?_⟩
  unfold fIsNotN at ho
  split at ho
  · cases ho; cases ry
    refine .inl ⟨rfl, ?_⟩
    rw [isN_of rx]
    exact out_sh hs q rfl
  · split at ho
    · cases ho; cases rx; cases ry
      exact .inr ⟨_, _, rfl, rfl, out_sh hs q rfl⟩
    · cases ho
  · cases ho
end
section
variable {X : Cx} {C : VX} {W : WX} {a b : Expr} {da db : DE} {pos : Pos} {k : Nat}
theorem op_ltV : OpR X (compareOp .Lt) rLtV := op_lt.or op_lt_str
theorem op_leV : OpR X (compareOp .LtE) rLeV := op_le.or op_le_str
theorem op_gtV : OpR X (compareOp .Gt) rGtV := op_gt.or op_gt_str
theorem op_geV : OpR X (compareOp .GtE) rGeV := op_ge.or op_ge_str
theorem op_isV : OpR X (compareOp .Is) rIsV := op_isN.or op_is_bl
theorem op_isNotV : OpR X (compareOp .IsNot) rIsNotV := op_notN.or op_isnot_bl
theorem e_eq (hr : Room k X.A) (ha : PE X a (tD C W da)) (hb : PE X b (tD C W db)) (hK : C.K = X.K := by rfl) : PE X (.Compare a [.Eq] [b] pos) (tD C W (dOp fEq da db)) := e_cmp (op_eqD hr.units) (os_eq hK) ha hb (nomark _)
theorem e_ne (hr : Room k X.A) (ha : PE X a (tD C W da)) (hb : PE X b (tD C W db)) (hK : C.K = X.K := by rfl) : PE X (.Compare a [.NotEq] [b] pos) (tD C W (dOp fNe da db)) := e_cmp (op_neD hr.units) (os_ne hK) ha hb (nomark _)
theorem e_lt (ha : PE X a (tD C W da)) (hb : PE X b (tD C W db)) : PE X (.Compare a [.Lt] [b] pos) (tD C W (dOp fLt da db)) := e_cmp op_ltV os_lt ha hb (nomark _)
theorem e_le (ha : PE X a (tD C W da)) (hb : PE X b (tD C W db)) : PE X (.Compare a [.LtE] [b] pos) (tD C W (dOp fLe da db)) := e_cmp op_leV os_le ha hb (nomark _)
theorem e_gt (ha : PE X a (tD C W da)) (hb : PE X b (tD C W db)) : PE X (.Compare a [.Gt] [b] pos) (tD C W (dOp fGt da db)) := e_cmp op_gtV os_gt ha hb (nomark _)
theorem e_ge (ha : PE X a (tD C W da)) (hb : PE X b (tD C W db)) : PE X (.Compare a [.GtE] [b] pos) (tD C W (dOp fGe da db)) := e_cmp op_geV os_ge ha hb (nomark _)
theorem e_is (ha : PE X a (tD C W da)) (hb : PE X b (tD C W db)) : PE X (.Compare a [.Is] [b] pos) (tD C W (dOp fIsN da db)) := e_cmp op_isV os_isN ha hb (nomark _)
theorem e_isnot (ha : PE X a (tD C W da)) (hb : PE X b (tD C W db)) : PE X (.Compare a [.IsNot] [b] pos) (tD C W (dOp fIsNotN da db)) := e_cmp op_isNotV os_isNotN ha hb (nomark _)
end
end L2.VD

namespace L2.VD
open PySem PySem.Spec PyProof.Rows

def truthT : T → Option Bool
  | .non => some false
  | .bl b => some b
  | .int i => some (i != 0)
  | .str x => if fits x.length then some ((x.length : Int) != 0) else none
  | .tup ts => some (!ts.isEmpty)
  | .lst ts => some (!ts.isEmpty)
  | .sq ts => some (!ts.isEmpty)
  | .obj _ _ => none
def asBl : T → Option Bool
  | .bl b => some b
  | _ => none
def dTru (da : DE) : DT := fun e => (da e).bind fun a e1 => Res.of (truthT a.t) e1
def dTst (da : DE) : DT := fun e => (da e).bind fun a e1 => Res.of (asBl a.t) e1
def dNot (d : DT) : DT := fun e => (d e).bind fun b e1 => .ok (!b) e1
def dAnd (d1 d2 : DT) : DT := fun e => (d1 e).bind fun b e1 => if b then d2 e1 else .ok false e1
def dOr (d1 d2 : DT) : DT := fun e => (d1 e).bind fun b e1 => if b then .ok true e1 else d2 e1
def dIf (c : DT) (da db : DE) : DE := fun e => (c e).bind fun b e1 => if b then da e1 else db e1
/-- a test's answer as a value -/
def dAndV (da db : DE) : DE := fun e => (da e).bind fun a e1 => (Res.of (truthT a.t) e1).bind fun b e2 => if b then db e2 else .ok (.sh a.t) e2
def dOrV (da db : DE) : DE := fun e => (da e).bind fun a e1 => (Res.of (truthT a.t) e1).bind fun b e2 => if b then .ok (.sh a.t) e2 else db e2
def dNotV (da : DE) : DE := fun e => (da e).bind fun a e1 => (Res.of (truthT a.t) e1).bind fun b e2 => .ok (.sh (.bl (!b))) e2
theorem Rps.isEmpty {C : VX} {G : Hp} {ts : List T} {xs : List V} (h : Rps C G ts xs) : xs.isEmpty = ts.isEmpty := by
  cases ts with
  | nil => cases h; rfl
  | cons t ts => obtain ⟨x, r, rfl, _⟩ := h; rfl
theorem truthT_of {C : VX} {G H : Hp} (g : ∀ a o, G a = some o → H a = some o) {t : T} {v : V} {b : Bool} (h : Rp C G t v) (e : truthT t = some b) : TruV C.K v H b := by
  cases t with
  | non => cases h; cases e; exact rfl
  | bl b => cases h; cases e; exact rfl
  | int i => cases h; cases e; exact rfl
  | str x =>
    cases h
    unfold truthT at e
    dsimp only at e
    split at e
    · cases e
      exact ⟨fits_le (by assumption), rfl⟩
    · cases e
  | tup ts =>
    obtain ⟨a, xs, rfl, h1, h2⟩ := h
    cases e
    exact .inr (.inl ⟨xs, sqT_mono g h1, by rw [h2.isEmpty]⟩)
  | lst ts =>
    obtain ⟨a, xs, rfl, h1, h2⟩ := h
    cases e
    exact .inl ⟨xs, .of (g _ _ h1), by rw [h2.isEmpty]⟩
  | sq ts =>
    obtain ⟨a, xs, rfl, h1, h2⟩ := h
    cases e
    exact .inl ⟨xs, sqL_mono g h1, by rw [h2.isEmpty]⟩
  | obj c ts => cases e
section
variable {X : Cx} {C : VX} {W : WX} {a b : Expr} {da db dc : DE} {d1 d2 : DT} {rest : List Expr} {pos : Pos}
theorem t_tru (ha : PE X a (tD C W da)) (he : ∀ whole, isTrue a X.env whole = (do let v ← whole; standAt a.pos; holding [v] (truthy v)) := by intro _; rfl) (hK : C.K = X.K := by rfl) : PT X a (tDT C W (dTru da)) := (pt_truth ha he).imp fun σ H Q ⟨e, G, hs, h⟩ => by
  refine tD_T (s := ⟨e, σ, H, G⟩) hs ((SatE.bind h).mono fun x s1 hs1 x1 e1 h1 v rv => ?_)
  obtain ⟨o, ho, k⟩ := SatE.of h1
  refine ⟨o, ?_, ?_⟩
  · rw [← hK]
    exact truthT_of hs1.sub rv ho
  · exact k s1.H s1.G hs1 (Ext.refl _)
theorem tTest_of {d : DE} {t : TE} {σ : St} {H : Hp} {Q : Bool → Hp → Prop} (i : ∀ Q, tD C W d σ H Q → t σ H Q) (h : tDT C W (dTst d) σ H Q) : tTest t σ H Q := by
  obtain ⟨e, G, hs, h⟩ := h
  refine i _ (tD_T (s := ⟨e, σ, H, G⟩) hs ((SatE.bind h).mono fun x s1 hs1 x1 e1 h1 v rv => ?_))
  obtain ⟨o, ho, k⟩ := SatE.of h1
  cases q : x.t with
  | bl b =>
    rw [q] at ho rv
    cases ho
    cases rv
    exact ⟨_, rfl, k s1.H s1.G hs1 (Ext.refl _)⟩
  | non => rw [q] at ho; cases ho
  | int i => rw [q] at ho; cases ho
  | str x => rw [q] at ho; cases ho
  | tup ts => rw [q] at ho; cases ho
  | lst ts => rw [q] at ho; cases ho
  | sq ts => rw [q] at ho; cases ho
  | obj c ts => rw [q] at ho; cases ho
theorem t_cmp {op : CmpOp} {r : R2} {f : T → T → Option Out} (ho : OpR X (compareOp op) r) (hf : OpS C r f) (ha : PE X a (tD C W da)) (hb : PE X b (tD C W db)) (hm : behindInMarks op b = false) : PT X (.Compare a [op] [b] pos) (tDT C W (dTst (dOp f da db))) := (pt_cmpR ho ha hb hm).imp fun _ _ _ h => tTest_of (fun _ z => tOp_of hf z) h
theorem t_not (ha : PT X a (tDT C W d1)) : PT X (.UnaryOp .Not a pos) (tDT C W (dNot d1)) := (pt_not ha).imp fun σ H Q ⟨e, G, hs, h⟩ => by
  refine tDT_I (s := ⟨e, σ, H, G⟩) hs ((SatE.bind h).mono fun x s1 hs1 x1 e1 h1 => ?_)
  exact h1 s1.H s1.G hs1 (Ext.refl _)
theorem tAnd_of {σ : St} {H : Hp} {Q : Bool → Hp → Prop} (h : tDT C W (dAnd d1 d2) σ H Q) : tAnd (tDT C W d1) (tDT C W d2) σ H Q := by
  obtain ⟨e, G, hs, h⟩ := h
  refine tDT_I (s := ⟨e, σ, H, G⟩) hs ((SatE.bind h).mono fun x s1 hs1 x1 e1 h1 => ?_)
  have hσ : s1.σ = σ := e1
  subst hσ
  cases x with
  | true => exact iteT (tDT_I hs1 h1)
  | false => exact iteF (h1 s1.H s1.G hs1 (Ext.refl _))
theorem tOr_of {σ : St} {H : Hp} {Q : Bool → Hp → Prop} (h : tDT C W (dOr d1 d2) σ H Q) : tOr (tDT C W d1) (tDT C W d2) σ H Q := by
  obtain ⟨e, G, hs, h⟩ := h
  refine tDT_I (s := ⟨e, σ, H, G⟩) hs ((SatE.bind h).mono fun x s1 hs1 x1 e1 h1 => ?_)
  have hσ : s1.σ = σ := e1
  subst hσ
  cases x with
  | true => exact iteT (h1 s1.H s1.G hs1 (Ext.refl _))
  | false => exact iteF (tDT_I hs1 h1)
theorem _root_.L2.PW.imp {X : Cx} {e : Expr} {t t' : TT} (h : PW X e t) (i : ∀ σ H Q, t' σ H Q → t σ H Q) : PW X e t' := ⟨fun w pins s σ H Q I q => h.run w pins s σ H Q I (i σ H Q q)⟩
theorem w_and1 (ha : PT X a (tDT C W d1)) : PW X (.BoolOp .And [a] pos) (tDT C W d1) := pw_and1 ha
theorem w_or1 (ha : PT X a (tDT C W d1)) : PW X (.BoolOp .Or [a] pos) (tDT C W d1) := pw_or1 ha
theorem w_and (ha : PT X a (tDT C W d1)) (hb : PW X (.BoolOp .And (b :: rest) pos) (tDT C W d2)) : PW X (.BoolOp .And (a :: b :: rest) pos) (tDT C W (dAnd d1 d2)) := (pw_and ha hb).imp fun _ _ _ h => tAnd_of h
theorem w_or (ha : PT X a (tDT C W d1)) (hb : PW X (.BoolOp .Or (b :: rest) pos) (tDT C W d2)) : PW X (.BoolOp .Or (a :: b :: rest) pos) (tDT C W (dOr d1 d2)) := (pw_or ha hb).imp fun _ _ _ h => tOr_of h
theorem e_ifExp {c : Expr} (hc : PT X c (tDT C W d1)) (ha : PE X a (tD C W da)) (hb : PE X b (tD C W db)) : PE X (.IfExp c a b pos) (tD C W (dIf d1 da db)) := (pe_ifExp hc ha hb).imp fun σ H Q ⟨e, G, hs, h⟩ => by
  refine tDT_I (s := ⟨e, σ, H, G⟩) hs ((SatE.bind h).mono fun x s1 hs1 x1 e1 h1 => ?_)
  have hσ : s1.σ = σ := e1
  subst hσ
  cases x with
  | true => exact iteT (tD_O hs1 (h1.mono fun o s2 _ _ _ z v ov => z v (ov.base x1)))
  | false => exact iteF (tD_O hs1 (h1.mono fun o s2 _ _ _ z v ov => z v (ov.base x1)))
theorem e_one {op} (h : PE X a (tD C W da)) : PE X (.BoolOp op [a] pos) (tD C W da) := pe_one h
theorem e_andV (ha : PE X a (tD C W da)) (hb : PE X (.BoolOp .And (b :: rest) pos) (tD C W db)) (hK : C.K = X.K := by rfl) : PE X (.BoolOp .And (a :: b :: rest) pos) (tD C W (dAndV da db)) := (pe_andT ha hb).imp fun σ H Q ⟨e, G, hs, h⟩ => by
  refine tD_T (s := ⟨e, σ, H, G⟩) hs ((SatE.bind h).mono fun x s1 hs1 x1 e1 h1 v rv => ?_)
  have hσ : s1.σ = σ := e1
  subst hσ
  obtain ⟨c, hc, k⟩ := SatE.of (SatE.bind h1)
  refine ⟨c, by rw [← hK]; exact truthT_of hs1.sub rv hc, ?_⟩
  have k := k s1.H s1.G hs1 (Ext.refl _)
  cases c with
  | true => exact iteT (tD_O hs1 (k.mono fun o s2 _ _ _ z v ov => z v (ov.base x1)))
  | false => exact iteF (k s1.H s1.G hs1 (Ext.refl _) v rv)
theorem e_orV (ha : PE X a (tD C W da)) (hb : PE X (.BoolOp .Or (b :: rest) pos) (tD C W db)) (hK : C.K = X.K := by rfl) : PE X (.BoolOp .Or (a :: b :: rest) pos) (tD C W (dOrV da db)) := (pe_orT ha hb).imp fun σ H Q ⟨e, G, hs, h⟩ => by
  refine tD_T (s := ⟨e, σ, H, G⟩) hs ((SatE.bind h).mono fun x s1 hs1 x1 e1 h1 v rv => ?_)
  have hσ : s1.σ = σ := e1
  subst hσ
  obtain ⟨c, hc, k⟩ := SatE.of (SatE.bind h1)
  refine ⟨c, by rw [← hK]; exact truthT_of hs1.sub rv hc, ?_⟩
  have k := k s1.H s1.G hs1 (Ext.refl _)
  cases c with
  | true => exact iteT (k s1.H s1.G hs1 (Ext.refl _) v rv)
  | false => exact iteF (tD_O hs1 (k.mono fun o s2 _ _ _ z v ov => z v (ov.base x1)))
theorem e_notV (ha : PE X a (tD C W da)) (hK : C.K = X.K := by rfl) : PE X (.UnaryOp .Not a pos) (tD C W (dNotV da)) := (pe_notT ha).imp fun σ H Q ⟨e, G, hs, h⟩ => by
  refine tD_T (s := ⟨e, σ, H, G⟩) hs ((SatE.bind h).mono fun x s1 hs1 x1 e1 h1 v rv => ?_)
  have hσ : s1.σ = σ := e1
  subst hσ
  obtain ⟨c, hc, k⟩ := SatE.of (SatE.bind h1)
  refine ⟨c, by rw [← hK]; exact truthT_of hs1.sub rv hc, ?_⟩
  exact k s1.H s1.G hs1 (Ext.refl _) s1.H s1.G hs1 (Ext.refl _) _ rfl
/-- a op1 b op2 c -/
def dChain (f f' : T → T → Option Out) (da db dc : DE) : DE := fun e => (da e).bind fun a e1 => (db e1).bind fun b e2 => (Res.of ((f a.t b.t).bind fun o => asBl o.t) e2).bind fun k e3 => if k then (dc e3).bind fun c e4 => Res.of (f' b.t c.t) e4 else .ok (.sh (.bl false)) e3
theorem tChain_of {r r' : R2} {f f' : T → T → Option Out} (hf : OpS C r f) (hf' : OpS C r' f') {σ : St} {H : Hp} {Q : VK} (h : tD C W (dChain f f' da db dc) σ H Q) : tChain r r' (tD C W da) (tD C W db) (tD C W dc) σ H Q := by
  obtain ⟨e, G, hs, h⟩ := h
  refine tD_T (s := ⟨e, σ, H, G⟩) hs ((SatE.bind h).mono fun x s1 hs1 x1 e1 h1 v rv => ?_)
  have hσ : s1.σ = σ := e1
  subst hσ
  refine tD_T hs1 ((SatE.bind h1).mono fun y s2 hs2 x2 e2 h2 w rw' => ?_)
  have hσ : s2.σ = s1.σ := e2
  obtain ⟨c, hc, k⟩ := SatE.of (SatE.bind h2)
  cases q : f x.t y.t with
  | none => rw [q] at hc; cases hc
  | some o =>
    rw [q] at hc
    refine hf.run s2 v w _ _ o _ hs2 (rv.mono x2.g) rw' q fun u H' G' z1 z2 z3 => ?_
    obtain ⟨G2, y1, y2, y3, y4⟩ := z3.freeze z1 z2
    have hb : o.t = .bl c := by
      have hc' : asBl o.t = some c := hc
      cases q' : o.t with
      | bl b => rw [q'] at hc'; cases hc'; rfl
      | non => rw [q'] at hc'; cases hc'
      | int i => rw [q'] at hc'; cases hc'
      | str x => rw [q'] at hc'; cases hc'
      | tup ts => rw [q'] at hc'; cases hc'
      | lst ts => rw [q'] at hc'; cases hc'
      | sq ts => rw [q'] at hc'; cases hc'
      | obj c ts => rw [q'] at hc'; cases hc'
    rw [hb] at y4
    have k := k H' G2 y1 y2
    refine ⟨c, y4, ?_⟩
    cases c with
    | true =>
      refine iteT ?_
      have k : SatE C W ⟨s2.e, s2.σ, H', G2⟩ ((dc s2.e).bind fun c e4 => Res.of (f' y.t c.t) e4) _ := k
      rw [show s1.σ = s2.σ from hσ.symm]
      refine tD_T y1 ((SatE.bind k).mono fun z s3 hs3 x3 e3 h3 u' ru => ?_)
      obtain ⟨o', ho', k'⟩ := SatE.of h3
      refine hf'.run s3 w u' _ _ o' Q hs3 ((rw'.mono y2.g).mono x3.g) ru ho' fun u2 H2 G2 z1 z2 z3 => ?_
      exact k' H2 G2 z1 z2 u2 (z3.base (x1.trans (x2.trans (y2.trans x3))))
    | false => exact iteF (k H' G2 y1 (Ext.refl _) _ rfl)
theorem e_chain {c : Expr} {op op' : CmpOp} {r r' : R2} {f f' : T → T → Option Out} (ho : OpR X (compareOp op) r) (hf : OpS C r f) (ho' : OpR X (compareOp op') r') (hf' : OpS C r' f') (ha : PE X a (tD C W da)) (hb : PE X b (tD C W db)) (hc : PE X c (tD C W dc))
    (hm : lastMarks [op, op'] [b, c] = false := by with_unfolding_all rfl) : PE X (.Compare a [op, op'] [b, c] pos) (tD C W (dChain f f' da db dc)) := (pe_chain ho ho' ha hb hc hm).imp fun _ _ _ h => tChain_of hf hf' h
theorem t_chain {c : Expr} {op op' : CmpOp} {r r' : R2} {f f' : T → T → Option Out} (ho : OpR X (compareOp op) r) (hf : OpS C r f) (ho' : OpR X (compareOp op') r') (hf' : OpS C r' f') (ha : PE X a (tD C W da)) (hb : PE X b (tD C W db)) (hc : PE X c (tD C W dc))
    (hm : lastMarks [op, op'] [b, c] = false := by with_unfolding_all rfl) : PT X (.Compare a [op, op'] [b, c] pos) (tDT C W (dTst (dChain f f' da db dc))) := (pt_chain ho ho' ha hb hc hm).imp fun _ _ _ h => tTest_of (fun _ z => tChain_of hf hf' z) h
end

def dNil : DA := fun e => .ok [] e
def dCons (da : DE) (dr : DA) : DA := fun e => (da e).bind fun a e1 => (dr e1).bind fun ts e2 => .ok (a.t :: ts) e2
def dTup (d : DA) : DE := fun e => (d e).bind fun ts e1 => if fits ts.length then .ok (.sh (.tup ts)) e1 else .bad
def dLst (d : DA) : DE := fun e => (d e).bind fun ts e1 => if fits ts.length then .ok (.fr ts) e1 else .bad
section
variable {X : Cx} {C : VX} {W : WX} {x : Expr} {es : List Expr} {da : DE} {dr : DA} {pos : Pos}
theorem a_nil : PA X [] (tDA C W dNil) := pa_nil.imp fun σ H Q ⟨e, G, hs, h⟩ => h H G hs (Ext.refl _) [] rfl
theorem a_cons (ha : PE X x (tD C W da)) (hr : PA X es (tDA C W dr)) (hst : starEach (x :: es) X.env = (false, eval x X.env) :: starEach es X.env := by rfl) : PA X (x :: es) (tDA C W (dCons da dr)) := (pa_cons ha hr hst).imp fun σ H Q ⟨e, G, hs, h⟩ => by
  refine tD_T (s := ⟨e, σ, H, G⟩) hs ((SatE.bind h).mono fun x s1 hs1 x1 e1 h1 v rv => ?_)
  have hσ : s1.σ = σ := e1
  subst hσ
  refine tDA_I hs1 ((SatE.bind h1).mono fun ts s2 hs2 x2 e2 h2 vs rvs => ?_)
  exact h2 s2.H s2.G hs2 (Ext.refl _) _ ⟨v, vs, rfl, rv.mono x2.g, rvs⟩
theorem e_tup {x1} (h : PA X es (tDA C W dr)) : PE X (.Tuple es x1 pos) (tD C W (dTup dr)) := (pe_tup h).imp fun σ H Q ⟨e, G, hs, h⟩ => by
  refine tDA_I (s := ⟨e, σ, H, G⟩) hs ((SatE.bind h).mono fun ts s1 hs1 x1 e1 h1 vs rvs => ?_)
  have hσ : s1.σ = σ := e1
  subst hσ
  split at h1
  · rename_i hz
    refine ⟨by rw [rvs.length]; exact fits_le hz, fun p hp => ?_⟩
    obtain ⟨z1, z2⟩ := hs1.newG hp (.tup vs)
    exact h1 _ _ z1 z2 _ ⟨p, vs, rfl, .inl (.inl upd_same), rvs.mono z2.g⟩
  · exact h1.elim
theorem e_lst (h : PA X es (tDA C W dr)) : PE X (.List es pos) (tD C W (dLst dr)) := (pe_lst h).imp fun σ H Q ⟨e, G, hs, h⟩ => by
  refine tDA_I (s := ⟨e, σ, H, G⟩) hs ((SatE.bind h).mono fun ts s1 hs1 x1 e1 h1 vs rvs => ?_)
  have hσ : s1.σ = σ := e1
  subst hσ
  split at h1
  · rename_i hz
    refine ⟨by rw [rvs.length]; exact fits_le hz, fun p hp => ?_⟩
    obtain ⟨z1, z2⟩ := hs1.newH hp (.lst vs)
    exact h1 _ _ z1 z2 _ ⟨p, vs, rfl, upd_same, (hs1.fresh hp _).base x1, rvs⟩
  · exact h1.elim
end

def fIdx : T → T → Option Out
  | .lst ts, .int i => (atI ts i).map .sh
  | .tup ts, .int i => (atI ts i).map .sh
  | .sq ts, .int i => (atI ts i).map .sh
  | .str x, .int i => if fits x.length then (atI x.cps.toList i).map fun c => .sh (.str ⟨#[c]⟩) else none
  | _, _ => none
section
variable {C : VX}
theorem Rps.atI {G : Hp} {ts : List T} {xs : List V} {i : Int} {t : T} (h : Rps C G ts xs) (e : L2.atI ts i = some t) : ∃ v, L2.atI xs i = some v ∧ Rp C G t v := by
  unfold L2.atI at e ⊢
  rw [h.length]
  cases q : ixN ts.length i with
  | none => rw [q] at e; cases e
  | some j =>
    rw [q] at e
    exact h.get e
theorem os_idx {K : PySem.W.Frag} (hK : C.K = K := by rfl) : OpS C (rIx K) fIdx := by
  subst hK
  refine ⟨fun s x y t u o Q hs rx ry ho q => ?_⟩
  unfold fIdx at ho
  split at ho
  · rename_i ts i
    obtain ⟨a, xs, rfl, h1, h2⟩ := rx
    cases ry
    cases z : L2.atI ts i with
    | none => rw [z] at ho; cases ho
    | some t =>
      rw [z] at ho
      cases ho
      obtain ⟨v, e1, e2⟩ := h2.atI z
      exact .inl ⟨a, xs, i, v, rfl, rfl, .of (hs.sub _ _ h1), e1, out_sh hs q e2⟩
  · rename_i ts i
    obtain ⟨a, xs, rfl, h1, h2⟩ := rx
    cases ry
    cases z : L2.atI ts i with
    | none => rw [z] at ho; cases ho
    | some t =>
      rw [z] at ho
      cases ho
      obtain ⟨v, e1, e2⟩ := h2.atI z
      exact .inr (.inl ⟨a, xs, i, v, rfl, rfl, sqT_mono hs.sub h1, e1, out_sh hs q e2⟩)
  · rename_i ts i
    obtain ⟨a, xs, rfl, h1, h2⟩ := rx
    cases ry
    cases z : L2.atI ts i with
    | none => rw [z] at ho; cases ho
    | some t =>
      rw [z] at ho
      cases ho
      obtain ⟨v, e1, e2⟩ := h2.atI z
      exact .inl ⟨a, xs, i, v, rfl, rfl, sqL_mono hs.sub h1, e1, out_sh hs q e2⟩
  · rename_i z i
    split at ho
    · rename_i hz
      cases rx
      cases ry
      cases e : L2.atI z.cps.toList i with
      | none => rw [e] at ho; cases ho
      | some c =>
        rw [e] at ho
        cases ho
        exact .inr (.inr ⟨z, i, c, rfl, rfl, fits_le hz, e, out_sh hs q rfl⟩)
    · cases ho
  · cases ho
end
abbrev dIdx := dOp fIdx
theorem fIdx_lst {ts : List T} {u : T} {o : Out} (h : fIdx (.lst ts) u = some o) : ∃ i t, u = .int i ∧ atI ts i = some t ∧ o = .sh t := by
  cases u with
  | int i =>
    have h' : (atI ts i).map Out.sh = some o := h
    cases z : atI ts i with
    | none => rw [z] at h'; cases h'
    | some t =>
      rw [z] at h'
      cases h'
      exact ⟨i, t, rfl, z, rfl⟩
  | non => cases h
  | bl b => cases h
  | str x => cases h
  | tup ts => cases h
  | lst ts => cases h
  | sq ts => cases h
  | obj c ts => cases h
/-- name[i]: the name's own list is read where it stands -/
def dIdxN (i : Nat) (db : DE) : DE := fun e => match e[i]? with
  | some (.sh t) => (db e).bind fun b e1 => Res.of (fIdx t b.t) e1
  | some (.ol _ _) => (db e).bind fun b e1 => match e1[i]? with
    | some (.ol _ ts) => Res.of (fIdx (.lst ts) b.t) e1
    | _ => .bad
  | _ => .bad
section
variable {X : Cx} {C : VX} {W : WX} {a b : Expr} {da db : DE} {pos p2 : Pos}
theorem e_idx (ha : PE X a (tD C W da)) (hb : PE X b (tD C W db)) (hs : PlainIx b := by intro _ _; rfl) (hK : C.K = X.K := by rfl) : PE X (.Subscript a b pos) (tD C W (dIdx da db)) := (pe_ix ix_seq ha hb hs).imp fun _ _ _ h => tOp_of (os_idx hK) h
theorem e_idxN (i : Nat) {x : Str} {npos : Pos} (hb : PE X b (tD C W db)) (hp : PlainIx b := by intro _ _; rfl) (hN : X.N[i]? = some x := by rfl) (hv : Vis X.env.scope x := by first | exact Or.inl rfl | exact Or.inr (Or.inl rfl) | exact Or.inr (Or.inr rfl)) (hd : (x == ("__debug__" : Str)) = false := by decide)
    (hcd : (x == ("__classdict__" : Str)) = false := by decide) (hK : C.K = X.K := by rfl) : PE X (.Subscript (.Name x npos) b pos) (tD C W (dIdxN i db)) := (pe_ix ix_seq (pv i hN hv hd hcd) hb hp).imp fun σ H Q ⟨e, G, hs, h⟩ => by
  unfold dIdxN at h
  split at h
  · rename_i t ht
    obtain ⟨v, e1, rv⟩ := hs.at_ i _ ht
    refine ⟨v, e1, tD_T (s := ⟨e, σ, H, G⟩) hs ((SatE.bind h).mono fun y s1 hs1 x1 e1 h1 w rw' => ?_)⟩
    obtain ⟨o, ho, k⟩ := SatE.of h1
    exact (os_idx hK).run s1 v w _ _ o Q hs1 (rv.mono x1.g) rw' ho fun u H' G' z1 z2 z3 => k H' G' z1 z2 u (z3.base x1)
  · rename_i p ts ht
    obtain ⟨a, xs, e1, h1, h2⟩ := hs.at_ i _ ht
    refine ⟨.ref a, e1, tD_T (s := ⟨e, σ, H, G⟩) hs ((SatE.bind h).mono fun y s1 hs1 x1 e2 h3 w rw' => ?_)⟩
    split at h3
    · rename_i p' ts' ht'
      obtain ⟨a', xs', e3, h4, h5⟩ := hs1.at_ i _ ht'
      rw [show s1.σ = σ from e2, show σ[i]? = some (some (V.ref a)) from e1] at e3
      cases e3
      obtain ⟨o, ho, k⟩ := SatE.of h3
      obtain ⟨j, t, hj, z, rfl⟩ := fIdx_lst ho
      rw [hj] at rw'
      cases rw'
      obtain ⟨v, y1, y2⟩ := h5.atI z
      exact .inl ⟨a, xs', j, v, rfl, rfl, .of h4, y1, k s1.H s1.G hs1 (Ext.refl _) v y2⟩
    · exact h3.elim
  · exact h.elim
end

abbrev DO := List Slot → Res (Option Int)
def tDO (C : VX) (W : WX) (d : DO) : TO := fun σ H Q => ∃ e G, Sees C ⟨e, σ, H, G⟩ ∧ SatE C W ⟨e, σ, H, G⟩ (d e) fun o s' => Q o s'.H
def dNoPart : DO := fun e => .ok none e
def asInt : T → Option Int
  | .int i => some i
  | _ => none
def dPart (da : DE) : DO := fun e => (da e).bind fun a e1 => (Res.of (asInt a.t) e1).bind fun i e2 => .ok (some i) e2
def cutT (xs : List T) (lo hi : Option Int) : List T := (xs.drop (HT.sIx xs.length 0 lo)).take (HT.sIx xs.length xs.length hi - HT.sIx xs.length 0 lo)
def fSl (t : T) (lo hi : Option Int) : Option Out := match t with
  | .lst ts => some (.fr (cutT ts lo hi))
  | .sq ts => some (.fr (cutT ts lo hi))
  | .tup ts => some (.sh (.tup (cutT ts lo hi)))
  | .str x => if fits x.length then some (.sh (.str (cutS x lo hi))) else none
  | _ => none
def dSl (da : DE) (dl du : DO) : DE := fun e => (da e).bind fun a e1 => (dl e1).bind fun l e2 => (du e2).bind fun u e3 => Res.of (fSl a.t l u) e3
theorem Rps.cut {C : VX} {G : Hp} {ts : List T} {xs : List V} (h : Rps C G ts xs) (lo hi : Option Int) : Rps C G (cutT ts lo hi) (cutV xs lo hi) := by
  unfold cutT cutV
  rw [h.length]
  exact (h.drop _).take _
theorem sIx_whole {n : Nat} {lo hi : Option Int} (h1 : HT.sIx n 0 lo = 0) (h2 : HT.sIx n n hi = n) {α : Type} {xs : List α} (hn : xs.length = n) : (xs.drop (HT.sIx n 0 lo)).take (HT.sIx n n hi - HT.sIx n 0 lo) = xs := by
  rw [h1, h2]
  subst hn
  simp
section
variable {X : Cx} {C : VX} {W : WX} {a b : Expr} {da db : DE} {dl du : DO} {pos p2 : Pos}
theorem o_none : PO X none (tDO C W dNoPart) := ⟨fun pins s σ H Q I ⟨e, G, hs, h⟩ => po_none.run pins s σ H Q I (h H G hs (Ext.refl _))⟩
theorem o_some (h : PE X a (tD C W da)) : PO X (some a) (tDO C W (dPart da)) := ⟨fun pins s σ H Q I ⟨e, G, hs, h'⟩ => (po_some h).run pins s σ H Q I (by
  refine tD_T (s := ⟨e, σ, H, G⟩) hs ((SatE.bind h').mono fun x s1 hs1 x1 e1 h1 v rv => ?_)
  obtain ⟨i, hi, k⟩ := SatE.of (SatE.bind h1)
  cases q : x.t with
  | int j =>
    rw [q] at hi rv
    cases hi
    cases rv
    exact ⟨_, rfl, k s1.H s1.G hs1 (Ext.refl _) s1.H s1.G hs1 (Ext.refl _)⟩
  | non => rw [q] at hi; cases hi
  | bl b => rw [q] at hi; cases hi
  | str x => rw [q] at hi; cases hi
  | tup ts => rw [q] at hi; cases hi
  | lst ts => rw [q] at hi; cases hi
  | sq ts => rw [q] at hi; cases hi
  | obj c ts => rw [q] at hi; cases hi)⟩
def rSlV (K : PySem.W.Frag) : V → Option Int → Option Int → Hp → VK → Prop := fun x lo hi H Q => rSlL K x lo hi H Q ∨ rSlA K x lo hi H Q ∨ rSlS x lo hi H Q
theorem sl_V : SlR X (rSlV X.K) := sl_list.or (sl_tupA.or sl_str)
theorem e_sl (ha : PE X a (tD C W da)) {lo hi : Option Expr} (hl : PO X lo (tDO C W dl)) (hu : PO X hi (tDO C W du)) (hK : C.K = X.K := by rfl) : PE X (.Subscript a (.Slice lo hi none p2) pos) (tD C W (dSl da dl du)) := (pe_slice sl_V ha hl hu).imp fun σ H Q ⟨e, G, hs, h⟩ => by
  refine tD_T (s := ⟨e, σ, H, G⟩) hs ((SatE.bind h).mono fun x s1 hs1 x1 e1 h1 v rv => ?_)
  have hσ : s1.σ = σ := e1
  subst hσ
  refine ⟨s1.e, s1.G, hs1, (SatE.bind h1).mono fun l s2 hs2 x2 e2 h2 => ?_⟩
  have hσ : s2.σ = s1.σ := e2
  rw [← hσ]
  refine ⟨s2.e, s2.G, hs2, (SatE.bind h2).mono fun u s3 hs3 x3 e3 h3 => ?_⟩
  obtain ⟨o, ho, k⟩ := SatE.of h3
  have rv3 := (rv.mono x2.g).mono x3.g
  have x13 : Ext ⟨e, s1.σ, H, G⟩ s3 := x1.trans (x2.trans x3)
  rw [← hK]
  unfold fSl at ho
  split at ho
  · rename_i ts q
    rw [q] at rv3
    cases ho
    obtain ⟨a, xs, rfl, h4, h5⟩ := rv3
    exact .inl ⟨a, xs, rfl, .of (hs3.sub _ _ h4), fun p hp => out_lst hs3 hp (fun v H' G' z1 z2 z3 => k H' G' z1 z2 v (z3.base x13)) (h5.cut _ _)⟩
  · rename_i ts q
    rw [q] at rv3
    cases ho
    obtain ⟨a, xs, rfl, h4, h5⟩ := rv3
    exact .inl ⟨a, xs, rfl, sqL_mono hs3.sub h4, fun p hp => out_lst hs3 hp (fun v H' G' z1 z2 z3 => k H' G' z1 z2 v (z3.base x13)) (h5.cut _ _)⟩
  · rename_i ts q
    rw [q] at rv3
    cases ho
    obtain ⟨a, xs, rfl, h4, h5⟩ := rv3
    refine .inr (.inl ⟨a, xs, rfl, sqT_mono hs3.sub h4, fun hw => ?_, fun _ p hp => out_tup hs3 hp (fun v H' G' z1 z2 z3 => k H' G' z1 z2 v (z3.base x13)) (h5.cut _ _)⟩)
    refine k s3.H s3.G hs3 (Ext.refl _) _ ⟨a, xs, rfl, h4, ?_⟩
    have e6 : cutT ts l u = ts := by
      unfold cutT
      rw [← h5.length]
      exact sIx_whole hw.1 hw.2 h5.length.symm
    rw [e6]
    exact h5
  · rename_i z q
    rw [q] at rv3
    cases rv3
    split at ho
    · cases ho
      exact .inr (.inr ⟨z, rfl, fits_le (by assumption), k s3.H s3.G hs3 (Ext.refl _) _ rfl⟩)
    · cases ho
  · cases ho
end
end L2.VD

namespace L2.VD
open PySem PySem.Spec PyProof.Rows

def Out.slot : Out → Slot
  | .sh t => .sh t
  | .fr ts => .ol false ts
  | .frr tss => .oll tss
  | .ft tss => .sh (.tup (tss.map T.lst))
/-- a slot may be stored: it is there, and not lent by a caller -/
def setSlot (i : Nat) (sl : Slot) (e : List Slot) : Res Fl := match e[i]? with
  | none => .bad
  | some s0 => match s0.pk with
    | none => .ok .nx (e.set i sl)
    | some _ => .bad
theorem setSlot_ok {i : Nat} {sl : Slot} {e e' : List Slot} {f : Fl} (h : setSlot i sl e = .ok f e') : f = .nx ∧ e' = e.set i sl ∧ (∃ s0, e[i]? = some s0 ∧ s0.pk = none) := by
  unfold setSlot at h
  split at h
  · cases h
  · rename_i s0 hs
    split at h
    · rename_i hn
      cases h
      exact ⟨rfl, rfl, s0, hs, hn⟩
    · cases h

section
variable {C : VX} {s s0 : S}
theorem Sees.store (hs : Sees C s) (x : Ext s0 s) {v : V} {o : Out} (ov : OutOk C s0 s v o) (hft : ∀ tss, o ≠ .ft tss) {i : Nat} {sl : Slot} (hi : s.e[i]? = some sl) (hp : sl.pk = none) :
    Sees C ⟨s.e.set i o.slot, s.σ.set i (some v), s.H, s.G⟩ ∧ Ext s0 ⟨s.e.set i o.slot, s.σ.set i (some v), s.H, s.G⟩ := by
  have hie : i < s.e.length := (List.getElem?_eq_some_iff.mp hi).1
  have hiσ : i < s.σ.length := by rw [← hs.len]; exact hie
  have hi' : (s.σ.set i (some v))[i]? = some (some v) := List.getElem?_set_self hiσ
  have new : ∀ a, ownsV s.H v o.slot a → Fresh s0 s a := by
    intro a h
    cases o with
    | sh t => exact h.elim
    | fr ts =>
      obtain ⟨b, xs, rfl, h1, f, _⟩ := ov
      cases (show V.ref b = V.ref a from h)
      exact f
    | frr tss =>
      obtain ⟨b, xs, rfl, h1, f, h2, h3, h4, h5⟩ := ov
      rcases h with h | ⟨c, ys, h, h6, h7⟩
      · cases h; exact f
      · cases h
        rw [h1] at h6
        cases h6
        exact h5 a h7
    | ft tss => exact absurd rfl (hft tss)
  have slot : SlotOk C s.G s.H (some (some v)) o.slot := by
    cases o with
    | sh t => exact ⟨v, rfl, ov⟩
    | fr ts =>
      obtain ⟨b, xs, rfl, h1, f, h2⟩ := ov
      exact ⟨b, xs, rfl, h1, h2⟩
    | frr tss =>
      obtain ⟨b, xs, rfl, h1, f, h2, h3, h4, h5⟩ := ov
      exact ⟨b, xs, rfl, h1, h2, h3, h4⟩
    | ft tss => exact absurd rfl (hft tss)
  have back : ∀ j a, Owns ⟨s.e.set i o.slot, s.σ.set i (some v), s.H, s.G⟩ j a → (j = i ∧ Fresh s0 s a) ∨ (j ≠ i ∧ Owns s j a) := by
    rintro j a ⟨sl', w, h1, h2, h3⟩
    rcases get_set h1 with ⟨rfl, rfl, _⟩ | ⟨hj, h1⟩
    · have h2' : (s.σ.set j (some v))[j]? = some (some w) := h2
      rw [hi'] at h2'
      cases h2'
      exact .inl ⟨rfl, new a h3⟩
    · have h2' : (s.σ.set i (some v))[j]? = some (some w) := h2
      rw [List.getElem?_set_ne (Ne.symm hj)] at h2'
      exact .inr ⟨hj, sl', w, h1, h2', h3⟩
  constructor
  · refine ⟨hs.sub, by show (s.e.set i _).length = (s.σ.set i _).length; rw [List.length_set, List.length_set]; exact hs.len, fun j sl' h1 => ?_, fun j a h => ?_, fun j k a h1 h2 => ?_⟩
    · show SlotOk C s.G s.H (s.σ.set i (some v))[j]? sl'
      rcases get_set h1 with ⟨rfl, rfl, _⟩ | ⟨hj, h1⟩
      · rw [hi']; exact slot
      · rw [List.getElem?_set_ne (Ne.symm hj)]
        exact hs.at_ j sl' h1
    · rcases back j a h with ⟨_, f⟩ | ⟨_, h⟩
      · exact f.g
      · exact hs.own j a h
    · rcases back j a h1 with ⟨rfl, f⟩ | ⟨hj, h1⟩
      · rcases back k a h2 with ⟨rfl, _⟩ | ⟨hk, h2⟩
        · rfl
        · exact absurd h2 (f.no k)
      · rcases back k a h2 with ⟨_, f⟩ | ⟨hk, h2⟩
        · exact absurd h1 (f.no j)
        · exact hs.inj j k a h1 h2
  · refine ⟨x.g, x.keep, x.gnew, fun j a h => ?_, fun j kk h => ?_⟩
    · rcases back j a h with ⟨_, f⟩ | ⟨_, h⟩
      · exact f.new
      · exact x.own j a h
    · obtain ⟨e1, h1⟩ := x.pin j kk h
      have hj : j ≠ i := fun q => by
        subst q
        rw [hi] at h1
        exact nomatch (show (none : Option Nat) = some kk from hp ▸ h1)
      refine ⟨?_, ?_⟩
      · show (s.σ.set i (some v))[j]? = _
        rw [List.getElem?_set_ne (Ne.symm hj)]
        exact e1
      · show ((s.e.set i _)[j]?).bind Slot.pk = _
        rw [List.getElem?_set_ne (Ne.symm hj)]
        exact h1
/-- .. with a tuple of new lists frozen first -/
theorem Sees.store' (hs : Sees C s) (x : Ext s0 s) {v : V} {o : Out} (ov : OutOk C s0 s v o) {i : Nat} {sl : Slot} (hi : s.e[i]? = some sl) (hp : sl.pk = none) :
    ∃ G', Sees C ⟨s.e.set i o.slot, s.σ.set i (some v), s.H, G'⟩ ∧ Ext s0 ⟨s.e.set i o.slot, s.σ.set i (some v), s.H, G'⟩ := by
  by_cases hft : ∃ tss, o = .ft tss
  · obtain ⟨tss, rfl⟩ := hft
    obtain ⟨G', z1, z2, z3, z4⟩ := ov.freeze hs x
    exact ⟨G', z1.store z2 (o := .sh (.tup (tss.map T.lst))) z4 (fun _ e => nomatch e) hi hp⟩
  · exact ⟨s.G, hs.store x ov (fun tss e => hft ⟨tss, e⟩) hi hp⟩
end

def dNx : DS := fun e => .ok .nx e
def dSeq (d1 d2 : DS) : DS := fun e => (d1 e).bind fun f e1 => match f with
  | .nx => d2 e1
  | .bk => .ok .bk e1
  | .ct => .ok .ct e1
  | .rt o => .ok (.rt o) e1
def dBrk : DS := fun e => .ok .bk e
def dCnt : DS := fun e => .ok .ct e
def dRet (da : DE) : DS := fun e => (da e).bind fun o e1 => .ok (.rt o) e1
def dRetN : DS := fun e => .ok (.rt (.sh .non)) e
def dDrop (da : DE) : DS := fun e => (da e).bind fun _ e1 => .ok .nx e1
def dIfS (c : DT) (d1 d2 : DS) : DS := fun e => (c e).bind fun b e1 => if b then d1 e1 else d2 e1
def dSet (i : Nat) (da : DE) : DS := fun e => (da e).bind fun o e1 => setSlot i o.slot e1
def dBad : DS := fun _ => .bad
section
variable {X : Cx} {C : VX} {W : WX} {st : Stmt} {rest : List Stmt} {d1 d2 : DS} {a b : Expr} {da db : DE} {c : DT} {pos : Pos}
theorem s_nil : PSs X [] (tDS C W dNx) := pss_nil.imp fun D σ H ⟨e, G, hs, h⟩ => h σ H G hs (Ext.refl _)
theorem tSeq_of {D : Ends} {σ : St} {H : Hp} (h : tDS C W (dSeq d1 d2) D σ H) : tSeq (tDS C W d1) (tDS C W d2) D σ H := by
  obtain ⟨e, G, hs, h⟩ := h
  refine ⟨e, G, hs, ?_⟩
  unfold dSeq at h
  cases q : d1 e with
  | bad => rw [q] at h; exact h
  | ex x e1 => rw [q] at h; exact h
  | ok f e1 =>
    rw [q] at h
    intro σ' H' G' h1 h2
    cases f with
    | nx =>
      have h' : SatS C W ⟨e, σ, H, G⟩ (d2 e1) D := h
      exact ⟨e1, G', h1, h'.rebase h2⟩
    | bk => exact h σ' H' G' h1 h2
    | ct => exact h σ' H' G' h1 h2
    | rt o => exact h σ' H' G' h1 h2
theorem s_cons (h1 : PS X st (tDS C W d1)) (h2 : PSs X rest (tDS C W d2)) : PSs X (st :: rest) (tDS C W (dSeq d1 d2)) := (pss_cons h1 h2).imp fun _ _ _ h => tSeq_of h
theorem s_one (h1 : PS X st (tDS C W d1)) : PSs X [st] (tDS C W d1) := pss_one h1
theorem s_pass : PS X (.Pass pos) (tDS C W dNx) := ps_pass.imp fun D σ H ⟨e, G, hs, h⟩ => h σ H G hs (Ext.refl _)
theorem s_doc {x j pos pos'} : PS X (.Expr (.Constant (.str x) j pos) pos') (tDS C W dNx) := ps_doc.imp fun D σ H ⟨e, G, hs, h⟩ => h σ H G hs (Ext.refl _)
theorem s_brk : PS X (.Break pos) (tDS C W dBrk) := ps_break.imp fun D σ H ⟨e, G, hs, h⟩ => h σ H G hs (Ext.refl _)
theorem s_cnt : PS X (.Continue pos) (tDS C W dCnt) := ps_continue.imp fun D σ H ⟨e, G, hs, h⟩ => h σ H G hs (Ext.refl _)
theorem s_never : PS X st (tDS C W dBad) := ps_never.imp fun D σ H ⟨e, G, hs, h⟩ => h
theorem ss_never {sts : List Stmt} : PSs X sts (tDS C W dBad) := pss_never.imp fun D σ H ⟨e, G, hs, h⟩ => h
theorem s_ret (he : PE X a (tD C W da)) : PS X (.Return (some a) pos) (tDS C W (dRet da)) := (ps_ret he).imp fun D σ H ⟨e, G, hs, h⟩ => by
  refine ⟨e, G, hs, ?_⟩
  unfold dRet at h
  cases q : da e with
  | bad => rw [q] at h; exact h
  | ex y e1 => rw [q] at h; exact fun cls d H' G' z1 z2 z3 => h cls d σ H' G' z1 z2 z3
  | ok o e1 => rw [q] at h; exact fun H' G' z1 z2 v ov => h σ H' G' z1 z2 v ov
theorem s_retN : PS X (.Return none pos) (tDS C W dRetN) := ps_retN.imp fun D σ H ⟨e, G, hs, h⟩ => h σ H G hs (Ext.refl _) _ rfl
theorem s_expr (he : PE X a (tD C W da)) (hs : swapsWith a none pos.line X.env = pure false := by rfl) : PS X (.Expr a pos) (tDS C W (dDrop da)) := (ps_expr he hs).imp fun D σ H ⟨e, G, hs, h⟩ => by
  refine ⟨e, G, hs, ?_⟩
  unfold dDrop at h
  cases q : da e with
  | bad => rw [q] at h; exact h
  | ex y e1 => rw [q] at h; exact fun cls d H' G' z1 z2 z3 => h cls d σ H' G' z1 z2 z3
  | ok o e1 => rw [q] at h; exact fun H' G' z1 z2 v ov => h σ H' G' z1 z2
theorem s_if {x : Expr} {l1 l2 : List Stmt} (hc : PT X x (tDT C W c)) (h1 : PSs X l1 (tDS C W d1)) (h2 : PSs X l2 (tDS C W d2)) : PS X (.If x l1 l2 pos) (tDS C W (dIfS c d1 d2)) := (ps_if hc h1 h2).imp fun D σ H ⟨e, G, hs, h⟩ => by
  refine tDT_I (s := ⟨e, σ, H, G⟩) hs ((SatS.bind h).mono fun b s1 hs1 x1 e1 k => ?_)
  have hσ : s1.σ = σ := e1
  subst hσ
  cases b with
  | true => exact iteT (tDS_I hs1 k)
  | false => exact iteF (tDS_I hs1 k)
theorem set_of {D : Ends} {s s' : S} {v : V} {o : Out} {i : Nat} {e1 : List Slot} (z1 : Sees C s') (z2 : Ext s s') (ov : OutOk C s s' v o) (h : SatS C W s (setSlot i o.slot s'.e) D) : D.nx (s'.σ.set i (some v)) s'.H := by
  cases q : setSlot i o.slot s'.e with
  | bad => rw [q] at h; exact h.elim
  | ex y e2 =>
    unfold setSlot at q
    split at q
    · cases q
    · split at q <;> cases q
  | ok f e2 =>
    rw [q] at h
    obtain ⟨rfl, rfl, s0, hi, hp⟩ := setSlot_ok q
    obtain ⟨G', y1, y2⟩ := z1.store' z2 ov hi hp
    exact h _ _ _ y1 y2
theorem s_set (i : Nat) {x : Str} {pos' : Pos} (hN : X.N.Nodup) (he : PE X a (tD C W da)) (hi : X.N[i]? = some x := by rfl) (hx : Loc X.env.scope x := by first | exact .inl rfl | exact .inr rfl)
    (hs : swapsWith a (some (.Name x pos')) pos.line X.env = pure false := by rfl) (hf : X.fn x = true ∨ X.env.scope.names.lookup x = some .local := by first | exact .inl rfl | exact .inr rfl | assumption) :
    PS X (.Assign [.Name x pos'] a pos) (tDS C W (dSet i da)) := (ps_set hN hi hx he hs hf).imp fun D σ H ⟨e, G, hs, h⟩ => by
  refine ⟨e, G, hs, ?_⟩
  unfold dSet at h
  cases q : da e with
  | bad => rw [q] at h; exact h
  | ex y e1 => rw [q] at h; exact fun cls d H' G' z1 z2 z3 => h cls d σ H' G' z1 z2 z3
  | ok o e1 => rw [q] at h; exact fun H' G' z1 z2 v ov => set_of (e1 := e1) z1 z2 ov h
end
end L2.VD

namespace L2.VD
open PySem PySem.Spec PyProof.Rows

abbrev DG := T → List Slot → Res Fl
abbrev DGs := List T → List Slot → Res Fl
def nxD (Q : St → Hp → Prop) : Ends := { nx := Q, rt := fun _ _ => False }
/-- the slots but those at is stay -/
def Stay (ns : List Nat) (σ σ' : St) : Prop := σ'.length = σ.length ∧ ∀ j, j ∉ ns → σ'[j]? = σ[j]?
def SatG (C : VX) (W : WX) (ns : List Nat) (s : S) (r : Res Fl) (Q : St → Hp → Prop) : Prop := match r with
  | .ok .nx e' => ∀ σ' H' G', Sees C ⟨e', σ', H', G'⟩ → Ext s ⟨e', σ', H', G'⟩ → Stay ns s.σ σ' → Q σ' H'
  | .ok .bk _ => False
  | .ok .ct _ => False
  | .ok (.rt _) _ => False
  | .ex x e' => ∀ cls d σ' H' G', Sees C ⟨e', σ', H', G'⟩ → Ext s ⟨e', σ', H', G'⟩ → XOk C ⟨e', σ', H', G'⟩ cls d x → W cls d σ' H'
  | .bad => False
def tDG (C : VX) (W : WX) (ns : List Nat) (g : DG) : TG := fun v σ H Q => ∃ e G t, Sees C ⟨e, σ, H, G⟩ ∧ Rp C G t v ∧ SatG C W ns ⟨e, σ, H, G⟩ (g t e) Q
def tDGs (C : VX) (W : WX) (ns : List Nat) (g : DGs) : TGs := fun vs σ H Q => ∃ e G ts, Sees C ⟨e, σ, H, G⟩ ∧ Rps C G ts vs ∧ SatG C W ns ⟨e, σ, H, G⟩ (g ts e) Q
/-- only where the first goes on -/
def onNx (r : Res Fl) (k : List Slot → Res Fl) : Res Fl := match r with
  | .ok .nx e => k e
  | .ok .bk _ => .bad
  | .ok .ct _ => .bad
  | .ok (.rt _) _ => .bad
  | .ex x e => .ex x e
  | .bad => .bad
def gN (i : Nat) : DG := fun t e => setSlot i (.sh t) e
def gsNil : DGs := fun ts e => match ts with
  | [] => .ok .nx e
  | _ :: _ => .bad
def gsCons (g : DG) (gr : DGs) : DGs := fun ts e => match ts with
  | [] => .bad
  | t :: ts => onNx (g t e) fun e1 => gr ts e1
def gT (n : Nat) (gs : DGs) : DG := fun t e => match t with
  | .tup ts => if Nat.beq ts.length n then gs ts e else .bad
  | _ => .bad
section
variable {X : Cx} {C : VX} {W : WX} {s : S} {tg a : Expr} {es : List Expr} {g : DG} {gs : DGs} {da : DE} {pos : Pos} {ns ms : List Nat}
theorem Stay.refl (σ : St) : Stay ns σ σ := ⟨rfl, fun _ _ => rfl⟩
theorem Stay.trans {σ σ1 σ2 : St} (a : Stay ns σ σ1) (b : Stay ms σ1 σ2) : Stay (ns ++ ms) σ σ2 := ⟨b.1.trans a.1, fun j hj => (b.2 j fun h => hj (List.mem_append_right _ h)).trans (a.2 j fun h => hj (List.mem_append_left _ h))⟩
theorem SatS.onNx {r : Res Fl} {k : List Slot → Res Fl} {D : Ends} (h : SatS C W s (onNx r k) D) : SatG C W ns s r fun σ' H' => ∃ e' G', Sees C ⟨e', σ', H', G'⟩ ∧ Ext s ⟨e', σ', H', G'⟩ ∧ SatS C W s (k e') D := by
  cases r with
  | bad => exact h
  | ex x e => exact h
  | ok f e =>
    cases f with
    | nx => exact fun σ' H' G' z1 z2 _ => ⟨e, G', z1, z2, h⟩
    | bk => exact h.elim
    | ct => exact h.elim
    | rt o => exact h.elim
theorem SatG.onNx {r : Res Fl} {k : List Slot → Res Fl} {Q : St → Hp → Prop} (h : SatG C W (ns ++ ms) s (onNx r k) Q) : SatG C W ns s r fun σ' H' => ∃ e' G', Sees C ⟨e', σ', H', G'⟩ ∧ Ext s ⟨e', σ', H', G'⟩ ∧ SatG C W ms ⟨e', σ', H', G'⟩ (k e') Q := by
  cases r with
  | bad => exact h
  | ex x e => exact h
  | ok f e =>
    cases f with
    | bk => exact h.elim
    | ct => exact h.elim
    | rt o => exact h.elim
    | nx =>
      have h : SatG C W (ns ++ ms) s (k e) Q := h
      intro σ' H' G' z1 z2 z3
      refine ⟨e, G', z1, z2, ?_⟩
      cases q : k e with
      | bad => rw [q] at h; exact h
      | ex x e2 => rw [q] at h; exact fun cls d σ2 H2 G2 y1 y2 y3 => h cls d σ2 H2 G2 y1 (z2.trans y2) y3
      | ok f e2 =>
        rw [q] at h
        cases f with
        | bk => exact h.elim
        | ct => exact h.elim
        | rt o => exact h.elim
        | nx => exact fun σ2 H2 G2 y1 y2 y3 => h σ2 H2 G2 y1 (z2.trans y2) (z3.trans y3)
theorem SatG.mono {r : Res Fl} {Q Q' : St → Hp → Prop} (h : SatG C W ns s r Q) (i : ∀ σ H, Stay ns s.σ σ → Q σ H → Q' σ H) : SatG C W ns s r Q' := by
  cases r with
  | bad => exact h
  | ex x e => exact h
  | ok f e =>
    cases f with
    | bk => exact h.elim
    | ct => exact h.elim
    | rt o => exact h.elim
    | nx => exact fun σ2 H2 G2 y1 y2 y3 => i _ _ y3 (h σ2 H2 G2 y1 y2 y3)
theorem SatG.rebase {s1 : S} {r : Res Fl} {Q : St → Hp → Prop} (h : SatG C W ns s r Q) (x : Ext s s1) (hσ : s1.σ = s.σ) : SatG C W ns s1 r Q := by
  cases r with
  | bad => exact h
  | ex y e => exact fun cls d σ2 H2 G2 y1 y2 y3 => h cls d σ2 H2 G2 y1 (x.trans y2) y3
  | ok f e =>
    cases f with
    | bk => exact h.elim
    | ct => exact h.elim
    | rt o => exact h.elim
    | nx => exact fun σ2 H2 G2 y1 y2 y3 => h σ2 H2 G2 y1 (x.trans y2) (by rw [← hσ]; exact y3)
theorem _root_.L2.PG.imp {X : Cx} {e : Expr} {t t' : TG} (h : PG X e t) (i : ∀ v σ H Q, t' v σ H Q → t v σ H Q) : PG X e t' := ⟨fun pins s σ H v u Q I r q => h.run pins s σ H v u Q I r (i v σ H Q q)⟩
theorem _root_.L2.PGs.imp {X : Cx} {e : List Expr} {t t' : TGs} (h : PGs X e t) (i : ∀ v σ H Q, t' v σ H Q → t v σ H Q) : PGs X e t' := ⟨fun pins s σ H v u Q I r q => h.run pins s σ H v u Q I r (i v σ H Q q)⟩
theorem stay_set {i : Nat} {σ : St} {x : Option V} : Stay [i] σ (σ.set i x) := ⟨by rw [List.length_set], fun j hj => by
  rw [List.getElem?_set_ne fun e => hj (by rw [e]; exact List.mem_singleton.mpr rfl)]⟩
theorem g_name (i : Nat) {x : Str} (hN : X.N.Nodup) (hi : X.N[i]? = some x := by rfl) (hx : Loc X.env.scope x := by first | exact .inl rfl | exact .inr rfl) (hf : X.fn x = true ∨ X.env.scope.names.lookup x = some .local := by first | exact .inl rfl | exact .inr rfl | assumption) : PG X (.Name x pos) (tDG C W [i] (gN i)) := (pg_name hN hi hx hf).imp fun v σ H Q ⟨e, G, t, hs, r, h⟩ => by
  show Q (σ.set i (some v)) H
  have h : SatG C W [i] ⟨e, σ, H, G⟩ (setSlot i (.sh t) e) Q := h
  cases q : setSlot i (.sh t) e with
  | bad => rw [q] at h; exact h.elim
  | ex y e2 =>
    unfold setSlot at q
    split at q
    · cases q
    · split at q <;> cases q
  | ok f e2 =>
    obtain ⟨rfl, rfl, s0, hi, hp⟩ := setSlot_ok q
    rw [q] at h
    obtain ⟨y1, y2⟩ := hs.store (s := ⟨e, σ, H, G⟩) (Ext.refl _) (o := .sh t) r (fun _ z => nomatch z) hi hp
    exact h _ _ _ y1 y2 stay_set
theorem gs_nil : PGs X [] (tDGs C W [] gsNil) := pgs_nil.imp fun v σ H Q ⟨e, G, ts, hs, r, h⟩ => by
  cases ts with
  | nil => cases r; exact ⟨rfl, h σ H G hs (Ext.refl _) (Stay.refl _)⟩
  | cons t ts => exact h.elim
theorem gs_cons (h1 : PG X tg (tDG C W ns g)) (h2 : PGs X es (tDGs C W ms gs)) (hs : (assignEach (tg :: es) X.env).map (·.2) = assign tg X.env :: (assignEach es X.env).map (·.2) := by rfl) : PGs X (tg :: es) (tDGs C W (ns ++ ms) (gsCons g gs)) := (pgs_cons h1 h2 hs).imp fun v σ H Q ⟨e, G, ts, hs, r, h⟩ => by
  cases ts with
  | nil => exact h.elim
  | cons t ts =>
    obtain ⟨x, xs, rfl, r1, r2⟩ := r
    refine ⟨x, xs, rfl, e, G, t, hs, r1, (SatG.onNx h).mono fun σ' H' _ ⟨e', G', z1, z2, z3⟩ => ?_⟩
    exact ⟨e', G', ts, z1, r2.mono z2.g, z3⟩
theorem g_tup {k n : Nat} (hc : X.calm = true) (h : PGs X es (tDGs C W ns gs)) (hn : (assignEach es X.env).length = n := by rfl) (hst : (assignEach es X.env).findIdx? (·.1) = none := by rfl) (hK : C.K = X.K := by rfl) : PG X (.Tuple es k pos) (tDG C W ns (gT n gs)) := (pg_tup hc h hn hst).imp fun v σ H Q ⟨e, G, t, hs, r, h⟩ => by
  unfold gT at h
  split at h
  · rename_i ts
    split at h
    · rename_i hl
      obtain ⟨a, xs, rfl, r1, r2⟩ := r
      rw [← hK]
      exact ⟨a, xs, rfl, sqT_mono hs.sub r1, by rw [r2.length]; exact Nat.eq_of_beq_eq_true hl, e, G, ts, hs, r2, h⟩
    · exact h.elim
  · exact h.elim
/-- a target's store as a statement -/
def dAsg (da : DE) (g : DG) : DS := fun e => (da e).bind fun o e1 => onNx (g o.t e1) fun e2 => .ok .nx e2
theorem tAsg_of {D : Ends} {σ : St} {H : Hp} (h : tDS C W (dAsg da g) D σ H) : tAsg (tD C W da) (tDG C W ns g) D σ H := by
  obtain ⟨e, G, hs, h⟩ := h
  refine tD_T (s := ⟨e, σ, H, G⟩) hs ((SatS.bind h).mono fun o s1 hs1 x1 e1 h1 v rv => ?_)
  have hσ : s1.σ = σ := e1
  subst hσ
  exact ⟨s1.e, s1.G, o.t, hs1, rv, (SatS.onNx h1).mono fun σ' H' _ ⟨e', G', z1, z2, z3⟩ => z3 σ' H' G' z1 z2⟩
theorem s_unp (he : PE X a (tD C W da)) (hg : PG X tg (tDG C W ns g)) (hs : swapsWithSole [tg] a pos.line X.env = pure false := by rfl) (hw : swappedStores [tg] a X.env = pure none := by rfl) (h1 : (assignEach [tg] X.env).map (·.2) = [assign tg X.env] := by rfl) : PS X (.Assign [tg] a pos) (tDS C W (dAsg da g)) := (ps_asg he hg hs hw h1).imp fun D σ H h => tAsg_of h
end

theorem SatS.mono {C : VX} {W : WX} {s : S} {r : Res Fl} {D D' : Ends} (h : SatS C W s r D) (hn : ∀ σ H, D.nx σ H → D'.nx σ H) (hr : ∀ v H, D.rt v H → D'.rt v H) (hb : ∀ σ H, D.bk σ H → D'.bk σ H) (hc : ∀ σ H, D.ct σ H → D'.ct σ H) : SatS C W s r D' := by
  cases r with
  | bad => exact h
  | ex x e => exact h
  | ok f e =>
    intro σ' H' G' z1 z2
    have k := h σ' H' G' z1 z2
    cases f with
    | nx => exact hn _ _ k
    | bk => exact hb _ _ k
    | ct => exact hc _ _ k
    | rt o => exact fun v ov => hr _ _ (k v ov)
structure JOk (C : VX) (J : It) (G : Hp) (ts : List T) : Prop where
  go : ∀ (H G' : Hp), (∀ a o, G a = some o → G' a = some o) → (∀ a o, G' a = some o → H a = some o) → ∀ (i : Nat) t, ts[i]? = some t → J.go i H ∧ ∀ x H', J.yld i H x H' →
    ∃ G2, (∀ a o, H a = some o → H' a = some o) ∧ (∀ a o, G' a = some o → G2 a = some o) ∧ (∀ a o, G2 a = some o → H' a = some o) ∧ (∀ a, G2 a ≠ none → G' a ≠ none ∨ H a = none) ∧ Rp C G2 t x
  stop : ∀ (H G' : Hp), (∀ a o, G a = some o → G' a = some o) → (∀ a o, G' a = some o → H a = some o) → ∀ i : Nat, ts.length ≤ i → i ≤ ts.length → J.stop i H
abbrev DI := List Slot → Res (List T)
def tDI (C : VX) (W : WX) (d : DI) : TI := fun σ H R => ∃ e G, Sees C ⟨e, σ, H, G⟩ ∧ SatE C W ⟨e, σ, H, G⟩ (d e) fun ts s' => ∀ J, JOk C J s'.G ts → R J s'.H
theorem _root_.L2.PI.imp {X : Cx} {tg e : Expr} {t t' : TI} (h : PI X tg e t) (i : ∀ σ H R, t' σ H R → t σ H R) : PI X tg e t' := ⟨fun pins s σ H R I q => h.run pins s σ H R I (i σ H R q)⟩
def itemsT : T → Option (List T)
  | .lst ts => some ts
  | .sq ts => some ts
  | .tup ts => some ts
  | .str x => some (x.cps.toList.map fun c => .str ⟨#[c]⟩)
  | _ => none
def dItems (da : DE) : DI := fun e => (da e).bind fun o e1 => Res.of (itemsT o.t) e1
def rngT (lo : Int) (n : Nat) : List T := (List.range n).map fun k => .int (lo + (k : Nat))
abbrev rngIn (i : Int) : Bool := decide (-(2 ^ 62) ≤ i) && decide (i < 2 ^ 62)
def asRng1 : T → Option (List T)
  | .int j => if rngIn j then some (rngT 0 j.toNat) else none
  | _ => none
def asRng2 : T → T → Option (List T)
  | .int i, .int j => if rngIn i && rngIn j then some (rngT i (j - i).toNat) else none
  | _, _ => none
def rngD (lo : Int) (n : Nat) : List T := (List.range n).map fun k => .int (lo + (k : Nat) * (-1))
def asRng3 : T → T → T → Option (List T)
  | .int i, .int j, .int c => if rngIn i && rngIn j && decide (c = -1) then some (rngD i (i - j).toNat) else none
  | _, _, _ => none
def asRng : List T → Option (List T)
  | [t] => asRng1 t
  | [t, u] => asRng2 t u
  | [t, u, v] => asRng3 t u v
  | _ => none
def dRng (d : DA) : DI := fun e => (d e).bind fun ts e1 => Res.of (asRng ts) e1
section
variable {X : Cx} {C : VX} {W : WX} {a b c : Expr} {da db dc : DE} {dA : DA} {tg : Expr} {pos : Pos}
theorem jok_list {G : Hp} {p : Addr} {ts : List T} {xs : List V} (h : SqL C.K G p xs) (r : Rps C G ts xs) {K : PySem.W.Frag} (hK : C.K = K := by rfl) : JOk C (Itl K p) G ts := by
  subst hK
  refine ⟨fun H G' g sub i t e => ?_, fun H G' g sub i hi _ => ⟨xs, sqL_mono sub (sqL_mono g h), by rw [r.length]; exact hi⟩⟩
  obtain ⟨x, e1, r1⟩ := r.get e
  have hH := sqL_mono sub (sqL_mono g h)
  refine ⟨⟨xs, x, hH, e1⟩, fun y H' hy => ?_⟩
  obtain ⟨rfl, f⟩ := hy
  have : y = x := Option.some.inj ((f xs hH).symm.trans e1)
  subst this
  exact ⟨G', fun _ _ z => z, fun _ _ z => z, sub, fun _ z => .inl z, r1.mono g⟩
theorem jok_tup {G : Hp} {p : Addr} {ts : List T} {xs : List V} (h : SqT C.K G p xs) (r : Rps C G ts xs) {K : PySem.W.Frag} (hK : C.K = K := by rfl) : JOk C (Itt K p) G ts := by
  subst hK
  refine ⟨fun H G' g sub i t e => ?_, fun H G' g sub i hi _ => ⟨xs, sqT_mono sub (sqT_mono g h), by rw [r.length]; exact hi⟩⟩
  obtain ⟨x, e1, r1⟩ := r.get e
  have hH := sqT_mono sub (sqT_mono g h)
  refine ⟨⟨xs, x, hH, e1⟩, fun y H' hy => ?_⟩
  obtain ⟨rfl, f⟩ := hy
  have : y = x := Option.some.inj ((f xs hH).symm.trans e1)
  subst this
  exact ⟨G', fun _ _ z => z, fun _ _ z => z, sub, fun _ z => .inl z, r1.mono g⟩
theorem jok_str {G : Hp} {x : Str} : JOk C (Its x) G (x.cps.toList.map fun c => .str ⟨#[c]⟩) := by
  refine ⟨fun H G' g sub i t e => ?_, fun H G' g sub i hi _ => ?_⟩
  · rw [List.getElem?_map] at e
    cases q : x.cps.toList[i]? with
    | none => rw [q] at e; cases e
    | some c =>
      rw [q] at e
      cases e
      have q' : x.cps[i]? = some c := by simpa using q
      refine ⟨(Array.getElem?_eq_some_iff.mp q').1, fun y H' hy => ?_⟩
      obtain ⟨rfl, c', hc, rfl⟩ := hy
      rw [q'] at hc
      cases hc
      exact ⟨G', fun _ _ z => z, fun _ _ z => z, sub, fun _ z => .inl z, rfl⟩
  · rw [List.length_map] at hi
    show x.cps.size ≤ i
    simpa using hi
theorem jok_rng {G : Hp} {lo : Int} {n : Nat} : JOk C (Itr lo n) G (rngT lo n) := by
  refine ⟨fun H G' g sub i t e => ?_, fun H G' g sub i hi _ => ?_⟩
  · unfold rngT at e
    rw [List.getElem?_map] at e
    cases q : (List.range n)[i]? with
    | none => rw [q] at e; cases e
    | some k =>
      rw [q] at e
      cases e
      obtain ⟨hk, hk2⟩ := List.getElem?_eq_some_iff.mp q
      rw [List.length_range] at hk
      rw [List.getElem_range] at hk2
      subst hk2
      refine ⟨hk, fun y H' hy => ?_⟩
      obtain ⟨rfl, rfl⟩ := hy
      exact ⟨G', fun _ _ z => z, fun _ _ z => z, sub, fun _ z => .inl z, rfl⟩
  · unfold rngT at hi
    rw [List.length_map, List.length_range] at hi
    exact hi
theorem jok_rngD {G : Hp} {lo : Int} {n : Nat} : JOk C (Itc lo (-1) n) G (rngD lo n) := by
  refine ⟨fun H G' g sub i t e => ?_, fun H G' g sub i hi _ => ?_⟩
  · unfold rngD at e
    rw [List.getElem?_map] at e
    cases q : (List.range n)[i]? with
    | none => rw [q] at e; cases e
    | some k =>
      rw [q] at e
      cases e
      obtain ⟨hk, hk2⟩ := List.getElem?_eq_some_iff.mp q
      rw [List.length_range] at hk
      rw [List.getElem_range] at hk2
      subst hk2
      refine ⟨hk, fun y H' hy => ?_⟩
      obtain ⟨rfl, rfl⟩ := hy
      exact ⟨G', fun _ _ z => z, fun _ _ z => z, sub, fun _ z => .inl z, rfl⟩
  · unfold rngD at hi
    rw [List.length_map, List.length_range] at hi
    exact hi
/-- a list, a tuple, a text -/
def iSeq (K : PySem.W.Frag) (tl : TE) : TI := fun σ H R => tl σ H fun x H1 => (∃ a, x = .ref a ∧ (∃ xs, SqL K H1 a xs) ∧ R (Itl K a) H1) ∨ (∃ a, x = .ref a ∧ (∃ xs, SqT K H1 a xs) ∧ R (Itt K a) H1) ∨ ∃ z, x = .str z ∧ R (Its z) H1
/-- the walk of a value, by values -/
theorem PIE_list {pins : List (Addr × Obj)} {σ : St} {H1 : Hp} {s1 : Shared} {R : It → Hp → Prop} {a : Addr} {xs : List V} (I1 : Inv X pins σ H1 s1) (hq : SqL X.K H1 a xs) (q : R (Itl X.K a) H1) : wpAny (model X.prog X.w) X.A (pyIter (.ref a)) (PIE X pins σ tg R) X.xe s1 := by
  obtain ⟨its, rv, p, hz⟩ := I1.list hq
  refine wpAny_pyIter_list p.isList ?_
  refine ⟨s1.heap.objs.size, [s1.heap.objs.size], _, _, H1, rfl, I1.kept (t' := s1.toks) fun b o e => Heap.get?_push_of_some _ e, turn_list a _, ⟨_, Heap.get?_push_size _ rfl, rfl, rfl⟩, fun b hb => ?_, q⟩
  have e : b = s1.heap.objs.size := by simpa using hb
  subst e
  exact I1.fpOk (Nat.le_refl _) (I1.hok.fresh (Nat.le_refl _))
theorem PIE_tup {pins : List (Addr × Obj)} {σ : St} {H1 : Hp} {s1 : Shared} {R : It → Hp → Prop} {a : Addr} {xs : List V} (I1 : Inv X pins σ H1 s1) (hq : SqT X.K H1 a xs) (q : R (Itt X.K a) H1) : wpAny (model X.prog X.w) X.A (pyIter (.ref a)) (PIE X pins σ tg R) X.xe s1 := by
  obtain ⟨its, rv, p, hz⟩ := I1.tuple hq
  refine wpAny_pyIter_tuple (show s1.heap.IsTuple a its.toArray from p) ?_
  refine ⟨s1.heap.objs.size, [s1.heap.objs.size], _, _, H1, rfl, I1.kept (t' := s1.toks) fun b o e => Heap.get?_push_of_some _ e, turn_tuple a _, ⟨_, Heap.get?_push_size _ rfl, rfl, rfl⟩, fun b hb => ?_, q⟩
  have e : b = s1.heap.objs.size := by simpa using hb
  subst e
  exact I1.fpOk (Nat.le_refl _) (I1.hok.fresh (Nat.le_refl _))
theorem pi_seq {l : Expr} {tl : TE} (hl : PE X l tl) : PI X tg l (iSeq X.K tl) := by
  refine ⟨fun pins s σ H R I h => ?_⟩
  refine thn (hl.run pins s σ H _ I h) fun v s1 ⟨x, H1, I1, r1, q1⟩ => ?_
  rcases q1 with ⟨a, rfl, ⟨xs, hq⟩, q⟩ | ⟨a, rfl, ⟨xs, hq⟩, q⟩ | ⟨z, rfl, q⟩
  · cases r1
    exact PIE_list I1 hq q
  · cases r1
    exact PIE_tup I1 hq q
  · obtain ⟨t, rfl⟩ := r1
    cases ha : z.cps.all (· < 128)
    · exact wpAny_pyIter_wide ha (pi_one (tk := s1.toks) I1 _ (turn_str _ z t "str_iterator" (.inr rfl)) ⟨_, Heap.get?_push_size _ rfl, rfl, rfl⟩ q)
    · exact wpAny_pyIter_ascii ha (pi_one (tk := s1.toks) I1 _ (turn_str _ z t "str_ascii_iterator" (.inl rfl)) ⟨_, Heap.get?_push_size _ rfl, rfl, rfl⟩ q)
theorem i_seq (ha : PE X a (tD C W da)) (hK : C.K = X.K := by rfl) : PI X tg a (tDI C W (dItems da)) := (pi_seq ha).imp fun σ H R ⟨e, G, hs, h⟩ => by
  refine tD_T (s := ⟨e, σ, H, G⟩) hs ((SatE.bind h).mono fun o s1 hs1 x1 e1 h1 v rv => ?_)
  obtain ⟨ts, ho, k⟩ := SatE.of h1
  have k := k s1.H s1.G hs1 (Ext.refl _)
  rw [← hK]
  cases q : o.t with
  | lst us =>
    rw [q] at ho rv
    cases ho
    obtain ⟨p, xs, rfl, h2, h3⟩ := rv
    exact .inl ⟨p, rfl, ⟨xs, .of (hs1.sub _ _ h2)⟩, k _ (jok_list (.of h2) h3)⟩
  | sq us =>
    rw [q] at ho rv
    cases ho
    obtain ⟨p, xs, rfl, h2, h3⟩ := rv
    exact .inl ⟨p, rfl, ⟨xs, sqL_mono hs1.sub h2⟩, k _ (jok_list h2 h3)⟩
  | tup us =>
    rw [q] at ho rv
    cases ho
    obtain ⟨p, xs, rfl, h2, h3⟩ := rv
    exact .inr (.inl ⟨p, rfl, ⟨xs, sqT_mono hs1.sub h2⟩, k _ (jok_tup h2 h3)⟩)
  | str x =>
    rw [q] at ho rv
    cases ho
    cases rv
    exact .inr (.inr ⟨x, rfl, k _ jok_str⟩)
  | non => rw [q] at ho; cases ho
  | bl b => rw [q] at ho; cases ho
  | int i => rw [q] at ho; cases ho
  | obj c ts => rw [q] at ho; cases ho
theorem asRng1_some {t : T} {ts : List T} (h : asRng1 t = some ts) : ∃ j, t = .int j ∧ -(2 ^ 62) ≤ j ∧ j < 2 ^ 62 ∧ ts = rngT 0 j.toNat := by
  unfold asRng1 at h
  split at h
  · split at h
    · rename_i j hj
      rw [Bool.and_eq_true] at hj
      cases h
      exact ⟨j, rfl, of_decide_eq_true hj.1, of_decide_eq_true hj.2, rfl⟩
    · cases h
  · cases h
theorem asRng2_some {t u : T} {ts : List T} (h : asRng2 t u = some ts) : ∃ i j, t = .int i ∧ u = .int j ∧ (-(2 ^ 62) ≤ i ∧ i < 2 ^ 62 ∧ -(2 ^ 62) ≤ j ∧ j < 2 ^ 62) ∧ ts = rngT i (j - i).toNat := by
  unfold asRng2 at h
  split at h
  · split at h
    · rename_i i j hj
      rw [Bool.and_eq_true, Bool.and_eq_true, Bool.and_eq_true] at hj
      cases h
      exact ⟨i, j, rfl, rfl, ⟨of_decide_eq_true hj.1.1, of_decide_eq_true hj.1.2, of_decide_eq_true hj.2.1, of_decide_eq_true hj.2.2⟩, rfl⟩
    · cases h
  · cases h
theorem asRng3_some {t u v : T} {ts : List T} (h : asRng3 t u v = some ts) : ∃ i j, t = .int i ∧ u = .int j ∧ v = .int (-1) ∧ (-(2 ^ 62) ≤ i ∧ i < 2 ^ 62 ∧ -(2 ^ 62) ≤ j ∧ j < 2 ^ 62) ∧ ts = rngD i (i - j).toNat := by
  unfold asRng3 at h
  split at h
  · split at h
    · rename_i i j c hj
      rw [Bool.and_eq_true, Bool.and_eq_true, Bool.and_eq_true, Bool.and_eq_true] at hj
      cases h
      exact ⟨i, j, rfl, rfl, by rw [of_decide_eq_true hj.2], ⟨of_decide_eq_true hj.1.1.1, of_decide_eq_true hj.1.1.2, of_decide_eq_true hj.1.2.1, of_decide_eq_true hj.1.2.2⟩, rfl⟩
    · cases h
  · cases h
theorem Rps.one {G : Hp} {t : T} {vs : List V} (h : Rps C G [t] vs) : ∃ v, vs = [v] ∧ Rp C G t v := by
  obtain ⟨x, r, rfl, h1, h2⟩ := h
  cases h2
  exact ⟨x, rfl, h1⟩
theorem Rps.two {G : Hp} {t u : T} {vs : List V} (h : Rps C G [t, u] vs) : ∃ v w, vs = [v, w] ∧ Rp C G t v ∧ Rp C G u w := by
  obtain ⟨x, r, rfl, h1, h2⟩ := h
  obtain ⟨w, rfl, h3⟩ := h2.one
  exact ⟨x, w, rfl, h1, h3⟩
theorem Rps.three {G : Hp} {t u y : T} {vs : List V} (h : Rps C G [t, u, y] vs) : ∃ v w z, vs = [v, w, z] ∧ Rp C G t v ∧ Rp C G u w ∧ Rp C G y z := by
  obtain ⟨x, r, rfl, h1, h2⟩ := h
  obtain ⟨w, z, rfl, h3, h4⟩ := h2.two
  exact ⟨x, w, z, rfl, h1, h3, h4⟩
theorem i_rng1 {p : Pos} (hg : Gl X "range") (hm : X.mg "range" = none) (ha : PA X [a] (tDA C W dA)) (h1 : ∀ e ts e1, dA e = .ok ts e1 → ts.length = 1) (hs : starEach [a] X.env = [(false, eval a X.env)] := by rfl) : PI X tg (.Call (.Name "range" p) [a] [] pos) (tDI C W (dRng dA)) := (pi_range1 hg hm ha hs).imp fun σ H R ⟨e, G, hz, h⟩ => by
  refine ⟨e, G, hz, ?_⟩
  unfold dRng at h
  cases q : dA e with
  | bad => rw [q] at h; exact h
  | ex x e1 => rw [q] at h; exact h
  | ok ts e1 =>
    have hl := h1 _ _ _ q
    rw [q] at h
    match ts, hl with
    | [t], _ =>
      have h : SatE C W _ (Res.of (asRng1 t) e1) _ := h
      intro H' G' z1 z2 vs rvs
      obtain ⟨v, rfl, rv⟩ := rvs.one
      cases q2 : asRng1 t with
      | none => rw [q2] at h; exact h.elim
      | some us =>
        rw [q2] at h
        obtain ⟨j, rfl, h2, h3, rfl⟩ := asRng1_some q2
        have rv : v = V.int _ := rv
        subst rv
        exact ⟨j, rfl, h2, h3, h H' G' z1 z2 _ jok_rng⟩
theorem i_rng2 {p : Pos} (hg : Gl X "range") (hm : X.mg "range" = none) (ha : PA X [a, b] (tDA C W dA)) (h1 : ∀ e ts e1, dA e = .ok ts e1 → ts.length = 2) (hs : starEach [a, b] X.env = [(false, eval a X.env), (false, eval b X.env)] := by rfl) (hs2 : starEach [b] X.env = [(false, eval b X.env)] := by rfl) : PI X tg (.Call (.Name "range" p) [a, b] [] pos) (tDI C W (dRng dA)) := (pi_range2 hg hm ha hs hs2).imp fun σ H R ⟨e, G, hz, h⟩ => by
  refine ⟨e, G, hz, ?_⟩
  unfold dRng at h
  cases q : dA e with
  | bad => rw [q] at h; exact h
  | ex x e1 => rw [q] at h; exact h
  | ok ts e1 =>
    have hl := h1 _ _ _ q
    rw [q] at h
    match ts, hl with
    | [t, u], _ =>
      have h : SatE C W _ (Res.of (asRng2 t u) e1) _ := h
      intro H' G' z1 z2 vs rvs
      obtain ⟨v, w, rfl, rv, rw'⟩ := rvs.two
      cases q2 : asRng2 t u with
      | none => rw [q2] at h; exact h.elim
      | some us =>
        rw [q2] at h
        obtain ⟨i, j, rfl, rfl, h3, rfl⟩ := asRng2_some q2
        have rv : v = V.int _ := rv
        subst rv
        have rw' : w = V.int _ := rw'
        subst rw'
        exact ⟨i, j, rfl, h3, h H' G' z1 z2 _ jok_rng⟩
theorem i_rng3 {p : Pos} (hg : Gl X "range") (hm : X.mg "range" = none) (ha : PA X [a, b, c] (tDA C W dA)) (h1 : ∀ e ts e1, dA e = .ok ts e1 → ts.length = 3) (hs : starEach [a, b, c] X.env = (false, eval a X.env) :: starEach [b, c] X.env := by rfl) (hpl : (backTo pos (starEach [b, c] X.env)).any (·.1) = false := by rfl) : PI X tg (.Call (.Name "range" p) [a, b, c] [] pos) (tDI C W (dRng dA)) := (pi_range3 hg hm ha hs hpl).imp fun σ H R ⟨e, G, hz, h⟩ => by
  refine ⟨e, G, hz, ?_⟩
  unfold dRng at h
  cases q : dA e with
  | bad => rw [q] at h; exact h
  | ex x e1 => rw [q] at h; exact h
  | ok ts e1 =>
    have hl := h1 _ _ _ q
    rw [q] at h
    match ts, hl with
    | [t, u, y], _ =>
      have h : SatE C W _ (Res.of (asRng3 t u y) e1) _ := h
      intro H' G' z1 z2 vs rvs
      obtain ⟨v, w, z, rfl, rv, rw', rz⟩ := rvs.three
      cases q2 : asRng3 t u y with
      | none => rw [q2] at h; exact h.elim
      | some us =>
        rw [q2] at h
        obtain ⟨i, j, rfl, rfl, rfl, ⟨k1, k2, k3, k4⟩, rfl⟩ := asRng3_some q2
        have rv : v = V.int _ := rv
        subst rv
        have rw' : w = V.int _ := rw'
        subst rw'
        have rz : z = V.int _ := rz
        subst rz
        exact ⟨i, j, -1, _, rfl, RgC.neg k1 k2 k3 k4, h H' G' z1 z2 _ jok_rngD⟩
theorem len_nil : ∀ e ts e1, dNil e = .ok ts e1 → ts.length = 0 := fun e ts e1 h => by cases h; rfl
theorem len_cons {n : Nat} (h1 : ∀ e ts e1, dA e = .ok ts e1 → ts.length = n) : ∀ e ts e1, dCons da dA e = .ok ts e1 → ts.length = n + 1 := fun e ts e1 h => by
  unfold dCons at h
  cases q : da e with
  | bad => rw [q] at h; cases h
  | ex x e2 => rw [q] at h; cases h
  | ok o e2 =>
    rw [q] at h
    have h : (dA e2).bind (fun ts e2 => Res.ok (o.t :: ts) e2) = .ok ts e1 := h
    cases q2 : dA e2 with
    | bad => rw [q2] at h; cases h
    | ex x e3 => rw [q2] at h; cases h
    | ok us e3 =>
      rw [q2] at h
      cases h
      rw [List.length_cons, h1 _ _ _ q2]
end

/-- a turn's body, then what follows a turn -/
def dLoop (b : DS) (k : DS) : DS := fun e => (b e).bind fun f e1 => match f with
  | .nx => k e1
  | .ct => k e1
  | .bk => .ok .nx e1
  | .rt o => .ok (.rt o) e1
def forL (g : DG) (b : DS) : List T → DS
  | [] => dNx
  | t :: ts => fun e => onNx (g t e) (dLoop b (forL g b ts))
def dFor (di : DI) (g : DG) (b : DS) : DS := fun e => (di e).bind fun ts e1 => forL g b ts e1
def whileL (c : DT) (b : DS) : Nat → DS
  | 0 => dBad
  | n + 1 => fun e => (c e).bind fun k e1 => if k then dLoop b (whileL c b n) e1 else .ok .nx e1
/-- a while of at most so many turns -/
def dWhile (fuel : List Slot → Nat) (c : DT) (b : DS) : DS := fun e => whileL c b (fuel e) e
section
variable {X : Cx} {C : VX} {W : WX} {a b : Expr} {tg : Expr} {di : DI} {g : DG} {db : DS} {c : DT} {body : List Stmt} {pos : Pos} {s : S} {ns : List Nat}
theorem SatS.loop {k : DS} {e : List Slot} {D : Ends} (h : SatS C W s (dLoop db k e) D) :
    SatS C W s (db e) { D with nx := fun σ' H' => ∃ e' G', Sees C ⟨e', σ', H', G'⟩ ∧ Ext s ⟨e', σ', H', G'⟩ ∧ SatS C W s (k e') D, ct := fun σ' H' => ∃ e' G', Sees C ⟨e', σ', H', G'⟩ ∧ Ext s ⟨e', σ', H', G'⟩ ∧ SatS C W s (k e') D, bk := D.nx } := by
  unfold dLoop at h
  cases q : db e with
  | bad => rw [q] at h; exact h
  | ex x e1 => rw [q] at h; exact h
  | ok f e1 =>
    rw [q] at h
    intro σ' H' G' z1 z2
    cases f with
    | nx => exact ⟨e1, G', z1, z2, h⟩
    | ct => exact ⟨e1, G', z1, z2, h⟩
    | bk => exact h σ' H' G' z1 z2
    | rt o => exact h σ' H' G' z1 z2
theorem s_for (hp : PassesOwn (model X.prog X.w) X.A X.env X.xe) (hc : X.calm = true) (hi : PI X tg a (tDI C W di)) (hg : PG X tg (tDG C W ns g)) (hb : PSs X body (tDS C W db)) (hs : ∀ x, foldedSetIterable a X.env x = pure x := by intro _; rfl) : PS X (.For tg a body [] pos) (tDS C W (dFor di g db)) := (ps_for hp hc hi hg hb hs).imp fun D σ H ⟨e, G, hz, h⟩ => by
  refine ⟨e, G, hz, (SatS.bind h).mono fun ts s1 hs1 x1 e1 h1 J hJ => ?_⟩
  have hσ : s1.σ = σ := e1
  subst hσ
  refine ⟨fun i m σ' H' => i + m = ts.length ∧ ∃ e' G', Sees C ⟨e', σ', H', G'⟩ ∧ (∀ a o, s1.G a = some o → G' a = some o) ∧ SatS C W ⟨e', σ', H', G'⟩ (forL g db (ts.drop i) e') D, ⟨ts.length, by omega, s1.e, s1.G, hs1, fun _ _ z => z, h1⟩, ?_⟩
  rintro i m σ' H' ⟨hm, e', G', z1, z2, z3⟩
  cases q : ts[i]? with
  | none =>
    have hi : ts.length ≤ i := List.getElem?_eq_none_iff.mp q
    refine .inl ⟨hJ.stop H' G' z2 z1.sub i hi (by omega), ?_⟩
    rw [List.drop_eq_nil_of_le hi] at z3
    exact z3 _ _ _ z1 (Ext.refl _)
  | some t =>
    obtain ⟨hi, hi2⟩ := List.getElem?_eq_some_iff.mp q
    obtain ⟨j1, j2⟩ := hJ.go H' G' z2 z1.sub i t q
    rw [List.drop_eq_getElem_cons hi, hi2] at z3
    refine .inr ⟨j1, fun σ2 H2 => ∃ e2 G2, Sees C ⟨e2, σ2, H2, G2⟩ ∧ (∀ a o, s1.G a = some o → G2 a = some o) ∧ SatS C W ⟨e2, σ2, H2, G2⟩ (forL g db (ts.drop (i + 1)) e2) D, fun σ2 H2 hN => ⟨m - 1, by omega, by omega, hN⟩, fun x H2 hy => ?_⟩
    obtain ⟨G2, k1, k2, k3, k4, r⟩ := j2 x H2 hy
    obtain ⟨y1, y2⟩ := z1.grow k1 k2 k3 k4
    refine ⟨e', G2, t, y1, r, (SatS.onNx (z3.rebase y2)).mono fun σ3 H3 _ ⟨e3, G3, w1, w2, w3⟩ => ?_⟩
    refine ⟨e3, G3, w1, ((SatS.loop w3).rebase w2).mono ?_ (fun _ _ z => z) (fun _ _ z => z) ?_⟩
    · exact fun σ4 H4 ⟨e4, G4, u1, u2, u3⟩ => ⟨e4, G4, u1, fun a o z => u2.g a o (k2 a o (z2 a o z)), u3.rebase u2⟩
    · exact fun σ4 H4 ⟨e4, G4, u1, u2, u3⟩ => ⟨e4, G4, u1, fun a o z => u2.g a o (k2 a o (z2 a o z)), u3.rebase u2⟩
theorem s_while (fuel : List Slot → Nat) (hp : PassesOwn (model X.prog X.w) X.A X.env X.xe) (hc : PT X a (tDT C W c)) (hb : PSs X body (tDS C W db)) : PS X (.While a body [] pos) (tDS C W (dWhile fuel c db)) := (ps_while hp hc hb).imp fun D σ H ⟨e, G, hz, h⟩ => by
  refine ⟨fun m σ' H' => ∃ e' G', Sees C ⟨e', σ', H', G'⟩ ∧ SatS C W ⟨e', σ', H', G'⟩ (whileL c db m e') D, ⟨fuel e, e, G, hz, h⟩, ?_⟩
  rintro m σ' H' ⟨e', G', z1, z3⟩
  cases m with
  | zero => exact z3.elim
  | succ n =>
    have z3 : SatS C W ⟨e', σ', H', G'⟩ ((c e').bind fun k e1 => if k then dLoop db (whileL c db n) e1 else .ok .nx e1) D := z3
    refine tDT_I z1 ((SatS.bind z3).mono fun k s1 hs1 x1 e1 h1 => ?_)
    have hσ : s1.σ = σ' := e1
    subst hσ
    cases k with
    | true =>
      refine iteT ⟨fun σ2 H2 => ∃ e2 G2, Sees C ⟨e2, σ2, H2, G2⟩ ∧ Ext s1 ⟨e2, σ2, H2, G2⟩ ∧ SatS C W s1 (whileL c db n e2) D, ?_, ?_⟩
      · rintro σ2 H2 ⟨e2, G2, w1, w2, w3⟩
        exact ⟨n, Nat.lt_succ_self n, e2, G2, w1, w3.rebase w2⟩
      · exact ⟨s1.e, s1.G, hs1, SatS.loop h1⟩
    | false => exact iteF (h1 _ _ _ hs1 (Ext.refl _))
end
end L2.VD

namespace L2.VD
open PySem PySem.Spec PyProof.Rows

/-- the wish where nothing is raised -/
abbrev W0 : WX := fun _ _ _ _ => False
def wipeE (e : List Slot) : List Nat → List Slot
  | [] => e
  | v :: vs => (wipeE e vs).set v .un
/-- the slots at vs as they were -/
def backE (e0 : List Slot) (e : List Slot) : List Nat → List Slot
  | [] => e
  | v :: vs => match e0[v]? with
    | some s => (backE e0 e vs).set v s
    | none => backE e0 e vs
theorem wipe_get (σ : St) : ∀ (vs : List Nat) (j : Nat), (wipe σ vs)[j]? = if j ∈ vs then σ[j]?.map fun _ => none else σ[j]?
  | [], j => by simp [wipe]
  | v :: vs, j => by
    show ((wipe σ vs).set v none)[j]? = _
    by_cases e : j = v
    · subst e
      rw [List.getElem?_set_self', wipe_get σ vs j]
      by_cases h : j ∈ vs
      · rw [if_pos h, if_pos (List.mem_cons_self ..)]
        cases σ[j]? <;> rfl
      · rw [if_neg h, if_pos (List.mem_cons_self ..)]
        cases σ[j]? <;> rfl
    · rw [List.getElem?_set_ne (Ne.symm e), wipe_get σ vs j]
      by_cases h : j ∈ vs
      · rw [if_pos h, if_pos (List.mem_cons_of_mem _ h)]
      · rw [if_neg h, if_neg (by rw [List.mem_cons]; rintro (q | q); exact e q; exact h q)]
theorem wipeE_get (e : List Slot) : ∀ (vs : List Nat) (j : Nat), (wipeE e vs)[j]? = if j ∈ vs then e[j]?.map fun _ => Slot.un else e[j]?
  | [], j => by simp [wipeE]
  | v :: vs, j => by
    show ((wipeE e vs).set v .un)[j]? = _
    by_cases q : j = v
    · subst q
      rw [List.getElem?_set_self', wipeE_get e vs j]
      by_cases h : j ∈ vs
      · rw [if_pos h, if_pos (List.mem_cons_self ..)]
        cases e[j]? <;> rfl
      · rw [if_neg h, if_pos (List.mem_cons_self ..)]
        cases e[j]? <;> rfl
    · rw [List.getElem?_set_ne (Ne.symm q), wipeE_get e vs j]
      by_cases h : j ∈ vs
      · rw [if_pos h, if_pos (List.mem_cons_of_mem _ h)]
      · rw [if_neg h, if_neg (by rw [List.mem_cons]; rintro (q' | q'); exact q q'; exact h q')]
theorem backE_len (e0 e : List Slot) : ∀ vs : List Nat, (backE e0 e vs).length = e.length
  | [] => rfl
  | v :: vs => by
    unfold backE
    split
    · rw [List.length_set]; exact backE_len e0 e vs
    · exact backE_len e0 e vs
theorem backE_get {e0 e : List Slot} (hl : e.length = e0.length) : ∀ (vs : List Nat) (j : Nat), (backE e0 e vs)[j]? = if j ∈ vs then e0[j]? else e[j]?
  | [], j => by simp [backE]
  | v :: vs, j => by
    unfold backE
    cases q : e0[v]? with
    | none =>
      dsimp only
      rw [backE_get hl vs j]
      by_cases e : j = v
      · subst e
        have hv : e0.length ≤ j := List.getElem?_eq_none_iff.mp q
        have hv' : e[j]? = none := List.getElem?_eq_none_iff.mpr (by omega)
        rw [if_pos (List.mem_cons_self ..), q, hv']
        simp
      · by_cases h : j ∈ vs
        · rw [if_pos h, if_pos (List.mem_cons_of_mem _ h)]
        · rw [if_neg h, if_neg (by rw [List.mem_cons]; rintro (q' | q'); exact e q'; exact h q')]
    | some s =>
      dsimp only
      by_cases e' : j = v
      · subst e'
        have hv : j < e0.length := (List.getElem?_eq_some_iff.mp q).1
        rw [List.getElem?_set_self (by rw [backE_len]; omega), if_pos (List.mem_cons_self ..), q]
      · rw [List.getElem?_set_ne (Ne.symm e'), backE_get hl vs j]
        by_cases h : j ∈ vs
        · rw [if_pos h, if_pos (List.mem_cons_of_mem _ h)]
        · rw [if_neg h, if_neg (by rw [List.mem_cons]; rintro (q' | q'); exact e' q'; exact h q')]
theorem wipe_stay {vs : List Nat} {σ σ' : St} (h : Stay vs (wipe σ vs) σ') : wipe σ' vs = wipe σ vs := by
  apply List.ext_getElem?
  intro j
  rw [wipe_get, wipe_get]
  have hl : σ'.length = σ.length := h.1.trans (wipe_length σ vs)
  by_cases hj : j ∈ vs
  · rw [if_pos hj, if_pos hj]
    by_cases hlt : j < σ.length
    · rw [List.getElem?_eq_getElem hlt, List.getElem?_eq_getElem (by omega)]
      rfl
    · rw [List.getElem?_eq_none_iff.mpr (by omega), List.getElem?_eq_none_iff.mpr (by omega)]
  · rw [if_neg hj, if_neg hj]
    have := h.2 j hj
    rw [wipe_get, if_neg hj] at this
    exact this

section
variable {C : VX} {s s' : S}
/-- a tracked thing that no slot owns stays -/
structure By (s : S) (D : Addr) (o : HO) : Prop where
  at_ : s.H D = some o
  g : s.G D = none
  no : ∀ j, ¬ Owns s j D
theorem By.ext {D : Addr} {o : HO} (b : By s D o) (x : Ext s s') : By s' D o := by
  refine ⟨x.keep D o b.at_ b.no, ?_, fun j hj => ?_⟩
  · cases e : s'.G D with
    | none => rfl
    | some u =>
      rcases x.gnew D (by rw [e]; exact fun z => nomatch z) with z | z | ⟨j, z⟩
      · exact absurd b.g z
      · rw [b.at_] at z; cases z
      · exact absurd z (b.no j)
  · rcases x.own j D hj with z | ⟨k, z⟩
    · rw [b.at_] at z; cases z
    · exact b.no k z
/-- .. and may change -/
theorem Sees.other (hs : Sees C s) {D : Addr} {o o' : HO} (b : By s D o) : Sees C ⟨s.e, s.σ, upd s.H D o', s.G⟩ ∧ By ⟨s.e, s.σ, upd s.H D o', s.G⟩ D o' ∧ ∀ {s0 : S}, s0.H D = none → Ext s0 s → Ext s0 ⟨s.e, s.σ, upd s.H D o', s.G⟩ := by
  have k : ∀ j a u, Owns s j a → s.H a = some u → upd s.H D o' a = some u := fun j a u hO hu => by
    rw [upd_ne fun e => b.no j (by rw [← e]; exact hO)]
    exact hu
  have back : ∀ j a, Owns ⟨s.e, s.σ, upd s.H D o', s.G⟩ j a → Owns s j a := by
    rintro j a ⟨sl, v, h1, h2, h3⟩
    have h4 := hs.at_ j sl h1
    rw [show s.σ[j]? = some (some v) from h2] at h4
    refine ⟨sl, v, h1, h2, ownsV_back h4 (fun c u hc hu => k j c u ⟨sl, v, h1, h2, ?_⟩ hu) h3⟩
    cases sl with
    | un => exact h3.elim
    | sh t => exact h3.elim
    | ol p ts => exact hc
    | oi c' ts => exact hc
    | oll tss => exact .inl hc
  refine ⟨⟨fun a u hu => ?_, hs.len, fun j sl h1 => ?_, fun j a h => hs.own j a (back j a h), fun i j a h1 h2 => hs.inj i j a (back i a h1) (back j a h2)⟩, ⟨upd_same, b.g, fun j hj => b.no j (back j D hj)⟩, fun {s0} h0 x => ⟨x.g, fun a u hu hn => ?_, x.gnew, fun j a h => x.own j a (back j a h), x.pin⟩⟩
  · show upd s.H D o' a = some u
    rw [upd_ne fun e => by have hu' : s.G a = some u := hu; rw [e, b.g] at hu'; cases hu']
    exact hs.sub a u hu
  · have h4 := hs.at_ j sl h1
    show SlotOk C s.G (upd s.H D o') s.σ[j]? sl
    cases sl with
    | un => trivial
    | sh t => exact h4
    | ol p ts =>
      obtain ⟨a, xs, e, h5, h6⟩ := h4
      exact ⟨a, xs, e, k j a _ ⟨_, _, h1, e, rfl⟩ h5, h6⟩
    | oi c ts =>
      obtain ⟨a, dx, xs, e, h5, h6, h7⟩ := h4
      exact ⟨a, dx, xs, e, k j a _ ⟨_, _, h1, e, rfl⟩ h5, h6, h7⟩
    | oll tss =>
      obtain ⟨a, xs, e, h5, h6, h7, h8⟩ := h4
      exact ⟨a, xs, e, k j a _ ⟨_, _, h1, e, .inl rfl⟩ h5, h6, h7, h8.mono (fun c u hc hu => k j c u ⟨_, _, h1, e, .inr ⟨a, xs, rfl, h5, hc⟩⟩ hu) fun _ _ z => z⟩
  · show upd s.H D o' a = some u
    rw [upd_ne fun e => by rw [e, h0] at hu; cases hu]
    exact x.keep a u hu hn
/-- some slots are forgotten -/
theorem Sees.wipe (hs : Sees C s) (vs : List Nat) : Sees C ⟨wipeE s.e vs, L2.wipe s.σ vs, s.H, s.G⟩ ∧ ∀ j a, Owns ⟨wipeE s.e vs, L2.wipe s.σ vs, s.H, s.G⟩ j a → j ∉ vs ∧ Owns s j a := by
  have back : ∀ j a, Owns ⟨wipeE s.e vs, L2.wipe s.σ vs, s.H, s.G⟩ j a → j ∉ vs ∧ Owns s j a := by
    rintro j a ⟨sl, v, h1, h2, h3⟩
    have h1 : (wipeE s.e vs)[j]? = some sl := h1
    have h2 : (L2.wipe s.σ vs)[j]? = some (some v) := h2
    rw [wipeE_get] at h1
    rw [wipe_get] at h2
    by_cases hj : j ∈ vs
    · rw [if_pos hj] at h2
      cases q : s.σ[j]? <;> rw [q] at h2 <;> cases h2
    · rw [if_neg hj] at h1 h2
      exact ⟨hj, sl, v, h1, h2, h3⟩
  refine ⟨⟨hs.sub, ?_, fun j sl h1 => ?_, fun j a h => hs.own j a (back j a h).2, fun i j a h1 h2 => hs.inj i j a (back i a h1).2 (back j a h2).2⟩, back⟩
  · show (wipeE s.e vs).length = (L2.wipe s.σ vs).length
    rw [wipe_length]
    have : ∀ vs, (wipeE s.e vs).length = s.e.length := fun vs => by
      induction vs with
      | nil => rfl
      | cons v vs ih => show ((wipeE s.e vs).set v .un).length = _; rw [List.length_set]; exact ih
    rw [this]
    exact hs.len
  · have h1 : (wipeE s.e vs)[j]? = some sl := h1
    show SlotOk C s.G s.H (L2.wipe s.σ vs)[j]? sl
    rw [wipeE_get] at h1
    rw [wipe_get]
    by_cases hj : j ∈ vs
    · rw [if_pos hj] at h1
      cases q : s.e[j]? with
      | none => rw [q] at h1; cases h1
      | some s0 => rw [q] at h1; cases h1; trivial
    · rw [if_neg hj] at h1 ⊢
      exact hs.at_ j sl h1
/-- behind a block: the forgotten slots are as they were -/
theorem Sees.back (h1 : Sees C s) {vs : List Nat} {e2 : List Slot} {H2 G2 : Hp} (h2 : Sees C ⟨e2, L2.wipe s.σ vs, H2, G2⟩) (x : Ext ⟨wipeE s.e vs, L2.wipe s.σ vs, s.H, s.G⟩ ⟨e2, L2.wipe s.σ vs, H2, G2⟩) :
    Sees C ⟨backE s.e e2 vs, s.σ, H2, G2⟩ ∧ Ext s ⟨backE s.e e2 vs, s.σ, H2, G2⟩ ∧ ∀ j a, Owns ⟨backE s.e e2 vs, s.σ, H2, G2⟩ j a → (j ∈ vs ∧ Owns s j a) ∨ (j ∉ vs ∧ Owns ⟨e2, L2.wipe s.σ vs, H2, G2⟩ j a) := by
  obtain ⟨w1, w2⟩ := h1.wipe vs
  have hl : e2.length = s.e.length := by
    have a : e2.length = (L2.wipe s.σ vs).length := h2.len
    rw [a, wipe_length, h1.len]
  have kp : ∀ j a u, j ∈ vs → Owns s j a → s.H a = some u → H2 a = some u ∧ G2 a = none := by
    intro j a u hj hO hu
    have hn : ∀ i, ¬ Owns ⟨wipeE s.e vs, L2.wipe s.σ vs, s.H, s.G⟩ i a := fun i hi => by
      obtain ⟨q1, q2⟩ := w2 i a hi
      exact q1 (by rw [h1.inj i j a q2 hO]; exact hj)
    have b : By ⟨wipeE s.e vs, L2.wipe s.σ vs, s.H, s.G⟩ a u := ⟨hu, h1.own j a hO, hn⟩
    have b2 := b.ext x
    exact ⟨b2.at_, b2.g⟩
  have get : ∀ j sl, (backE s.e e2 vs)[j]? = some sl → (j ∈ vs ∧ s.e[j]? = some sl) ∨ (j ∉ vs ∧ e2[j]? = some sl) := by
    intro j sl h
    rw [backE_get hl] at h
    by_cases hj : j ∈ vs
    · rw [if_pos hj] at h; exact .inl ⟨hj, h⟩
    · rw [if_neg hj] at h; exact .inr ⟨hj, h⟩
  have back : ∀ j a, Owns ⟨backE s.e e2 vs, s.σ, H2, G2⟩ j a → (j ∈ vs ∧ Owns s j a) ∨ (j ∉ vs ∧ Owns ⟨e2, L2.wipe s.σ vs, H2, G2⟩ j a) := by
    rintro j a ⟨sl, v, q1, q2, q3⟩
    rcases get j sl q1 with ⟨hj, q1⟩ | ⟨hj, q1⟩
    · refine .inl ⟨hj, sl, v, q1, q2, ?_⟩
      have q4 := h1.at_ j sl q1
      rw [show s.σ[j]? = some (some v) from q2] at q4
      refine ownsV_back q4 (fun c u hc hu => (kp j c u hj ⟨sl, v, q1, q2, ?_⟩ hu).1) q3
      cases sl with
      | un => exact q3.elim
      | sh t => exact q3.elim
      | ol p ts => exact hc
      | oi c' ts => exact hc
      | oll tss => exact .inl hc
    · refine .inr ⟨hj, sl, v, q1, ?_, q3⟩
      show (L2.wipe s.σ vs)[j]? = _
      rw [wipe_get, if_neg hj]
      exact q2
  refine ⟨⟨h2.sub, ?_, fun j sl q1 => ?_, fun j a h => ?_, fun i j a q1 q2 => ?_⟩, ⟨x.g, fun a u hu hn => x.keep a u hu fun i hi => hn i (w2 i a hi).2, fun a ha => ?_, fun j a h => ?_, fun j ts h => ⟨rfl, ?_⟩⟩, back⟩
  · show (backE s.e e2 vs).length = s.σ.length
    rw [backE_len, hl, h1.len]
  · show SlotOk C G2 H2 s.σ[j]? sl
    rcases get j sl q1 with ⟨hj, q1⟩ | ⟨hj, q1⟩
    · have q4 := h1.at_ j sl q1
      cases sl with
      | un => trivial
      | sh t =>
        obtain ⟨v, e, r⟩ := q4
        exact ⟨v, e, r.mono x.g⟩
      | ol p ts =>
        obtain ⟨a, xs, e, h5, h6⟩ := q4
        exact ⟨a, xs, e, (kp j a _ hj ⟨_, _, q1, e, rfl⟩ h5).1, h6.mono x.g⟩
      | oi c ts =>
        obtain ⟨a, dx, xs, e, h5, h6, h7⟩ := q4
        exact ⟨a, dx, xs, e, (kp j a _ hj ⟨_, _, q1, e, rfl⟩ h5).1, h6, h7.mono x.g⟩
      | oll tss =>
        obtain ⟨a, xs, e, h5, h6, h7, h8⟩ := q4
        exact ⟨a, xs, e, (kp j a _ hj ⟨_, _, q1, e, .inl rfl⟩ h5).1, h6, h7, h8.mono (fun c u hc hu => (kp j c u hj ⟨_, _, q1, e, .inr ⟨a, xs, rfl, h5, hc⟩⟩ hu).1) x.g⟩
    · have q4 := h2.at_ j sl q1
      have q4 : SlotOk C G2 H2 (L2.wipe s.σ vs)[j]? sl := q4
      rw [wipe_get, if_neg hj] at q4
      exact q4
  · rcases back j a h with ⟨hj, q⟩ | ⟨hj, q⟩
    · obtain ⟨u, hu⟩ := q.here h1
      exact (kp j a u hj q hu).2
    · exact h2.own j a q
  · have cross : ∀ i j, i ∈ vs → Owns s i a → j ∉ vs → Owns ⟨e2, L2.wipe s.σ vs, H2, G2⟩ j a → False := by
      intro i j hi q hj q'
      obtain ⟨u, hu⟩ := q.here h1
      rcases x.own j a q' with z | ⟨k, z⟩
      · rw [show s.H a = some u from hu] at z; cases z
      · obtain ⟨z1, z2⟩ := w2 k a z
        exact z1 (by rw [h1.inj k i a z2 q]; exact hi)
    rcases back i a q1 with ⟨hi, p1⟩ | ⟨hi, p1⟩
    · rcases back j a q2 with ⟨hj, p2⟩ | ⟨hj, p2⟩
      · exact h1.inj i j a p1 p2
      · exact (cross i j hi p1 hj p2).elim
    · rcases back j a q2 with ⟨hj, p2⟩ | ⟨hj, p2⟩
      · exact (cross j i hj p2 hi p1).elim
      · exact h2.inj i j a p1 p2
  · rcases x.gnew a ha with z | z | ⟨j, z⟩
    · exact .inl z
    · exact .inr (.inl z)
    · exact .inr (.inr ⟨j, (w2 j a z).2⟩)
  · rcases back j a h with ⟨hj, q⟩ | ⟨hj, q⟩
    · exact .inr ⟨j, q⟩
    · rcases x.own j a q with z | ⟨k, z⟩
      · exact .inl z
      · exact .inr ⟨k, (w2 k a z).2⟩
  · show ((backE s.e e2 vs)[j]?).bind Slot.pk = _
    rw [backE_get hl]
    by_cases hj : j ∈ vs
    · rw [if_pos hj]; exact h
    · rw [if_neg hj]
      exact (x.pin j _ (show ((wipeE s.e vs)[j]?).bind Slot.pk = _ by rw [wipeE_get, if_neg hj]; exact h)).2
end

/-- the items made so far come first -/
def lcL (g : DG) (tt : DT) (de : DE) (vs : List Nat) : List T → List T → List Slot → Option (List T × List Slot)
  | [], acc, e => some (acc, e)
  | t :: ts, acc, e => match g t e with
    | .ok .nx e1 => match tt e1 with
      | .ok true e2 => match de e2 with
        | .ok o e3 => if fits (acc.length + 1) then lcL g tt de vs ts (acc ++ [o.t]) (wipeE e3 vs) else none
        | _ => none
      | .ok false e2 => lcL g tt de vs ts acc (wipeE e2 vs)
      | _ => none
    | _ => none
def endLc (e1 : List Slot) (vs : List Nat) (r : Option (List T × List Slot)) : Res Out := match r with
  | some (us, e2) => .ok (.fr us) (backE e1 e2 vs)
  | none => .bad
def dLc (di : DI) (g : DG) (tt : DT) (de : DE) (vs : List Nat) : DE := fun e => (di e).bind fun ts e1 => endLc e1 vs (lcL g tt de vs ts [] (wipeE e1 vs))
def dYes : DT := fun e => .ok true e
section
variable {X : Cx} {C : VX} {W : WX}
theorem ts_nil : PTs X [] (tDT C W dYes) := ⟨fun pins s σ H Q I ⟨e, G, hs, h⟩ => pts_nil.run pins s σ H Q I (h H G hs (Ext.refl _))⟩
theorem ts_one {c : Expr} {d : DT} (h : PT X c (tDT C W d)) : PTs X [c] (tDT C W d) := pts_one h
theorem fits_lt {n : Nat} (h : fits (n + 1) = true) : n < sizeLine := fits_le h
theorem tLc_of {di : DI} {g : DG} {tt : DT} {de : DE} {vs : List Nat} {σ : St} {H : Hp} {Q : VK} (h : tD C W (dLc di g tt de vs) σ H Q) : tLc (tDI C W di) (tDG C W0 vs g) (tDT C W0 tt) (tD C W0 de) vs σ H Q := by
  obtain ⟨e, G, hs, h⟩ := h
  refine ⟨e, G, hs, (SatE.bind h).mono fun ts s1 hs1 x1 e1 h1 J hJ => ?_⟩
  have hσ : s1.σ = σ := e1
  subst hσ
  intro D hD
  obtain ⟨w1, w2⟩ := hs1.wipe vs
  obtain ⟨n1, n2⟩ := w1.newH hD (.lst [])
  have b0 : By ⟨wipeE s1.e vs, wipe s1.σ vs, upd s1.H D (.lst []), s1.G⟩ D (.lst []) := ⟨upd_same, hs1.gnone hD, (w1.fresh hD _).no⟩
  refine ⟨fun i m H' => i + m = ts.length ∧ ∃ e' G' acc us, Sees C ⟨e', wipe s1.σ vs, H', G'⟩ ∧ Ext ⟨wipeE s1.e vs, wipe s1.σ vs, s1.H, s1.G⟩ ⟨e', wipe s1.σ vs, H', G'⟩ ∧ By ⟨e', wipe s1.σ vs, H', G'⟩ D (.lst acc) ∧ Rps C G' us acc ∧
      SatE C W s1 (endLc s1.e vs (lcL g tt de vs (ts.drop i) us e')) (fun o s' => ∀ v, OutOk C ⟨e, s1.σ, H, G⟩ s' v o → Q v s'.H),
    ⟨ts.length, by omega, wipeE s1.e vs, s1.G, [], [], n1, n2, b0, rfl, h1⟩, ?_⟩
  rintro i m H' ⟨hm, e', G', acc, us, z1, z2, z3, z4, z5⟩
  cases q : ts[i]? with
  | none =>
    have hi : ts.length ≤ i := List.getElem?_eq_none_iff.mp q
    refine .inl ⟨hJ.stop H' G' z2.g z1.sub i hi (by omega), ?_⟩
    rw [List.drop_eq_nil_of_le hi] at z5
    have z5 : SatE C W s1 (Res.ok (Out.fr us) (backE s1.e e' vs)) _ := z5
    obtain ⟨f1, f2, f3⟩ := hs1.back z1 z2
    refine z5 H' G' f1 f2 (.ref D) ⟨D, acc, rfl, z3.at_, Fresh.base x1 ⟨z3.g, fun j hj => ?_, .inl hD⟩, z4⟩
    rcases f3 j D hj with ⟨_, q1⟩ | ⟨_, q1⟩
    · obtain ⟨u, hu⟩ := q1.here hs1
      rw [hD] at hu; cases hu
    · exact z3.no j q1
  | some t =>
    obtain ⟨hi, hi2⟩ := List.getElem?_eq_some_iff.mp q
    obtain ⟨j1, j2⟩ := hJ.go H' G' z2.g z1.sub i t q
    rw [List.drop_eq_getElem_cons hi, hi2] at z5
    refine .inr ⟨j1, fun H2 => ∃ e' G' acc us, Sees C ⟨e', wipe s1.σ vs, H2, G'⟩ ∧ Ext ⟨wipeE s1.e vs, wipe s1.σ vs, s1.H, s1.G⟩ ⟨e', wipe s1.σ vs, H2, G'⟩ ∧ By ⟨e', wipe s1.σ vs, H2, G'⟩ D (.lst acc) ∧ Rps C G' us acc ∧
      SatE C W s1 (endLc s1.e vs (lcL g tt de vs (ts.drop (i + 1)) us e')) (fun o s' => ∀ v, OutOk C ⟨e, s1.σ, H, G⟩ s' v o → Q v s'.H), fun H2 hN => ⟨m - 1, by omega, by omega, hN⟩, fun x H2 hy => ?_⟩
    obtain ⟨G2, k1, k2, k3, k4, r⟩ := j2 x H2 hy
    obtain ⟨y1, y2⟩ := z1.grow k1 k2 k3 k4
    have b2 := z3.ext y2
    unfold lcL at z5
    refine ⟨e', G2, t, y1, r, ?_⟩
    -- the wiped state behind a turn
    have fin : ∀ (e3 : List Slot) (σ3 : St) (H3 G3 : Hp), Sees C ⟨e3, σ3, H3, G3⟩ → Ext ⟨e', wipe s1.σ vs, H2, G2⟩ ⟨e3, σ3, H3, G3⟩ → wipe σ3 vs = wipe s1.σ vs → Sees C ⟨wipeE e3 vs, wipe s1.σ vs, H3, G3⟩ ∧ Ext ⟨wipeE s1.e vs, wipe s1.σ vs, s1.H, s1.G⟩ ⟨wipeE e3 vs, wipe s1.σ vs, H3, G3⟩ ∧ By ⟨wipeE e3 vs, wipe s1.σ vs, H3, G3⟩ D (.lst acc) := by
      intro e3 σ3 H3 G3 a1 a2 a3
      obtain ⟨v1, v2⟩ := a1.wipe vs
      have v1 : Sees C ⟨wipeE e3 vs, wipe σ3 vs, H3, G3⟩ := v1
      rw [a3] at v1
      have a4 := (z2.trans y2).trans a2
      have v2 : ∀ j a, Owns ⟨wipeE e3 vs, wipe s1.σ vs, H3, G3⟩ j a → j ∉ vs ∧ Owns ⟨e3, σ3, H3, G3⟩ j a := by
        rw [← a3]; exact v2
      have b3 := b2.ext a2
      refine ⟨v1, ⟨a4.g, a4.keep, a4.gnew, fun j a hj => a4.own j a (v2 j a hj).2, fun j ts' hj => ⟨rfl, ?_⟩⟩, ⟨b3.at_, b3.g, fun j hj => b3.no j (v2 j D hj).2⟩⟩
      obtain ⟨_, p2⟩ := a4.pin j ts' hj
      have hjv : j ∉ vs := fun hjv => by
        have hj : ((wipeE s1.e vs)[j]?).bind Slot.pk = some ts' := hj
        rw [wipeE_get, if_pos hjv] at hj
        cases q' : s1.e[j]? <;> rw [q'] at hj <;> exact nomatch hj
      show ((wipeE e3 vs)[j]?).bind Slot.pk = _
      rw [wipeE_get, if_neg hjv]; exact p2
    cases qg : g t e' with
    | bad => rw [qg] at z5; exact z5
    | ex x' e3 => rw [qg] at z5; exact z5.elim
    | ok f e3 =>
      rw [qg] at z5
      cases f with
      | bk => exact z5.elim
      | ct => exact z5.elim
      | rt o => exact z5.elim
      | nx =>
        intro σ3 H3 G3 u1 u2 u3
        refine ⟨wipe_stay u3, e3, G3, u1, ?_⟩
        cases qt : tt e3 with
        | bad => simp only [qt] at z5; exact z5
        | ex x' e4 => simp only [qt] at z5; exact z5.elim
        | ok b e4 =>
          simp only [qt] at z5
          intro H4 G4 u4 u5
          cases b with
          | false =>
            refine iteF ?_
            obtain ⟨f1, f2, f3⟩ := fin e4 σ3 H4 G4 u4 (u2.trans u5) (wipe_stay u3)
            exact ⟨wipeE e4 vs, G4, acc, us, f1, f2, f3, z4.mono fun a o z => u5.g a o (u2.g a o (k2 a o z)), z5⟩
          | true =>
            refine iteT (tD_T u4 ?_)
            cases qd : de e4 with
            | bad => simp only [qd] at z5; exact z5
            | ex x' e5 => simp only [qd] at z5; exact z5.elim
            | ok o e5 =>
              simp only [qd] at z5
              intro H5 G5 u6 u7 y ry
              by_cases hz : fits (us.length + 1) = true
              · rw [if_pos hz] at z5
                obtain ⟨f1, f2, f3⟩ := fin e5 σ3 H5 G5 u6 (u2.trans (u5.trans u7)) (wipe_stay u3)
                have z4' : Rps C G5 us acc := z4.mono fun a o z => u7.g a o (u5.g a o (u2.g a o (k2 a o z)))
                refine ⟨acc, f3.at_, by rw [z4'.length]; exact fits_lt hz, ?_⟩
                obtain ⟨o1, o2, o3⟩ := f1.other (o' := .lst (acc ++ [y])) f3
                exact ⟨wipeE e5 vs, G5, acc ++ [y], us ++ [o.t], o1, o3 hD f2, o2, z4'.append (.cons ry rfl), z5⟩
              · rw [if_neg hz] at z5
                exact z5.elim
theorem e_lc {elt tg iter : Expr} {ifs : List Expr} {scope : Scope} {own : List (Str × Nat)} {pos : Pos} {di : DI} {g : DG} {tt : DT} {de : DE} (hc : X.calm = true) (hN : X.N.Nodup) (ok : BlkOk X.N X.env.scope scope own) (hi : PI X tg iter (tDI C W di))
    (hg : ∀ (s : Shared) (H : Hp) (A : Addr) (cl : List (Str × Addr)) (fp : List Addr), PG (X.blk s H scope (compEnvC scope cl A X.env) fp) tg (tDG C W0 (own.map (·.2)) g))
    (ht : ∀ (s : Shared) (H : Hp) (A : Addr) (cl : List (Str × Addr)) (fp : List Addr), PTs (X.blk s H scope (compEnvC scope cl A X.env) fp) ifs (tDT C W0 tt))
    (he : ∀ (s : Shared) (H : Hp) (A : Addr) (cl : List (Str × Addr)) (fp : List Addr), PE (X.blk s H scope (compEnvC scope cl A X.env) fp) elt (tD C W0 de))
    (hs : ∀ x, foldedSetIterable iter X.env x = pure x := by intro _; rfl) : PE X (.ListComp elt [⟨tg, iter, ifs, 0⟩] scope pos) (tD C W (dLc di g tt de (own.map (·.2)))) := (pe_lc hc hN hi ok hg ht he hs).imp fun _ _ _ h => tLc_of h
theorem s_setLc (i : Nat) {y : Str} {py : Pos} {elt tg iter : Expr} {ifs : List Expr} {scope : Scope} {own : List (Str × Nat)} {pos spos : Pos} {di : DI} {g : DG} {tt : DT} {de : DE} (hc : X.calm = true) (hN : X.N.Nodup) (hsw : swapsWith (.ListComp elt [⟨tg, iter, ifs, 0⟩] scope pos) (some (.Name y py)) spos.line X.env = pure true)
    (ok : BlkOk X.N X.env.scope scope own) (hi : PI X tg iter (tDI C W di))
    (hg : ∀ (s : Shared) (H : Hp) (A : Addr) (cl : List (Str × Addr)) (fp : List Addr), PG (X.blk s H scope (compEnvC scope cl A X.env) fp) tg (tDG C W0 (own.map (·.2)) g))
    (ht : ∀ (s : Shared) (H : Hp) (A : Addr) (cl : List (Str × Addr)) (fp : List Addr), PTs (X.blk s H scope (compEnvC scope cl A X.env) fp) ifs (tDT C W0 tt))
    (he : ∀ (s : Shared) (H : Hp) (A : Addr) (cl : List (Str × Addr)) (fp : List Addr), PE (X.blk s H scope (compEnvC scope cl A X.env) fp) elt (tD C W0 de))
    (hs : ∀ x, foldedSetIterable iter X.env x = pure x := by intro _; rfl) (hy : X.N[i]? = some y := by rfl) (hyl : X.env.scope.names.lookup y = some .local := by rfl) : PS X (.Assign [.Name y py] (.ListComp elt [⟨tg, iter, ifs, 0⟩] scope pos) spos) (tDS C W (dSet i (dLc di g tt de (own.map (·.2))))) := (ps_setLc hc hN hy hyl hsw hi ok hg ht he hs).imp fun D σ H ⟨e, G, hz, h⟩ => by
  refine tLc_of (W := W) ⟨e, G, hz, ?_⟩
  unfold dSet at h
  cases q : dLc di g tt de (own.map (·.2)) e with
  | bad => rw [q] at h; exact h
  | ex y e1 => rw [q] at h; exact fun cls d H' G' z1 z2 z3 => h cls d σ H' G' z1 z2 z3
  | ok o e1 => rw [q] at h; exact fun H' G' z1 z2 v ov => set_of (e1 := e1) z1 z2 ov h
end
end L2.VD

namespace L2.VD
open PySem PySem.Spec PyProof.Rows

def onOl (i : Nat) (e : List Slot) (k : Bool → List T → Res Fl) : Res Fl := match e[i]? with
  | some (.ol p ts) => k p ts
  | _ => .bad
def dApp (i : Nat) (da : DE) : DS := fun e => onOl i e fun _ _ => (da e).bind fun o e1 => onOl i e1 fun p ts => if fits (ts.length + 1) then .ok .nx (e1.set i (.ol p (ts ++ [o.t]))) else .bad
def dExt (i : Nat) (da : DE) : DS := fun e => onOl i e fun _ _ => (da e).bind fun o e1 => match o.t with
  | .lst us => onOl i e1 fun p ts => if fits (ts.length + us.length) then .ok .nx (e1.set i (.ol p (ts ++ us))) else .bad
  | _ => .bad
def setAt (ts : List T) (u : T) (t : T) : Option (List T) := match u with
  | .int k => (ixN ts.length k).map fun j => ts.set j t
  | _ => none
theorem setAt_some {ts us : List T} {u t : T} (h : setAt ts u t = some us) : ∃ k j, u = .int k ∧ ixN ts.length k = some j ∧ us = ts.set j t := by
  unfold setAt at h
  split at h
  · rename_i k
    cases q : ixN ts.length k with
    | none => rw [q] at h; cases h
    | some j => rw [q] at h; cases h; exact ⟨k, j, rfl, q, rfl⟩
  · cases h
def putOl (i : Nat) (p : Bool) (e : List Slot) (o : Option (List T)) : Res Fl := match o with
  | some us => .ok .nx (e.set i (.ol p us))
  | none => .bad
def dSetI (i : Nat) (db da : DE) : DS := fun e => (da e).bind fun o e1 => onOl i e1 fun _ _ => (db e1).bind fun b e2 => onOl i e2 fun p ts => putOl i p e2 (setAt ts b.t o.t)
/-- name.pop(k), a written k -/
def dPopAt (i : Nat) (k : Int) : DE := fun e => match e[i]? with
  | some (.ol p ts) => match ixN ts.length k with
    | some j => match ts[j]? with
      | some t => .ok (.sh t) (e.set i (.ol p (ts.eraseIdx j)))
      | none => .bad
    | none => .bad
  | _ => .bad
def dLenN (i : Nat) : DE := fun e => match e[i]? with
  | some (.sh (.lst ts)) => .ok (.sh (.int ts.length)) e
  | some (.sh (.sq ts)) => .ok (.sh (.int ts.length)) e
  | some (.sh (.tup ts)) => .ok (.sh (.int ts.length)) e
  | some (.sh (.str x)) => if fits x.length then .ok (.sh (.int x.length)) e else .bad
  | some (.ol _ ts) => .ok (.sh (.int ts.length)) e
  | some (.oll tss) => .ok (.sh (.int tss.length)) e
  | _ => .bad
section
variable {X : Cx} {C : VX} {W : WX} {a b : Expr} {da db : DE} {pos npos apos cpos : Pos} {s : S}
theorem onOl_ok {i : Nat} {e : List Slot} {k : Bool → List T → Res Fl} {D : Ends} (h : SatS C W s (onOl i e k) D) : ∃ p ts, e[i]? = some (.ol p ts) ∧ SatS C W s (k p ts) D := by
  unfold onOl at h
  split at h
  · exact ⟨_, _, by assumption, h⟩
  · exact h.elim
theorem s_app (i : Nat) {x : Str} (ha : PE X a (tD C W da)) (hN : X.N[i]? = some x := by rfl) (hv : Vis X.env.scope x := by first | exact Or.inl rfl | exact Or.inr (Or.inl rfl) | exact Or.inr (Or.inr rfl)) (hd : (x == ("__debug__" : Str)) = false := by decide) (hcd : (x == ("__classdict__" : Str)) = false := by decide)
    (hbase : attributeBase (.Name x npos) "append" X.env (eval (.Name x npos) X.env) = eval (.Name x npos) X.env := by rfl) (hfew : ((backTo cpos (starEach [a] X.env)).all (fun x => !x.1) && (backToKw cpos (keywordEach [] X.env)).all (fun x => x.1.isSome) && decide ([a].length + ([] : List Keyword).length + (if ([] : List Keyword).isEmpty then 0 else 1) < 30)) = true := by rfl)
    (hline : (apos.endLine == cpos.line) = true := by rfl) (hst : starEach [a] X.env = (false, eval a X.env) :: starEach [] X.env := by rfl) (hpl : (backTo cpos (starEach [] X.env)).any (·.1) = false := by rfl) (hs : swapsWith (.Call (.Attribute (.Name x npos) "append" apos) [a] [] cpos) none pos.line X.env = pure false := by rfl) :
    PS X (.Expr (.Call (.Attribute (.Name x npos) "append" apos) [a] [] cpos) pos) (tDS C W (dApp i da)) :=
  (ps_expr (pe_bm PySem.F.plainAttrs_list PySem.F.slot_list_append PySem.F.type_list_append mt_append (pv i hN hv hd hcd) (a_cons ha a_nil hst) hbase hfew hline hst hpl) hs).imp fun D σ H ⟨e, G, hz, h⟩ => by
    obtain ⟨p, ts, h1, h2⟩ := onOl_ok h
    obtain ⟨l, xs, e1, q1, q2⟩ := hz.at_ i _ h1
    refine ⟨.ref l, e1, .inl ⟨rfl, xs, .of q1⟩, ?_⟩
    refine tDA_I (s := ⟨e, σ, H, G⟩) hz ?_
    cases q : da e with
    | bad => rw [q] at h2; exact h2.elim
    | ex y e2 =>
      rw [q] at h2
      show SatE C W _ (dCons da dNil e) _
      unfold dCons
      rw [q]
      exact fun cls d H' G' z1 z2 z3 => h2 cls d σ H' G' z1 z2 z3
    | ok o e2 =>
      rw [q] at h2
      show SatE C W _ (dCons da dNil e) _
      unfold dCons
      rw [q]
      intro H' G' z1 z2 vs rvs
      obtain ⟨p2, ts2, h3, h4⟩ := onOl_ok h2
      obtain ⟨l2, xs2, e3, q3, q4⟩ := z1.at_ i _ h3
      rw [show σ[i]? = some (some (V.ref l)) from e1] at e3
      cases e3
      obtain ⟨v, rfl, rv⟩ := rvs.one
      split at h4
      · rename_i hf
        refine ⟨l, xs2, v, rfl, rfl, q3, by rw [q4.length]; exact fits_lt hf, ?_⟩
        obtain ⟨y1, y2⟩ := z1.olset h3 e1 (q4.append (Rps.cons rv Rps.nil))
        exact h4 σ _ G' y1 (z2.trans y2)
      · exact h4.elim
theorem s_ext (i : Nat) {x : Str} (ha : PE X a (tD C W da)) (hN : X.N[i]? = some x := by rfl) (hv : Vis X.env.scope x := by first | exact Or.inl rfl | exact Or.inr (Or.inl rfl) | exact Or.inr (Or.inr rfl)) (hd : (x == ("__debug__" : Str)) = false := by decide) (hcd : (x == ("__classdict__" : Str)) = false := by decide)
    (hbase : attributeBase (.Name x npos) "extend" X.env (eval (.Name x npos) X.env) = eval (.Name x npos) X.env := by rfl) (hfew : ((backTo cpos (starEach [a] X.env)).all (fun x => !x.1) && (backToKw cpos (keywordEach [] X.env)).all (fun x => x.1.isSome) && decide ([a].length + ([] : List Keyword).length + (if ([] : List Keyword).isEmpty then 0 else 1) < 30)) = true := by rfl)
    (hline : (apos.endLine == cpos.line) = true := by rfl) (hst : starEach [a] X.env = (false, eval a X.env) :: starEach [] X.env := by rfl) (hpl : (backTo cpos (starEach [] X.env)).any (·.1) = false := by rfl) (hs : swapsWith (.Call (.Attribute (.Name x npos) "extend" apos) [a] [] cpos) none pos.line X.env = pure false := by rfl) :
    PS X (.Expr (.Call (.Attribute (.Name x npos) "extend" apos) [a] [] cpos) pos) (tDS C W (dExt i da)) :=
  (ps_expr (pe_bm PySem.F.plainAttrs_list PySem.F.slot_list_extend PySem.F.type_list_extend mt_extend (pv i hN hv hd hcd) (a_cons ha a_nil hst) hbase hfew hline hst hpl) hs).imp fun D σ H ⟨e, G, hz, h⟩ => by
    obtain ⟨p, ts, h1, h2⟩ := onOl_ok h
    obtain ⟨l, xs, e1, q1, q2⟩ := hz.at_ i _ h1
    refine ⟨.ref l, e1, .inl ⟨rfl, xs, .of q1⟩, ?_⟩
    refine tDA_I (s := ⟨e, σ, H, G⟩) hz ?_
    cases q : da e with
    | bad => rw [q] at h2; exact h2.elim
    | ex y e2 =>
      rw [q] at h2
      show SatE C W _ (dCons da dNil e) _
      unfold dCons
      rw [q]
      exact fun cls d H' G' z1 z2 z3 => h2 cls d σ H' G' z1 z2 z3
    | ok o e2 =>
      rw [q] at h2
      show SatE C W _ (dCons da dNil e) _
      unfold dCons
      rw [q]
      intro H' G' z1 z2 vs rvs
      obtain ⟨v, rfl, rv⟩ := rvs.one
      have h2 : SatS C W ⟨e, σ, H, G⟩ (match o.t with | .lst us => onOl i e2 fun p ts => if fits (ts.length + us.length) then .ok .nx (e2.set i (.ol p (ts ++ us))) else .bad | _ => .bad) D := h2
      split at h2
      · rename_i us hu
        rw [hu] at rv
        obtain ⟨p2, ts2, h3, h4⟩ := onOl_ok h2
        obtain ⟨l2, xs2, e3, q3, q4⟩ := z1.at_ i _ h3
        rw [show σ[i]? = some (some (V.ref l)) from e1] at e3
        cases e3
        obtain ⟨b, ys, rfl, r1, r2⟩ := rv
        split at h4
        · rename_i hf
          refine ⟨l, b, xs2, ys, rfl, rfl, q3, z1.sub _ _ r1, by rw [q4.length, r2.length]; exact fits_le hf, ?_⟩
          obtain ⟨y1, y2⟩ := z1.olset h3 e1 (q4.append r2)
          exact h4 σ _ G' y1 (z2.trans y2)
        · exact h4.elim
      · exact h2.elim
theorem ix_lt' {n : Nat} {k : Int} {j : Nat} (h : ixN n k = some j) : j < n := (ixN_seq h).2.1
theorem s_setI (i : Nat) {x : Str} {tpos : Pos} (ha : PE X a (tD C W da)) (hb : PE X b (tD C W db)) (hN : X.N[i]? = some x := by rfl) (hv : Vis X.env.scope x := by first | exact Or.inl rfl | exact Or.inr (Or.inl rfl) | exact Or.inr (Or.inr rfl)) (hd : (x == ("__debug__" : Str)) = false := by decide) (hcd : (x == ("__classdict__" : Str)) = false := by decide)
    (ht : ∀ v, assign (.Subscript (.Name x npos) b tpos) X.env v = (do let ov ← holding [v] (eval (.Name x npos) X.env); let iv ← holding [v, ov] (eval b X.env); standAt tpos; holding [v, ov, iv] (setItem ov iv v); release [v, ov, iv] []) := by intro _; rfl)
    (hs : swapsWithSole [.Subscript (.Name x npos) b tpos] a pos.line X.env = pure false := by rfl) (hw : swappedStores [.Subscript (.Name x npos) b tpos] a X.env = pure none := by rfl) (h1 : (assignEach [.Subscript (.Name x npos) b tpos] X.env).map (·.2) = [assign (.Subscript (.Name x npos) b tpos) X.env] := by rfl) :
    PS X (.Assign [.Subscript (.Name x npos) b tpos] a pos) (tDS C W (dSetI i db da)) := (ps_asg ha (pg_sub (pv i hN hv hd hcd) hb set_list ht) hs hw h1).imp fun D σ H ⟨e, G, hz, h⟩ => by
  refine tD_T (s := ⟨e, σ, H, G⟩) hz ((SatS.bind h).mono fun o s1 hs1 x1 e1 h1 v rv => ?_)
  have hσ : s1.σ = σ := e1
  subst hσ
  obtain ⟨p, ts, h2, h3⟩ := onOl_ok h1
  obtain ⟨l, xs, e2, q1, q2⟩ := hs1.at_ i _ h2
  refine ⟨.ref l, e2, ?_⟩
  refine tD_T hs1 ((SatS.bind h3).mono fun y s2 hs2 x2 e3 h4 w rw' => ?_)
  obtain ⟨p2, ts2, h5, h6⟩ := onOl_ok h4
  obtain ⟨l2, xs2, e4, q3, q4⟩ := hs2.at_ i _ h5
  have e5 : s2.σ[i]? = some (some (V.ref l)) := by rw [e3]; exact e2
  rw [e5] at e4
  cases e4
  cases hj : setAt ts2 y.t o.t with
  | none => rw [hj] at h6; exact h6.elim
  | some us =>
    rw [hj] at h6
    obtain ⟨k, j, hk, hj2, rfl⟩ := setAt_some hj
    rw [hk] at rw'
    cases rw'
    refine ⟨l, xs2, k, j, rfl, rfl, q3, by rw [q4.length]; exact hj2, ?_⟩
    obtain ⟨y1, y2⟩ := hs2.olset h5 e5 (q4.set j (rv.mono x2.g))
    have := h6 s2.σ _ s2.G y1 y2
    rw [show s1.σ = s2.σ from e3.symm]
    exact this
theorem e_popAt (i : Nat) {x : Str} {k : Int} {j pos' : Nat} {kpos : Pos} {kk} (hk : -(2 ^ 63) ≤ k ∧ k < 2 ^ 63 := by decide) (hN : X.N[i]? = some x := by rfl) (hv : Vis X.env.scope x := by first | exact Or.inl rfl | exact Or.inr (Or.inl rfl) | exact Or.inr (Or.inr rfl)) (hd : (x == ("__debug__" : Str)) = false := by decide) (hcd : (x == ("__classdict__" : Str)) = false := by decide)
    (hbase : attributeBase (.Name x npos) "pop" X.env (eval (.Name x npos) X.env) = eval (.Name x npos) X.env := by rfl) (hfew : ((backTo cpos (starEach [.Constant (.int k) kk kpos] X.env)).all (fun x => !x.1) && (backToKw cpos (keywordEach [] X.env)).all (fun x => x.1.isSome) && decide ([Expr.Constant (.int k) kk kpos].length + ([] : List Keyword).length + (if ([] : List Keyword).isEmpty then 0 else 1) < 30)) = true := by rfl)
    (hline : (apos.endLine == cpos.line) = true := by rfl) (hst : starEach [.Constant (.int k) kk kpos] X.env = (false, eval (.Constant (.int k) kk kpos) X.env) :: starEach [] X.env := by rfl) (hpl : (backTo cpos (starEach [] X.env)).any (·.1) = false := by rfl) :
    PE X (.Call (.Attribute (.Name x npos) "pop" apos) [.Constant (.int k) kk kpos] [] cpos) (tD C W (dPopAt i k)) :=
  (pe_bm PySem.F.plainAttrs_list PySem.F.slot_list_pop PySem.F.type_list_pop mt_popAt (pv i hN hv hd hcd) (pa_cons pe_int pa_nil hst) hbase hfew hline hst hpl).imp fun σ H Q ⟨e, G, hz, h⟩ => by
    unfold dPopAt at h
    split at h
    · rename_i p ts h1
      obtain ⟨l, xs, e1, q1, q2⟩ := hz.at_ i _ h1
      split at h
      · rename_i m hm
        split at h
        · rename_i t ht
          obtain ⟨v, y1, y2⟩ := q2.get ht
          refine ⟨.ref l, e1, .inl ⟨rfl, xs, .of q1⟩, l, xs, k, m, v, rfl, rfl, q1, hk.1, hk.2, ?_, y1, ?_⟩
          · rw [q2.length]
            exact (ixN_seq hm).1
          · obtain ⟨z1, z2⟩ := hz.olset h1 e1 (q2.eraseIdx m)
            exact h _ _ z1 z2 v y2
        · exact h.elim
      · exact h.elim
    · exact h.elim
theorem boot_len' : bootBuiltins "len" = some (.builtin "len") := by decide +kernel
theorem e_lenN (i : Nat) {x : Str} {p : Pos} (hg : Gl X "len") (hm : X.mg "len" = none) (hN : X.N[i]? = some x := by rfl) (hv : Vis X.env.scope x := by first | exact Or.inl rfl | exact Or.inr (Or.inl rfl) | exact Or.inr (Or.inr rfl)) (hd : (x == ("__debug__" : Str)) = false := by decide) (hcd : (x == ("__classdict__" : Str)) = false := by decide)
    (he : starEach [.Name x npos] X.env = (false, eval (.Name x npos) X.env) :: starEach [] X.env := by rfl) (hpl : (backTo pos (starEach [] X.env)).any (·.1) = false := by rfl) (hK : C.K = X.K := by rfl) : PE X (.Call (.Name "len" p) [.Name x npos] [] pos) (tD C W (dLenN i)) :=
  (pe_callB call_len hg hm boot_len' (pa_cons (pv i hN hv hd hcd) pa_nil he) (by decide) (by decide) he hpl).imp fun σ H Q ⟨e, G, hz, h⟩ => by
    unfold dLenN at h
    split at h
    · rename_i ts h1
      obtain ⟨v, e1, l, xs, rfl, q1, q2⟩ := hz.at_ i _ h1
      exact ⟨_, e1, _, ts.length, rfl, .inl ⟨xs, .of (hz.sub _ _ q1), q2.length.symm⟩, h H G hz (Ext.refl _) _ rfl⟩
    · rename_i ts h1
      obtain ⟨v, e1, l, xs, rfl, q1, q2⟩ := hz.at_ i _ h1
      exact ⟨_, e1, _, ts.length, rfl, .inl ⟨xs, by rw [← hK]; exact sqL_mono hz.sub q1, q2.length.symm⟩, h H G hz (Ext.refl _) _ rfl⟩
    · rename_i ts h1
      obtain ⟨v, e1, l, xs, rfl, q1, q2⟩ := hz.at_ i _ h1
      exact ⟨_, e1, _, ts.length, rfl, .inr ⟨xs, by rw [← hK]; exact sqT_mono hz.sub q1, q2.length.symm⟩, h H G hz (Ext.refl _) _ rfl⟩
    · rename_i z h1
      split at h
      · rename_i hf
        obtain ⟨v, e1, r⟩ := hz.at_ i _ h1
        cases r
        exact ⟨_, e1, _, z.length, rfl, ⟨fits_le hf, rfl⟩, h H G hz (Ext.refl _) _ rfl⟩
      · exact h.elim
    · rename_i p' ts h1
      obtain ⟨l, xs, e1, q1, q2⟩ := hz.at_ i _ h1
      exact ⟨_, e1, _, ts.length, rfl, .inl ⟨xs, .of q1, q2.length.symm⟩, h H G hz (Ext.refl _) _ rfl⟩
    · rename_i tss h1
      obtain ⟨l, xs, e1, q1, q2, q3, q4⟩ := hz.at_ i _ h1
      exact ⟨_, e1, _, tss.length, rfl, .inl ⟨xs, .of q1, q4.length.symm⟩, h H G hz (Ext.refl _) _ rfl⟩
    · exact h.elim
end

structure CallS (C : VX) (r : List V → Hp → VK → Prop) (f : List T → Option Out) : Prop where
  run : ∀ (s : S) (vs : List V) (ts : List T) (o : Out) (Q : VK), Sees C s → Rps C s.G ts vs → f ts = some o →
    (∀ v H' G', Sees C ⟨s.e, s.σ, H', G'⟩ → Ext s ⟨s.e, s.σ, H', G'⟩ → OutOk C s ⟨s.e, s.σ, H', G'⟩ v o → Q v H') → r vs s.H Q
def dCB (f : List T → Option Out) (d : DA) : DE := fun e => (d e).bind fun ts e1 => Res.of (f ts) e1
def fLen : List T → Option Out
  | [.lst ts] => some (.sh (.int ts.length))
  | [.sq ts] => some (.sh (.int ts.length))
  | [.tup ts] => some (.sh (.int ts.length))
  | [.str x] => if fits x.length then some (.sh (.int x.length)) else none
  | _ => none
def fAbs : List T → Option Out
  | [.int i] => some (.sh (.int (if i < 0 then -i else i)))
  | _ => none
def fInt : List T → Option Out
  | [.int i] => some (.sh (.int i))
  | [.bl b] => some (.sh (.int (if b then 1 else 0)))
  | _ => none
def fList : List T → Option Out
  | [.lst ts] => some (.fr ts)
  | [.sq ts] => some (.fr ts)
  | [.tup ts] => some (.fr ts)
  | _ => none
def fTuple : List T → Option Out
  | [.lst ts] => some (.sh (.tup ts))
  | [.sq ts] => some (.sh (.tup ts))
  | [.tup ts] => some (.sh (.tup ts))
  | _ => none
def fMax2 : List T → Option Out
  | [.int i, .int j] => some (.sh (.int (if j > i then j else i)))
  | _ => none
def fMin2 : List T → Option Out
  | [.int i, .int j] => some (.sh (.int (if j < i then j else i)))
  | _ => none
/-- all items whole numbers -/
def intsT : List T → Option (List Int)
  | [] => some []
  | .int i :: ts => (intsT ts).map (i :: ·)
  | _ => none
def blsT : List T → Option (List Bool)
  | [] => some []
  | .bl i :: ts => (blsT ts).map (i :: ·)
  | _ => none
def listOf : List T → Option (List T)
  | [.lst ts] => some ts
  | _ => none
def fSum (ts : List T) : Option Out := ((listOf ts).bind intsT).map fun ns => .sh (.int ns.sum)
def minI : List Int → Option Int
  | [] => none
  | n :: ns => some (ns.foldl (fun a b => if b < a then b else a) n)
def maxI : List Int → Option Int
  | [] => none
  | n :: ns => some (ns.foldl (fun a b => if a < b then b else a) n)
def fMin (ts : List T) : Option Out := (((listOf ts).bind intsT).bind minI).map fun m => .sh (.int m)
def fMax (ts : List T) : Option Out := (((listOf ts).bind intsT).bind maxI).map fun m => .sh (.int m)
def fAny (ts : List T) : Option Out := ((listOf ts).bind blsT).map fun ns => .sh (.bl (ns.any id))
def fAll (ts : List T) : Option Out := ((listOf ts).bind blsT).map fun ns => .sh (.bl (ns.all id))
section
variable {C : VX}
theorem intsT_eq : ∀ {ts : List T} {ns : List Int}, intsT ts = some ns → ts = ns.map T.int
  | [], ns, h => by cases h; rfl
  | .int i :: ts, ns, h => by
    have h : (intsT ts).map (i :: ·) = some ns := h
    cases q : intsT ts with
    | none => rw [q] at h; cases h
    | some ms =>
      rw [q] at h
      cases h
      rw [intsT_eq q]; rfl
  | .non :: ts, ns, h => by cases h
  | .bl _ :: ts, ns, h => by cases h
  | .str _ :: ts, ns, h => by cases h
  | .tup _ :: ts, ns, h => by cases h
  | .lst _ :: ts, ns, h => by cases h
  | .sq _ :: ts, ns, h => by cases h
  | .obj _ _ :: ts, ns, h => by cases h
theorem intsT_map : ∀ ns : List Int, intsT (ns.map T.int) = some ns
  | [] => rfl
  | n :: ns => by show (intsT (ns.map T.int)).map (n :: ·) = _; rw [intsT_map ns]; rfl
theorem blsT_eq : ∀ {ts : List T} {ns : List Bool}, blsT ts = some ns → ts = ns.map T.bl
  | [], ns, h => by cases h; rfl
  | .bl i :: ts, ns, h => by
    have h : (blsT ts).map (i :: ·) = some ns := h
    cases q : blsT ts with
    | none => rw [q] at h; cases h
    | some ms =>
      rw [q] at h
      cases h
      rw [blsT_eq q]; rfl
  | .non :: ts, ns, h => by cases h
  | .int _ :: ts, ns, h => by cases h
  | .str _ :: ts, ns, h => by cases h
  | .tup _ :: ts, ns, h => by cases h
  | .lst _ :: ts, ns, h => by cases h
  | .sq _ :: ts, ns, h => by cases h
  | .obj _ _ :: ts, ns, h => by cases h
theorem blsT_map : ∀ ns : List Bool, blsT (ns.map T.bl) = some ns
  | [] => rfl
  | n :: ns => by show (blsT (ns.map T.bl)).map (n :: ·) = _; rw [blsT_map ns]; rfl
theorem Rps.bls {G : Hp} : ∀ {ns : List Bool} {xs : List V}, Rps C G (ns.map T.bl) xs → xs = ns.map V.bl
  | [], xs, h => h
  | n :: ns, xs, h => by
    obtain ⟨x, r, rfl, h1, h2⟩ := h
    cases h1
    rw [Rps.bls h2]; rfl
theorem listOf_eq {ts us : List T} (h : listOf ts = some us) : ts = [.lst us] := by
  unfold listOf at h
  split at h
  · cases h; rfl
  · cases h
theorem listI {s : S} (hs : Sees C s) {ts : List T} {ns : List Int} {vs : List V} (r : Rps C s.G ts vs) (h : (listOf ts).bind intsT = some ns) : ∃ a, vs = [.ref a] ∧ s.H a = some (.lst (ns.map V.int)) := by
  cases q : listOf ts with
  | none => rw [q] at h; cases h
  | some us =>
    rw [q] at h
    have h : intsT us = some ns := h
    rw [listOf_eq q] at r
    obtain ⟨v, rfl, a, xs, rfl, h1, h2⟩ := r.one
    rw [intsT_eq h] at h2
    rw [Rps.ints.mp h2] at h1
    exact ⟨a, rfl, hs.sub _ _ h1⟩
theorem listB {s : S} (hs : Sees C s) {ts : List T} {ns : List Bool} {vs : List V} (r : Rps C s.G ts vs) (h : (listOf ts).bind blsT = some ns) : ∃ a, vs = [.ref a] ∧ s.H a = some (.lst (ns.map V.bl)) := by
  cases q : listOf ts with
  | none => rw [q] at h; cases h
  | some us =>
    rw [q] at h
    have h : blsT us = some ns := h
    rw [listOf_eq q] at r
    obtain ⟨v, rfl, a, xs, rfl, h1, h2⟩ := r.one
    rw [blsT_eq h] at h2
    rw [h2.bls] at h1
    exact ⟨a, rfl, hs.sub _ _ h1⟩
theorem cs_len {K : PySem.W.Frag} (hK : C.K = K := by rfl) : CallS C (fun xs H Q => ∃ x n, xs = [x] ∧ LenV K x H n ∧ Q (.int n) H) fLen := by
  subst hK
  refine ⟨fun s vs ts o Q hs r ho q => ?_⟩
  unfold fLen at ho
  split at ho
  · cases ho
    obtain ⟨v, rfl, a, xs, rfl, h1, h2⟩ := r.one
    exact ⟨_, _, rfl, .inl ⟨xs, .of (hs.sub _ _ h1), h2.length.symm⟩, out_sh hs q rfl⟩
  · cases ho
    obtain ⟨v, rfl, a, xs, rfl, h1, h2⟩ := r.one
    exact ⟨_, _, rfl, .inl ⟨xs, sqL_mono hs.sub h1, h2.length.symm⟩, out_sh hs q rfl⟩
  · cases ho
    obtain ⟨v, rfl, a, xs, rfl, h1, h2⟩ := r.one
    exact ⟨_, _, rfl, .inr ⟨xs, sqT_mono hs.sub h1, h2.length.symm⟩, out_sh hs q rfl⟩
  · split at ho
    · rename_i hf
      cases ho
      obtain ⟨v, rfl, h1⟩ := r.one
      cases h1
      exact ⟨_, _, rfl, ⟨fits_le hf, rfl⟩, out_sh hs q rfl⟩
    · cases ho
  · cases ho
theorem cs_abs : CallS C (fun xs H Q => ∃ i, xs = [.int i] ∧ Q (.int (if i < 0 then -i else i)) H) fAbs := by
  refine ⟨fun s vs ts o Q hs r ho q => ?_⟩
  unfold fAbs at ho
  split at ho
  · cases ho
    obtain ⟨v, rfl, h1⟩ := r.one
    cases h1
    exact ⟨_, rfl, out_sh hs q rfl⟩
  · cases ho
theorem cs_int : CallS C (fun xs H Q => (∃ i, xs = [.int i] ∧ Q (.int i) H) ∨ ∃ k, xs = [.bl k] ∧ Q (.int (if k then 1 else 0)) H) fInt := by
  refine ⟨fun s vs ts o Q hs r ho q => ?_⟩
  unfold fInt at ho
  split at ho
  · cases ho
    obtain ⟨v, rfl, h1⟩ := r.one
    cases h1
    exact .inl ⟨_, rfl, out_sh hs q rfl⟩
  · cases ho
    obtain ⟨v, rfl, h1⟩ := r.one
    cases h1
    exact .inr ⟨_, rfl, out_sh hs q rfl⟩
  · cases ho
theorem cs_list {K : PySem.W.Frag} (hK : C.K = K := by rfl) : CallS C (fun xs H Q => ∃ p ys, xs = [.ref p] ∧ (SqL K H p ys ∨ SqT K H p ys) ∧ ∀ l, H l = none → Q (.ref l) (upd H l (.lst ys))) fList := by
  subst hK
  refine ⟨fun s vs ts o Q hs r ho q => ?_⟩
  unfold fList at ho
  split at ho
  · cases ho
    obtain ⟨v, rfl, a, xs, rfl, h1, h2⟩ := r.one
    exact ⟨_, _, rfl, .inl (.of (hs.sub _ _ h1)), fun p hp => out_lst hs hp q h2⟩
  · cases ho
    obtain ⟨v, rfl, a, xs, rfl, h1, h2⟩ := r.one
    exact ⟨_, _, rfl, .inl (sqL_mono hs.sub h1), fun p hp => out_lst hs hp q h2⟩
  · cases ho
    obtain ⟨v, rfl, a, xs, rfl, h1, h2⟩ := r.one
    exact ⟨_, _, rfl, .inr (sqT_mono hs.sub h1), fun p hp => out_lst hs hp q h2⟩
  · cases ho
theorem cs_tuple {K : PySem.W.Frag} (hK : C.K = K := by rfl) : CallS C (fun xs H Q => ∃ p ys, xs = [.ref p] ∧ ((SqL K H p ys ∧ ∀ l, H l = none → Q (.ref l) (upd H l (.tup ys))) ∨ (SqT K H p ys ∧ Q (.ref p) H))) fTuple := by
  subst hK
  refine ⟨fun s vs ts o Q hs r ho q => ?_⟩
  unfold fTuple at ho
  split at ho
  · cases ho
    obtain ⟨v, rfl, a, xs, rfl, h1, h2⟩ := r.one
    exact ⟨_, _, rfl, .inl ⟨.of (hs.sub _ _ h1), fun p hp => out_tup hs hp q h2⟩⟩
  · cases ho
    obtain ⟨v, rfl, a, xs, rfl, h1, h2⟩ := r.one
    exact ⟨_, _, rfl, .inl ⟨sqL_mono hs.sub h1, fun p hp => out_tup hs hp q h2⟩⟩
  · cases ho
    obtain ⟨v, rfl, a, xs, rfl, h1, h2⟩ := r.one
    exact ⟨_, _, rfl, .inr ⟨sqT_mono hs.sub h1, out_sh hs q ⟨a, xs, rfl, h1, h2⟩⟩⟩
  · cases ho
theorem cs_max2 : CallS C (fun xs H Q => ∃ i j, xs = [.int i, .int j] ∧ Q (.int (if j > i then j else i)) H) fMax2 := by
  refine ⟨fun s vs ts o Q hs r ho q => ?_⟩
  unfold fMax2 at ho
  split at ho
  · cases ho
    obtain ⟨v, w, rfl, h1, h2⟩ := r.two
    cases h1; cases h2
    exact ⟨_, _, rfl, out_sh hs q rfl⟩
  · cases ho
theorem cs_min2 : CallS C (fun xs H Q => ∃ i j, xs = [.int i, .int j] ∧ Q (.int (if j < i then j else i)) H) fMin2 := by
  refine ⟨fun s vs ts o Q hs r ho q => ?_⟩
  unfold fMin2 at ho
  split at ho
  · cases ho
    obtain ⟨v, w, rfl, h1, h2⟩ := r.two
    cases h1; cases h2
    exact ⟨_, _, rfl, out_sh hs q rfl⟩
  · cases ho
theorem cs_sum {K : PySem.W.Frag} : CallS C (rSum K) fSum := by
  refine ⟨fun s vs ts o Q hs r ho q => ?_⟩
  unfold fSum at ho
  cases z : (listOf ts).bind intsT with
  | none => rw [z] at ho; cases ho
  | some ns =>
    rw [z] at ho
    cases ho
    obtain ⟨a, rfl, h⟩ := listI hs r z
    exact ⟨a, ns, rfl, .of h, out_sh hs q rfl⟩
theorem foldl_min : ∀ (ns : List Int) (n : Int), (ns.foldl (fun a b => if b < a then b else a) n = n ∨ ns.foldl (fun a b => if b < a then b else a) n ∈ ns) ∧ ns.foldl (fun a b => if b < a then b else a) n ≤ n ∧ ∀ y ∈ ns, ns.foldl (fun a b => if b < a then b else a) n ≤ y
  | [], n => ⟨.inl rfl, Int.le_refl _, fun y h => nomatch h⟩
  | m :: ns, n => by
    rw [List.foldl_cons]
    obtain ⟨h1, h2, h3⟩ := foldl_min ns (if m < n then m else n)
    have h4 : (if m < n then m else n) ≤ n ∧ (if m < n then m else n) ≤ m := by split <;> omega
    refine ⟨?_, Int.le_trans h2 h4.1, fun y hy => ?_⟩
    · rcases h1 with h1 | h1
      · rw [h1]
        split
        · exact .inr (List.mem_cons_self ..)
        · exact .inl rfl
      · exact .inr (List.mem_cons_of_mem _ h1)
    · cases hy with
      | head => exact Int.le_trans h2 h4.2
      | tail _ hy => exact h3 y hy
theorem foldl_max : ∀ (ns : List Int) (n : Int), (ns.foldl (fun a b => if a < b then b else a) n = n ∨ ns.foldl (fun a b => if a < b then b else a) n ∈ ns) ∧ n ≤ ns.foldl (fun a b => if a < b then b else a) n ∧ ∀ y ∈ ns, y ≤ ns.foldl (fun a b => if a < b then b else a) n
  | [], n => ⟨.inl rfl, Int.le_refl _, fun y h => nomatch h⟩
  | m :: ns, n => by
    rw [List.foldl_cons]
    obtain ⟨h1, h2, h3⟩ := foldl_max ns (if n < m then m else n)
    have h4 : n ≤ (if n < m then m else n) ∧ m ≤ (if n < m then m else n) := by split <;> omega
    refine ⟨?_, Int.le_trans h4.1 h2, fun y hy => ?_⟩
    · rcases h1 with h1 | h1
      · rw [h1]
        split
        · exact .inr (List.mem_cons_self ..)
        · exact .inl rfl
      · exact .inr (List.mem_cons_of_mem _ h1)
    · cases hy with
      | head => exact Int.le_trans h4.2 h2
      | tail _ hy => exact h3 y hy
theorem minI_of {ns : List Int} {m : Int} (h : minI ns = some m) : m ∈ ns ∧ ∀ y ∈ ns, m ≤ y := by
  cases ns with
  | nil => cases h
  | cons n ns =>
    cases h
    obtain ⟨h1, h2, h3⟩ := foldl_min ns n
    refine ⟨?_, fun y hy => ?_⟩
    · rcases h1 with h1 | h1
      · rw [h1]; exact List.mem_cons_self ..
      · exact List.mem_cons_of_mem _ h1
    · cases hy with
      | head => exact h2
      | tail _ hy => exact h3 y hy
theorem maxI_of {ns : List Int} {m : Int} (h : maxI ns = some m) : m ∈ ns ∧ ∀ y ∈ ns, y ≤ m := by
  cases ns with
  | nil => cases h
  | cons n ns =>
    cases h
    obtain ⟨h1, h2, h3⟩ := foldl_max ns n
    refine ⟨?_, fun y hy => ?_⟩
    · rcases h1 with h1 | h1
      · rw [h1]; exact List.mem_cons_self ..
      · exact List.mem_cons_of_mem _ h1
    · cases hy with
      | head => exact h2
      | tail _ hy => exact h3 y hy
theorem cs_min {K : PySem.W.Frag} : CallS C (rMin K) fMin := by
  refine ⟨fun s vs ts o Q hs r ho q => ?_⟩
  unfold fMin at ho
  cases z : (listOf ts).bind intsT with
  | none => rw [z] at ho; cases ho
  | some ns =>
    rw [z] at ho
    have ho : (minI ns).map (fun m => Out.sh (.int m)) = some o := ho
    cases z2 : minI ns with
    | none => rw [z2] at ho; cases ho
    | some m =>
      rw [z2] at ho
      cases ho
      obtain ⟨a, rfl, h⟩ := listI hs r z
      obtain ⟨m1, m2⟩ := minI_of z2
      refine ⟨a, ns, rfl, .of h, List.length_pos_of_mem m1, fun m' h1 h2 => ?_⟩
      have : m' = m := Int.le_antisymm (h2 _ m1) (m2 _ h1)
      subst this
      exact out_sh hs q rfl
theorem cs_max {K : PySem.W.Frag} : CallS C (rMax K) fMax := by
  refine ⟨fun s vs ts o Q hs r ho q => ?_⟩
  unfold fMax at ho
  cases z : (listOf ts).bind intsT with
  | none => rw [z] at ho; cases ho
  | some ns =>
    rw [z] at ho
    have ho : (maxI ns).map (fun m => Out.sh (.int m)) = some o := ho
    cases z2 : maxI ns with
    | none => rw [z2] at ho; cases ho
    | some m =>
      rw [z2] at ho
      cases ho
      obtain ⟨a, rfl, h⟩ := listI hs r z
      obtain ⟨m1, m2⟩ := maxI_of z2
      refine ⟨a, ns, rfl, .of h, List.length_pos_of_mem m1, fun m' h1 h2 => ?_⟩
      have : m' = m := Int.le_antisymm (m2 _ h1) (h2 _ m1)
      subst this
      exact out_sh hs q rfl
theorem cs_any {K : PySem.W.Frag} : CallS C (rAny K) fAny := by
  refine ⟨fun s vs ts o Q hs r ho q => ?_⟩
  unfold fAny at ho
  cases z : (listOf ts).bind blsT with
  | none => rw [z] at ho; cases ho
  | some ns =>
    rw [z] at ho
    cases ho
    obtain ⟨a, rfl, h⟩ := listB hs r z
    exact ⟨a, ns, rfl, .of h, out_sh hs q rfl⟩
theorem cs_all {K : PySem.W.Frag} : CallS C (rAll K) fAll := by
  refine ⟨fun s vs ts o Q hs r ho q => ?_⟩
  unfold fAll at ho
  cases z : (listOf ts).bind blsT with
  | none => rw [z] at ho; cases ho
  | some ns =>
    rw [z] at ho
    cases ho
    obtain ⟨a, rfl, h⟩ := listB hs r z
    exact ⟨a, ns, rfl, .of h, out_sh hs q rfl⟩
/-- math.gcd -/
def fGcd : List T → Option Out
  | [.int a, .int b] => some (.sh (.int ((Nat.gcd a.natAbs b.natAbs : Nat) : Int)))
  | _ => none
theorem cs_gcd : CallS C rGcd fGcd := by
  refine ⟨fun s vs ts o Q hs r ho q => ?_⟩
  unfold fGcd at ho
  split at ho
  · cases ho
    obtain ⟨v, w, rfl, h1, h2⟩ := r.two
    cases h1; cases h2
    exact ⟨_, _, rfl, out_sh hs q rfl⟩
  · cases ho
end
section
variable {X : Cx} {C : VX} {W : WX} {a : Expr} {es : List Expr} {d : DA} {f : List T → Option Out} {r : List V → Hp → VK → Prop} {x : Str} {p pos : Pos} {id T : String}
theorem tCB_of (hf : CallS C r f) {σ : St} {H : Hp} {Q : VK} (h : tD C W (dCB f d) σ H Q) : tCB r (tDA C W d) σ H Q := by
  obtain ⟨e, G, hs, h⟩ := h
  refine tDA_I (s := ⟨e, σ, H, G⟩) hs ((SatE.bind h).mono fun ts s1 hs1 x1 e1 h1 vs rvs => ?_)
  have hσ : s1.σ = σ := e1
  subst hσ
  obtain ⟨o, ho, k⟩ := SatE.of h1
  exact hf.run s1 vs ts o Q hs1 rvs ho fun u H' G' z1 z2 z3 => k H' G' z1 z2 u (z3.base x1)
theorem e_callB (hc : CallR X (.builtin id) r) (hf : CallS C r f) (hg : Gl X x) (hm : X.mg x = none) (hv : bootBuiltins x = some (.builtin id)) (ha : PA X (a :: es) (tDA C W d)) (hn : x ≠ "__name__" := by decide) (hdb : (x == ("__debug__" : Str)) = false := by decide)
    (he : starEach (a :: es) X.env = (false, eval a X.env) :: starEach es X.env := by rfl) (hpl : (backTo pos (starEach es X.env)).any (·.1) = false := by rfl) : PE X (.Call (.Name x p) (a :: es) [] pos) (tD C W (dCB f d)) := (pe_callB hc hg hm hv ha hn hdb he hpl).imp fun _ _ _ h => tCB_of hf h
theorem e_callTy (hc : CallR X (.type T) r) (hf : CallS C r f) (hg : Gl X x) (hm : X.mg x = none) (hv : bootBuiltins x = some (.type T)) (ha : PA X (a :: es) (tDA C W d)) (hn : x ≠ "__name__" := by decide) (hdb : (x == ("__debug__" : Str)) = false := by decide)
    (he : starEach (a :: es) X.env = (false, eval a X.env) :: starEach es X.env := by rfl) (hpl : (backTo pos (starEach es X.env)).any (·.1) = false := by rfl) : PE X (.Call (.Name x p) (a :: es) [] pos) (tD C W (dCB f d)) := (pe_callTy hc hg hm hv ha hn hdb he hpl).imp fun _ _ _ h => tCB_of hf h
theorem e_gcd (hg : Gl X x) (hm : X.mg x = some (.builtin "math.gcd")) (ha : PA X (a :: es) (tDA C W d)) (hdb : (x == ("__debug__" : Str)) = false := by decide)
    (he : starEach (a :: es) X.env = (false, eval a X.env) :: starEach es X.env := by rfl) (hpl : (backTo pos (starEach es X.env)).any (·.1) = false := by rfl) : PE X (.Call (.Name x p) (a :: es) [] pos) (tD C W (dCB fGcd d)) := (pe_callBfun cr_gcd hg hm ha hdb he hpl).imp fun _ _ _ h => tCB_of cs_gcd h
theorem boot_abs' : bootBuiltins "abs" = some (.builtin "abs") := by decide +kernel
theorem boot_sum' : bootBuiltins "sum" = some (.builtin "sum") := by decide +kernel
theorem boot_min' : bootBuiltins "min" = some (.builtin "min") := by decide +kernel
theorem boot_max' : bootBuiltins "max" = some (.builtin "max") := by decide +kernel
theorem boot_any' : bootBuiltins "any" = some (.builtin "any") := by decide +kernel
theorem boot_all' : bootBuiltins "all" = some (.builtin "all") := by decide +kernel
theorem boot_int' : bootBuiltins "int" = some (.type "int") := by decide +kernel
theorem boot_list' : bootBuiltins "list" = some (.type "list") := by decide +kernel
theorem boot_tuple' : bootBuiltins "tuple" = some (.type "tuple") := by decide +kernel
theorem boot_isi' : bootBuiltins "isinstance" = some (.builtin "isinstance") := by decide +kernel
end

/-- a value's kind: None, bool, int, str, tuple, list, then the classes -/
def T.kind : T → Nat
  | .non => 0
  | .bl _ => 1
  | .int _ => 2
  | .str _ => 3
  | .tup _ => 4
  | .lst _ => 5
  | .sq _ => 5
  | .obj c _ => c + 6
def tyOfKind (C : VX) : Nat → Value
  | 0 => .type "NoneType"
  | 1 => .type "bool"
  | 2 => .type "int"
  | 3 => .type "str"
  | 4 => .type "tuple"
  | 5 => .type "list"
  | c + 6 => .ref (C.ca c)
structure InsTy (K : PySem.W.Frag) (A : Addr) : Prop where
  cl : Cls K A
  ha : PySem.W.findIn K (.ref A) "__class__" = some (some (.builtin "object.__class__"))
  hn : PySem.W.specialIn K (.builtin "object.__class__") "__get__" = some (some (.builtin "getset_descriptor.__get__"))
  ht : PySem.W.takesIn K (.builtin "object.__class__") = some true
  hm : PySem.W.mroIn K A (.type "object") = some true
theorem tyX_of {C : VX} {G H : Hp} (g : ∀ a o, G a = some o → H a = some o) {t : T} {v : V} (h : Rp C G t v) (hi : ∀ c, t.kind = c + 6 → InsTy C.K (C.ca c)) : TyX C.K H v (tyOfKind C t.kind) := by
  cases t with
  | non => cases h; exact .base .non
  | bl b => cases h; exact .base (.bl b)
  | int i => cases h; exact .base (.int i)
  | str x => cases h; exact .base (.str x)
  | tup ts =>
    obtain ⟨a, xs, rfl, h1, _⟩ := h
    rcases h1 with (h1 | ⟨o, h1⟩) | ⟨o, its, n, h1, h2, _⟩
    · exact .base (.tup (g _ _ h1))
    · exact .fTuple (g _ _ h1)
    · exact .kTuple h1 h2
  | lst ts =>
    obtain ⟨a, xs, rfl, h1, _⟩ := h
    exact .base (.lst (g _ _ h1))
  | sq ts =>
    obtain ⟨a, xs, rfl, h1, _⟩ := h
    rcases h1 with (h1 | ⟨o, h1⟩) | ⟨o, its, n, h1, h2, _⟩
    · exact .base (.lst (g _ _ h1))
    · exact .base (.frz (g _ _ h1))
    · exact .kList h1 h2
  | obj c ts =>
    obtain ⟨a, dx, xs, rfl, h1, _⟩ := h
    have z := hi c rfl
    exact .base (.ins (g _ _ h1) z.cl z.ha z.hn z.ht z.hm)
def dIsi (tbl : Nat → Option Bool) (da : DE) : DE := fun e => (da e).bind fun a e1 => match tbl a.t.kind with
  | some b => .ok (.sh (.bl b)) e1
  | none => .bad
/-- what a table of answers leans on, for the class u -/
structure IsiTbl (C : VX) (u : Value) (tbl : Nat → Option Bool) : Prop where
  ok : ∀ k b, tbl k = some b → PySem.W.kitOne C.K (tyOfKind C k) u = some b
  ins : ∀ c b, tbl (c + 6) = some b → InsTy C.K (C.ca c)
structure IsiTbls (C : VX) (us : List Value) (tbl : Nat → Option Bool) : Prop where
  ok : ∀ k b, tbl k = some b → PySem.W.kitAny C.K (tyOfKind C k) us = some b
  ins : ∀ c b, tbl (c + 6) = some b → InsTy C.K (C.ca c)
section
variable {X : Cx} {C : VX} {W : WX} {a c : Expr} {da : DE} {p pos : Pos} {tbl : Nat → Option Bool}
/-- isinstance(a, c), c one class -/
theorem e_isi {w : V} {u : Value} (hg : Gl X "isinstance") (hm : X.mg "isinstance" = none) (ha : PE X a (tD C W da)) (hc : PE X c (tC w)) (k : ClsV w u) (ht : IsiTbl C u tbl)
    (he : starEach [a, c] X.env = (false, eval a X.env) :: starEach [c] X.env := by rfl) (he2 : starEach [c] X.env = (false, eval c X.env) :: starEach [] X.env := by rfl) (hpl : (backTo pos (starEach [c] X.env)).any (·.1) = false := by rfl) (hK : C.K = X.K := by rfl) :
    PE X (.Call (.Name "isinstance" p) [a, c] [] pos) (tD C W (dIsi tbl da)) := (pe_callB call_isi hg hm boot_isi' (pa_cons ha (pa_cons hc pa_nil he2) he) (by decide) (by decide) he hpl).imp fun σ H Q ⟨e, G, hs, h⟩ => by
  refine tD_T (s := ⟨e, σ, H, G⟩) hs ((SatE.bind h).mono fun x s1 hs1 x1 e1 h1 v rv => ?_)
  have h1 : SatE C W s1 (match tbl x.t.kind with | some b => Res.ok (Out.sh (.bl b)) s1.e | none => .bad) (fun o s' => ∀ v, OutOk C ⟨e, _, H, G⟩ s' v o → Q v s'.H) := h1
  split at h1
  · rename_i b hb
    refine ⟨v, w, tyOfKind C x.t.kind, u, b, rfl, k, ?_, ?_, h1 s1.H s1.G hs1 (Ext.refl _) _ rfl⟩
    · rw [← hK]
      exact tyX_of hs1.sub rv fun c hc => ht.ins c b (by rw [← hc]; exact hb)
    · rw [← hK]
      exact ht.ok _ _ hb
  · exact h1.elim
/-- isinstance(a, (c, ..)) -/
theorem e_isiT {cs : List Expr} {ws : List V} {us : List Value} {k1 : Nat} {tp : Pos} (hg : Gl X "isinstance") (hm : X.mg "isinstance" = none) (ha : PE X a (tD C W da)) (hc : PA X cs (fun _ H Q => Q ws H)) (k : Paired ClsV ws us) (hl : ws.length ≤ sizeLine) (ht : IsiTbls C us tbl)
    (he : starEach [a, .Tuple cs k1 tp] X.env = (false, eval a X.env) :: starEach [.Tuple cs k1 tp] X.env := by rfl) (he2 : starEach [.Tuple cs k1 tp] X.env = (false, eval (.Tuple cs k1 tp) X.env) :: starEach [] X.env := by rfl) (hpl : (backTo pos (starEach [.Tuple cs k1 tp] X.env)).any (·.1) = false := by rfl) (hK : C.K = X.K := by rfl) :
    PE X (.Call (.Name "isinstance" p) [a, .Tuple cs k1 tp] [] pos) (tD C W (dIsi tbl da)) := (pe_callB call_isiT hg hm boot_isi' (pa_cons ha (pa_cons (pe_tup hc) pa_nil he2) he) (by decide) (by decide) he hpl).imp fun σ H Q ⟨e, G, hs, h⟩ => by
  refine tD_T (s := ⟨e, σ, H, G⟩) hs ((SatE.bind h).mono fun x s1 hs1 x1 e1 h1 v rv => ?_)
  have hσ : s1.σ = σ := e1
  subst hσ
  have h1 : SatE C W s1 (match tbl x.t.kind with | some b => Res.ok (Out.sh (.bl b)) s1.e | none => .bad) (fun o s' => ∀ v, OutOk C ⟨e, _, H, G⟩ s' v o → Q v s'.H) := h1
  split at h1
  · rename_i b hb
    refine ⟨hl, fun q hq => ?_⟩
    obtain ⟨z1, z2⟩ := hs1.newG hq (.tup ws)
    refine ⟨v, q, ws, tyOfKind C x.t.kind, us, b, rfl, upd_same, k, ?_, ?_, h1 _ _ z1 z2 _ rfl⟩
    · rw [← hK]
      exact tyX_of z1.sub (rv.mono z2.g) fun c hc => ht.ins c b (by rw [← hc]; exact hb)
    · rw [← hK]
      exact ht.ok _ _ hb
  · exact h1.elim
end
end L2.VD

namespace L2.VD
open PySem PySem.Spec PyProof.Rows

inductive AV where
  | v (t : T) | l (i : Nat)
abbrev DC := List Slot → Res (List AV)
def AVs (C : VX) (s : S) : List AV → List V → Prop
  | [], vs => vs = []
  | .v t :: r, vs => ∃ x q, vs = x :: q ∧ Rp C s.G t x ∧ AVs C s r q
  | .l i :: r, vs => ∃ x q, vs = x :: q ∧ s.σ[i]? = some (some x) ∧ AVs C s r q
def tDC (C : VX) (W : WX) (d : DC) : TA := fun σ H Q => ∃ e G, Sees C ⟨e, σ, H, G⟩ ∧ SatE C W ⟨e, σ, H, G⟩ (d e) fun avs s' => ∀ vs, AVs C s' avs vs → Q vs s'.H
def cNil : DC := fun e => .ok [] e
def cVal (da : DE) (dr : DC) : DC := fun e => (da e).bind fun o e1 => (dr e1).bind fun avs e2 => .ok (.v o.t :: avs) e2
def cLend (i : Nat) (dr : DC) : DC := fun e => match e[i]? with
  | some (.ol _ _) => (dr e).bind fun avs e2 => .ok (.l i :: avs) e2
  | _ => .bad
section
variable {X : Cx} {C : VX} {W : WX} {x : Expr} {es : List Expr} {da : DE} {dr : DC} {pos npos : Pos} {s : S}
theorem tDC_I {d : DC} {Q : List V → Hp → Prop} (hs : Sees C s) (h : SatE C W s (d s.e) fun avs s1 => ∀ vs, AVs C s1 avs vs → Q vs s1.H) : tDC C W d s.σ s.H Q := ⟨s.e, s.G, hs, h⟩
theorem c_nil : PA X [] (tDC C W cNil) := pa_nil.imp fun σ H Q ⟨e, G, hs, h⟩ => h H G hs (Ext.refl _) [] rfl
theorem c_cons (ha : PE X x (tD C W da)) (hr : PA X es (tDC C W dr)) (hst : starEach (x :: es) X.env = (false, eval x X.env) :: starEach es X.env := by rfl) : PA X (x :: es) (tDC C W (cVal da dr)) := (pa_cons ha hr hst).imp fun σ H Q ⟨e, G, hs, h⟩ => by
  refine tD_T (s := ⟨e, σ, H, G⟩) hs ((SatE.bind h).mono fun x s1 hs1 x1 e1 h1 v rv => ?_)
  have hσ : s1.σ = σ := e1
  subst hσ
  refine tDC_I hs1 ((SatE.bind h1).mono fun ts s2 hs2 x2 e2 h2 vs rvs => ?_)
  exact h2 s2.H s2.G hs2 (Ext.refl _) _ ⟨v, vs, rfl, rv.mono x2.g, rvs⟩
theorem c_lend (i : Nat) {y : Str} (hr : PA X es (tDC C W dr)) (hN : X.N[i]? = some y := by rfl) (hv : Vis X.env.scope y := by first | exact Or.inl rfl | exact Or.inr (Or.inl rfl) | exact Or.inr (Or.inr rfl)) (hd : (y == ("__debug__" : Str)) = false := by decide) (hcd : (y == ("__classdict__" : Str)) = false := by decide)
    (hst : starEach (.Name y npos :: es) X.env = (false, eval (.Name y npos) X.env) :: starEach es X.env := by rfl) : PA X (.Name y npos :: es) (tDC C W (cLend i dr)) := (pa_cons (pv i hN hv hd hcd) hr hst).imp fun σ H Q ⟨e, G, hs, h⟩ => by
  unfold cLend at h
  split at h
  · rename_i p ts h1
    obtain ⟨a, xs, e1, q1, q2⟩ := hs.at_ i _ h1
    refine ⟨.ref a, e1, ?_⟩
    refine tDC_I (s := ⟨e, σ, H, G⟩) hs ((SatE.bind h).mono fun ts s2 hs2 x2 e2 h2 vs rvs => ?_)
    have hσ : s2.σ = σ := e2
    subst hσ
    exact h2 s2.H s2.G hs2 (Ext.refl _) _ ⟨.ref a, vs, rfl, e1, rvs⟩
  · exact h.elim
end

abbrev DF := List Slot → Res Out
/-- a body's end -/
def Fl.out : Fl → Option Out
  | .nx => some (.sh .non)
  | .rt o => some o
  | _ => none
/-- the parameters' slots, then nl empty ones -/
def fnD (nl : Nat) (d : DS) : DF := fun ss => (d (ss ++ List.replicate nl .un)).bind fun f e => Res.of f.out e
def SatF (C : VX) (s : S) (r : Res Out) (Q : VK) (E : XK) : Prop := match r with
  | .ok o e' => ∀ σ' H' G', Sees C ⟨e', σ', H', G'⟩ → Ext s ⟨e', σ', H', G'⟩ → ∀ v, OutOk C s ⟨e', σ', H', G'⟩ v o → Q v H'
  | .ex x e' => ∀ cls d σ' H' G', Sees C ⟨e', σ', H', G'⟩ → Ext s ⟨e', σ', H', G'⟩ → XOk C ⟨e', σ', H', G'⟩ cls d x → E cls d H'
  | .bad => False
def spD (C : VX) (np : Nat) (F : DF) : Sp := fun vs H Q E => vs.length = np ∧ ∃ ss G, Sees C ⟨ss, vs.map some, H, G⟩ ∧ SatF C ⟨ss, vs.map some, H, G⟩ (F ss) Q E
section
variable {C : VX}
theorem getRep {α : Type} {l : List α} {n : Nat} {x y : α} {i : Nat} (h : (l ++ List.replicate n x)[i]? = some y) : l[i]? = some y ∨ (l.length ≤ i ∧ y = x) := by
  by_cases hi : i < l.length
  · rw [List.getElem?_append_left hi] at h
    exact .inl h
  · rw [List.getElem?_append_right (by omega), List.getElem?_replicate] at h
    split at h
    · exact .inr ⟨by omega, (Option.some.inj h).symm⟩
    · cases h
theorem Owns.pad {ss : List Slot} {vs : List V} {H G : Hp} {n : Nat} (hl : ss.length = vs.length) {i : Nat} {a : Addr} : Owns ⟨ss ++ List.replicate n .un, vs.map some ++ List.replicate n none, H, G⟩ i a ↔ Owns ⟨ss, vs.map some, H, G⟩ i a := by
  constructor
  · rintro ⟨sl, v, h1, h2, h3⟩
    have h1 : (ss ++ List.replicate n Slot.un)[i]? = some sl := h1
    have h2 : (vs.map some ++ List.replicate n none)[i]? = some (some v) := h2
    rcases getRep h1 with h1' | ⟨_, rfl⟩
    · have hi : i < (vs.map some).length := by rw [List.length_map, ← hl]; exact (List.getElem?_eq_some_iff.mp h1').1
      rw [List.getElem?_append_left hi] at h2
      exact ⟨sl, v, h1', h2, h3⟩
    · exact h3.elim
  · rintro ⟨sl, v, h1, h2, h3⟩
    have h1 : ss[i]? = some sl := h1
    have h2 : (vs.map some)[i]? = some (some v) := h2
    refine ⟨sl, v, ?_, ?_, h3⟩
    · show (ss ++ List.replicate n Slot.un)[i]? = some sl
      rw [List.getElem?_append_left (List.getElem?_eq_some_iff.mp h1).1]
      exact h1
    · show (vs.map some ++ List.replicate n none)[i]? = some (some v)
      rw [List.getElem?_append_left (List.getElem?_eq_some_iff.mp h2).1]
      exact h2
theorem Sees.pad {ss : List Slot} {vs : List V} {H G : Hp} (hs : Sees C ⟨ss, vs.map some, H, G⟩) (n : Nat) : Sees C ⟨ss ++ List.replicate n .un, vs.map some ++ List.replicate n none, H, G⟩ := by
  have hl : ss.length = vs.length := by have := hs.len; rw [List.length_map] at this; exact this
  refine ⟨hs.sub, ?_, fun i sl h => ?_, fun i a h => hs.own i a ((Owns.pad hl).mp h), fun i j a h1 h2 => hs.inj i j a ((Owns.pad hl).mp h1) ((Owns.pad hl).mp h2)⟩
  · show (ss ++ List.replicate n Slot.un).length = (vs.map some ++ List.replicate n none).length
    rw [List.length_append, List.length_append, List.length_replicate, List.length_replicate, List.length_map, hl]
  · show SlotOk C G H (vs.map some ++ List.replicate n none)[i]? sl
    rcases getRep h with h' | ⟨_, rfl⟩
    · rw [List.getElem?_append_left (by rw [List.length_map, ← hl]; exact (List.getElem?_eq_some_iff.mp h').1)]
      exact hs.at_ i sl h'
    · trivial
theorem Ext.unpad {ss : List Slot} {vs : List V} {H G : Hp} {n : Nat} {s' : S} (hl : ss.length = vs.length) (x : Ext ⟨ss ++ List.replicate n .un, vs.map some ++ List.replicate n none, H, G⟩ s') : Ext ⟨ss, vs.map some, H, G⟩ s' := by
  refine ⟨x.g, fun a o h hn => x.keep a o h fun i hi => hn i ((Owns.pad hl).mp hi), fun a h => ?_, fun i a h => ?_, fun i k h => ?_⟩
  · rcases x.gnew a h with h | h | ⟨i, h⟩
    · exact .inl h
    · exact .inr (.inl h)
    · exact .inr (.inr ⟨i, (Owns.pad hl).mp h⟩)
  · rcases x.own i a h with h | ⟨j, h⟩
    · exact .inl h
    · exact .inr ⟨j, (Owns.pad hl).mp h⟩
  · have h : (ss[i]?).bind Slot.pk = some k := h
    have hi : i < ss.length := by
      cases q : ss[i]? with
      | none => rw [q] at h; exact nomatch h
      | some s0 => exact (List.getElem?_eq_some_iff.mp q).1
    obtain ⟨h1, h2⟩ := x.pin i k (by show ((ss ++ List.replicate n Slot.un)[i]?).bind _ = _; rw [List.getElem?_append_left hi]; exact h)
    refine ⟨h1.trans ?_, h2⟩
    show (vs.map some ++ List.replicate n none)[i]? = (vs.map some)[i]?
    rw [List.getElem?_append_left (by rw [List.length_map, ← hl]; exact hi)]
theorem Fresh.unpad {ss : List Slot} {vs : List V} {H G : Hp} {n : Nat} {s' : S} {a : Addr} (hl : ss.length = vs.length) (f : Fresh ⟨ss ++ List.replicate n .un, vs.map some ++ List.replicate n none, H, G⟩ s' a) : Fresh ⟨ss, vs.map some, H, G⟩ s' a :=
  ⟨f.g, f.no, f.new.imp id fun ⟨j, h⟩ => ⟨j, (Owns.pad hl).mp h⟩⟩
/-- from another base -/
theorem OutOk.from {s0 s1 : S} {e1 e2 : List Slot} {σ1 σ2 : St} {H G : Hp} {v : V} (f : ∀ a, Fresh s0 ⟨e1, σ1, H, G⟩ a → Fresh s1 ⟨e2, σ2, H, G⟩ a) : ∀ {o : Out}, OutOk C s0 ⟨e1, σ1, H, G⟩ v o → OutOk C s1 ⟨e2, σ2, H, G⟩ v o
  | .sh _, h => h
  | .fr _, ⟨a, xs, e, h1, z, h2⟩ => ⟨a, xs, e, h1, f a z, h2⟩
  | .frr _, ⟨a, xs, e, h1, z, h2, h3, h4, h5⟩ => ⟨a, xs, e, h1, f a z, h2, h3, h4, fun b hb => f b (h5 b hb)⟩
  | .ft _, ⟨a, xs, e, h1, h2, h3, h4⟩ => ⟨a, xs, e, h1, h2, h3, fun b hb => f b (h4 b hb)⟩
/-- a def by its body's denotation -/
theorem fn_D {P : Program} {w : World} {K : PySem.W.Frag} {mg : Str → Option Value} {base : Heap} {x qual : Str} {st : Stmt} {f : Addr} {fd : FuncData} {N ps : List Str} {k : Nat} {d : DS} (F : Fun K x qual st f fd) (S : FnScope N ps (defScope st)) {nl : Nat} (hN : N.length = ps.length + nl)
    (body : ∀ (cdv : Value) (A : Around) (outer : List Env) (s : Shared) (H : Hp) (E : XK), Room k (A.deeper (envOfC qual (defScope st) s.heap.objs.size f cdv)) →
      PSs (cxOf (L2.CX P w) P w K mg base N qual (defScope st) f cdv A outer s H E) (defBody st) (tDS C (fun cls d _ H => E cls d H) d)) :
    FnOk P w K mg base (L2.CX P w) (k + 1) f fd ps (spD C ps.length (fnD nl d)) := by
  refine F.okX S (fun vs H Q E h => h.1) (fun cdv A outer s H vs Q E hr h => ⟨_, body cdv A outer s H E hr, ?_⟩)
  obtain ⟨hv, ss, G, hs, h⟩ := h
  have hl : ss.length = vs.length := by have := hs.len; rw [List.length_map] at this; exact this
  have es : L2.start N vs = vs.map some ++ List.replicate nl none := by
    unfold L2.start
    rw [hN, hv, Nat.add_sub_cancel_left]
  rw [es]
  refine ⟨ss ++ List.replicate nl .un, G, hs.pad nl, ?_⟩
  unfold fnD at h
  cases q : d (ss ++ List.replicate nl .un) with
  | bad => rw [q] at h; exact h
  | ex y e => rw [q] at h; exact fun cls d σ' H' G' z1 z2 z3 => h cls d σ' H' G' z1 (z2.unpad hl) z3
  | ok f e =>
    rw [q] at h
    intro σ' H' G' z1 z2
    cases f with
    | bk => exact h.elim
    | ct => exact h.elim
    | nx => exact h σ' H' G' z1 (z2.unpad hl) _ rfl
    | rt o => exact fun v ov => h σ' H' G' z1 (z2.unpad hl) v (ov.from fun a z => z.unpad hl)
end

def lentOf : List AV → List Nat
  | [] => []
  | .v _ :: r => lentOf r
  | .l i :: r => i :: lentOf r
def slotOf (e : List Slot) : AV → Option Slot
  | .v t => some (.sh t)
  | .l i => match e[i]? with
    | some (.ol _ ts) => some (.ol true ts)
    | _ => none
def slotsOf (e : List Slot) : List AV → Option (List Slot)
  | [] => some []
  | a :: r => (slotOf e a).bind fun x => (slotsOf e r).map fun xs => x :: xs
def back1 (e : List Slot) (i : Nat) : Slot → List Slot
  | .ol _ ts' => match e[i]? with
    | some (.ol p _) => e.set i (.ol p ts')
    | _ => e
  | _ => e
def putBack (e' : List Slot) : Nat → List AV → List Slot → List Slot
  | _, [], e => e
  | k, .v _ :: r, e => putBack e' (k + 1) r e
  | k, .l i :: r, e => putBack e' (k + 1) r (match e'[k]? with
    | some sl => back1 e i sl
    | none => e)
def nodupB : List Nat → Bool
  | [] => true
  | i :: r => !r.contains i && nodupB r
theorem nodupB_iff {l : List Nat} (h : nodupB l = true) : l.Nodup := by
  induction l with
  | nil => exact List.nodup_nil
  | cons i r ih =>
    unfold nodupB at h
    rw [Bool.and_eq_true, Bool.not_eq_true'] at h
    refine List.nodup_cons.mpr ⟨fun hm => ?_, ih h.2⟩
    have := List.contains_iff_mem.mpr hm
    rw [h.1] at this
    cases this
def mapE {α : Type} (g : List Slot → List Slot) : Res α → Res α
  | .ok a e => .ok a (g e)
  | .ex x e => .ex x (g e)
  | .bad => .bad
def runF (F : DF) (avs : List AV) (e : List Slot) : Res Out := match slotsOf e avs with
  | some ss => if nodupB (lentOf avs) then mapE (fun e' => putBack e' 0 avs e) (F ss) else .bad
  | none => .bad
section
variable {C : VX} {W : WX}
theorem AVs.app {s : S} {dvs : List V} : ∀ {avs : List AV} {vs : List V} {bvs : List AV}, AVs C s avs vs → AVs C s bvs dvs → AVs C s (avs ++ bvs) (vs ++ dvs)
  | [], vs, _, h, k => by
    have e : vs = [] := h
    rw [e]; exact k
  | .v t :: r, _, _, ⟨x, q, e, h1, h2⟩, k => ⟨x, q ++ dvs, by rw [e]; rfl, h1, h2.app k⟩
  | .l i :: r, _, _, ⟨x, q, e, h1, h2⟩, k => ⟨x, q ++ dvs, by rw [e]; rfl, h1, h2.app k⟩
theorem AVs.ofR {s : S} : ∀ {ts : List T} {vs : List V}, Rps C s.G ts vs → AVs C s (ts.map .v) vs
  | [], _, h => h
  | t :: ts, _, ⟨x, q, e, h1, h2⟩ => ⟨x, q, e, h1, AVs.ofR h2⟩
theorem AVs.length {s : S} : ∀ {avs : List AV} {vs : List V}, AVs C s avs vs → vs.length = avs.length
  | [], _, h => by
    have e : _ = [] := h
    rw [e]; rfl
  | .v t :: r, _, ⟨x, q, e, h1, h2⟩ => by rw [e, List.length_cons, List.length_cons, h2.length]
  | .l i :: r, _, ⟨x, q, e, h1, h2⟩ => by rw [e, List.length_cons, List.length_cons, h2.length]
theorem slotsOf_len {e : List Slot} : ∀ {avs : List AV} {ss : List Slot}, slotsOf e avs = some ss → ss.length = avs.length
  | [], ss, h => by cases h; rfl
  | a :: r, ss, h => by
    unfold slotsOf at h
    cases q : slotOf e a with
    | none => rw [q] at h; cases h
    | some x =>
      rw [q] at h
      cases q2 : slotsOf e r with
      | none => rw [q2] at h; cases h
      | some xs => rw [q2] at h; cases h; rw [List.length_cons, List.length_cons, slotsOf_len q2]
/-- what a callee's slot is -/
theorem slotsOf_get {s : S} : ∀ {avs : List AV} {vs : List V} {ss : List Slot} {k : Nat} {sl : Slot}, AVs C s avs vs → slotsOf s.e avs = some ss → ss[k]? = some sl →
    ∃ x, vs[k]? = some x ∧ ((∃ t, avs[k]? = some (.v t) ∧ sl = .sh t ∧ Rp C s.G t x) ∨ ∃ i p ts, avs[k]? = some (.l i) ∧ sl = .ol true ts ∧ s.e[i]? = some (.ol p ts) ∧ s.σ[i]? = some (some x))
  | [], _, ss, k, sl, _, h, h2 => by cases h; cases h2
  | a :: r, vs, ss, k, sl, h1, h, h2 => by
    unfold slotsOf at h
    cases q : slotOf s.e a with
    | none => rw [q] at h; cases h
    | some x =>
      rw [q] at h
      cases q2 : slotsOf s.e r with
      | none => rw [q2] at h; cases h
      | some xs =>
        rw [q2] at h
        cases h
        cases a with
        | v t =>
          obtain ⟨y, w, rfl, z1, z2⟩ := h1
          cases k with
          | zero =>
            cases h2
            cases q
            exact ⟨y, rfl, .inl ⟨t, rfl, rfl, z1⟩⟩
          | succ k =>
            have := slotsOf_get (k := k) z2 q2 (show xs[k]? = some sl from h2)
            exact this
        | l i =>
          obtain ⟨y, w, rfl, z1, z2⟩ := h1
          cases k with
          | zero =>
            cases h2
            unfold slotOf at q
            dsimp only at q
            split at q
            · rename_i p ts hp
              cases q
              exact ⟨y, rfl, .inr ⟨i, p, ts, rfl, rfl, hp, z1⟩⟩
            · cases q
          | succ k =>
            have := slotsOf_get (k := k) z2 q2 (show xs[k]? = some sl from h2)
            exact this
theorem lent_mem : ∀ {avs : List AV} {k i : Nat}, avs[k]? = some (AV.l i) → i ∈ lentOf avs
  | [], k, i, h => by cases h
  | .v t :: r, 0, i, h => by cases h
  | .v t :: r, k + 1, i, h => lent_mem (avs := r) h
  | .l j :: r, 0, i, h => by cases h; exact List.mem_cons_self ..
  | .l j :: r, k + 1, i, h => List.mem_cons_of_mem _ (lent_mem (avs := r) h)
theorem lent_inj : ∀ {avs : List AV} {k m i : Nat}, (lentOf avs).Nodup → avs[k]? = some (.l i) → avs[m]? = some (.l i) → k = m
  | [], k, _, i, _, h, _ => by cases h
  | .v t :: r, 0, _, i, _, h, _ => by cases h
  | .v t :: r, k + 1, 0, i, _, h, h2 => by cases h2
  | .v t :: r, k + 1, m + 1, i, hn, h, h2 => by rw [lent_inj (avs := r) hn h h2]
  | .l j :: r, 0, 0, i, _, h, _ => rfl
  | .l j :: r, k + 1, 0, i, hn, h, h2 => by
    cases h2
    exact absurd (lent_mem (avs := r) h) (List.nodup_cons.mp hn).1
  | .l j :: r, 0, m + 1, i, hn, h, h2 => by
    cases h
    exact absurd (lent_mem (avs := r) h2) (List.nodup_cons.mp hn).1
  | .l j :: r, k + 1, m + 1, i, hn, h, h2 => by rw [lent_inj (avs := r) (List.nodup_cons.mp hn).2 h h2]
/-- .. at the entry -/
theorem Sees.enter {s : S} (hs : Sees C s) {avs : List AV} {vs : List V} {ss : List Slot} (h1 : AVs C s avs vs) (h2 : slotsOf s.e avs = some ss) (hn : (lentOf avs).Nodup) :
    Sees C ⟨ss, vs.map some, s.H, s.G⟩ ∧ ∀ k a, Owns ⟨ss, vs.map some, s.H, s.G⟩ k a → ∃ i, avs[k]? = some (AV.l i) ∧ Owns s i a := by
  have own : ∀ k a, Owns ⟨ss, vs.map some, s.H, s.G⟩ k a → ∃ i, avs[k]? = some (AV.l i) ∧ Owns s i a := by
    rintro k a ⟨sl, v, q1, q2, q3⟩
    obtain ⟨x, z1, z2⟩ := slotsOf_get h1 h2 q1
    rcases z2 with ⟨t, _, rfl, _⟩ | ⟨i, p, ts, z3, rfl, z4, z5⟩
    · exact q3.elim
    · have q2 : (vs.map some)[k]? = some (some v) := q2
      rw [List.getElem?_map, z1] at q2
      cases q2
      exact ⟨i, z3, _, _, z4, z5, q3⟩
  refine ⟨⟨hs.sub, ?_, fun k sl q1 => ?_, fun k a h => ?_, fun k m a q1 q2 => ?_⟩, own⟩
  · show ss.length = (vs.map some).length
    rw [List.length_map, h1.length, slotsOf_len h2]
  · obtain ⟨x, z1, z2⟩ := slotsOf_get h1 h2 q1
    show SlotOk C s.G s.H (vs.map some)[k]? sl
    rw [List.getElem?_map, z1]
    rcases z2 with ⟨t, _, rfl, z3⟩ | ⟨i, p, ts, z3, rfl, z4, z5⟩
    · exact ⟨x, rfl, z3⟩
    · obtain ⟨a, xs, e, y1, y2⟩ := hs.at_ i _ z4
      rw [z5] at e
      cases e
      exact ⟨a, xs, rfl, y1, y2⟩
  · obtain ⟨i, _, h⟩ := own k a h
    exact hs.own i a h
  · obtain ⟨i, y1, y2⟩ := own k a q1
    obtain ⟨j, y3, y4⟩ := own m a q2
    have := hs.inj i j a y2 y4
    subst this
    exact lent_inj hn y1 y3
theorem back1_get {e : List Slot} {i : Nat} {sl : Slot} {j : Nat} : (back1 e i sl)[j]? = e[j]? ∨ (j = i ∧ ∃ p ts ts', e[j]? = some (.ol p ts) ∧ (back1 e i sl)[j]? = some (.ol p ts') ∧ ∃ b, sl = .ol b ts') := by
  unfold back1
  split
  · rename_i b ts'
    split
    · rename_i p ts hp
      by_cases hj : j = i
      · subst hj
        exact .inr ⟨rfl, p, ts, ts', hp, List.getElem?_set_self (List.getElem?_eq_some_iff.mp hp).1, b, rfl⟩
      · exact .inl (List.getElem?_set_ne (Ne.symm hj))
    · exact .inl rfl
  · exact .inl rfl
theorem back1_at {e : List Slot} {i : Nat} {p b : Bool} {ts ts' : List T} (h : e[i]? = some (.ol p ts)) : (back1 e i (.ol b ts'))[i]? = some (.ol p ts') := by
  unfold back1
  dsimp only
  rw [h]
  exact List.getElem?_set_self (List.getElem?_eq_some_iff.mp h).1
theorem putBack_get {e' : List Slot} {j : Nat} : ∀ {avs : List AV} {n : Nat} {e : List Slot}, (∀ k i : Nat, avs[k]? = some (AV.l i) → (∃ p ts, e[i]? = some (Slot.ol p ts)) ∧ ∃ b ts', e'[n + k]? = some (Slot.ol b ts')) →
    ((∀ k : Nat, avs[k]? ≠ some (AV.l j)) ∧ (putBack e' n avs e)[j]? = e[j]?) ∨ ∃ k b p ts ts', avs[k]? = some (AV.l j) ∧ e[j]? = some (Slot.ol p ts) ∧ e'[n + k]? = some (Slot.ol b ts') ∧ (putBack e' n avs e)[j]? = some (Slot.ol p ts')
  | [], n, e, h => .inl ⟨fun k z => (nomatch z), by unfold putBack; rfl⟩
  | .v t :: r, n, e, h => by
    have ih := putBack_get (j := j) (avs := r) (n := n + 1) (e := e) (fun k i q => by
      have := h (k + 1) i q
      rw [show n + 1 + k = n + (k + 1) by omega]
      exact this)
    rcases ih with ⟨z1, z2⟩ | ⟨k, b, p, ts, ts', z1, z2, z3, z4⟩
    · refine .inl ⟨fun k => ?_, z2⟩
      cases k with
      | zero => exact fun z => (nomatch z)
      | succ k => exact z1 k
    · exact .inr ⟨k + 1, b, p, ts, ts', z1, z2, by rw [show n + (k + 1) = n + 1 + k by omega]; exact z3, z4⟩
  | .l i :: r, n, e, h => by
    obtain ⟨⟨p0, ts0, h0⟩, b0, ts0', h0'⟩ := h 0 i rfl
    have e0 : putBack e' n (.l i :: r) e = putBack e' (n + 1) r (back1 e i (.ol b0 ts0')) := by
      show putBack e' (n + 1) r (match e'[n]? with | some sl => back1 e i sl | none => e) = _
      rw [show e'[n]? = some (Slot.ol b0 ts0') from h0']
    rw [e0]
    have step : ∀ m : Nat, (∃ p ts, e[m]? = some (Slot.ol p ts)) → ∃ p ts, (back1 e i (.ol b0 ts0'))[m]? = some (Slot.ol p ts) := by
      rintro m ⟨p, ts, hm⟩
      rcases back1_get (e := e) (i := i) (sl := .ol b0 ts0') (j := m) with q | ⟨_, p, ts, ts', _, q, _⟩
      · rw [q]; exact ⟨p, ts, hm⟩
      · exact ⟨p, ts', q⟩
    have ih := putBack_get (j := j) (avs := r) (n := n + 1) (e := back1 e i (.ol b0 ts0')) (fun k m q => by
      have := h (k + 1) m q
      rw [show n + 1 + k = n + (k + 1) by omega]
      exact ⟨step m this.1, this.2⟩)
    rcases ih with ⟨z1, z2⟩ | ⟨k, b, p, ts, ts', z1, z2, z3, z4⟩
    · by_cases hj : j = i
      · subst hj
        exact .inr ⟨0, b0, p0, ts0, ts0', rfl, h0, h0', z2.trans (back1_at h0)⟩
      · refine .inl ⟨fun k => ?_, ?_⟩
        · cases k with
          | zero =>
            intro z
            cases z
            exact hj rfl
          | succ k => exact z1 k
        · rw [z2]
          rcases back1_get (e := e) (i := i) (sl := .ol b0 ts0') (j := j) with q | ⟨q, _⟩
          · exact q
          · exact absurd q hj
    · have z3' : e'[n + (k + 1)]? = some (Slot.ol b ts') := by rw [show n + (k + 1) = n + 1 + k by omega]; exact z3
      rcases back1_get (e := e) (i := i) (sl := .ol b0 ts0') (j := j) with q | ⟨q, p', ts1, ts1', q1, q2, q3⟩
      · rw [q] at z2
        exact .inr ⟨k + 1, b, p, ts, ts', z1, z2, z3', z4⟩
      · rw [q2] at z2
        cases z2
        exact .inr ⟨k + 1, b, p, ts1, ts', z1, q1, z3', z4⟩
theorem putBack_len {e' : List Slot} : ∀ {avs : List AV} {n : Nat} {e : List Slot}, (putBack e' n avs e).length = e.length
  | [], n, e => rfl
  | .v t :: r, n, e => putBack_len (avs := r)
  | .l i :: r, n, e => by
    refine (putBack_len (avs := r)).trans ?_
    split
    · unfold back1
      split
      · split
        · rw [List.length_set]
        · rfl
      · rfl
    · rfl
/-- behind a call -/
theorem Sees.behind {s s' : S} (hs : Sees C s) {avs : List AV} {vs : List V} {ss : List Slot} (h1 : AVs C s avs vs) (h2 : slotsOf s.e avs = some ss) (hn : (lentOf avs).Nodup) (hs' : Sees C s') (x : Ext ⟨ss, vs.map some, s.H, s.G⟩ s') :
    Sees C ⟨putBack s'.e 0 avs s.e, s.σ, s'.H, s'.G⟩ ∧ Ext s ⟨putBack s'.e 0 avs s.e, s.σ, s'.H, s'.G⟩ ∧ ∀ a, Fresh ⟨ss, vs.map some, s.H, s.G⟩ s' a → Fresh s ⟨putBack s'.e 0 avs s.e, s.σ, s'.H, s'.G⟩ a := by
  obtain ⟨en, ow⟩ := hs.enter h1 h2 hn
  have ss_at : ∀ k i : Nat, avs[k]? = some (AV.l i) → ∃ p ts y, ss[k]? = some (Slot.ol true ts) ∧ s.e[i]? = some (Slot.ol p ts) ∧ vs[k]? = some y ∧ s.σ[i]? = some (some y) := by
    intro k i hk
    have hlt : k < ss.length := by rw [slotsOf_len h2]; exact (List.getElem?_eq_some_iff.mp hk).1
    obtain ⟨y, z1, z2⟩ := slotsOf_get h1 h2 (List.getElem?_eq_getElem hlt)
    rcases z2 with ⟨t, z3, _⟩ | ⟨j, p, ts, z3, z4, z5, z6⟩
    · rw [hk] at z3; cases z3
    · rw [hk] at z3; cases z3
      exact ⟨p, ts, y, by rw [List.getElem?_eq_getElem hlt, z4], z5, z1, z6⟩
  have s'_at : ∀ k i : Nat, avs[k]? = some (AV.l i) → ∃ ts', s'.e[k]? = some (Slot.ol true ts') ∧ s'.σ[k]? = s.σ[i]? := by
    intro k i hk
    obtain ⟨p, ts, y, z1, z2, z3, z4⟩ := ss_at k i hk
    obtain ⟨w1, w2⟩ := x.pin k 0 (by show (ss[k]?).bind _ = _; rw [z1]; rfl)
    have w1 : s'.σ[k]? = (vs.map some)[k]? := w1
    rw [List.getElem?_map, z3] at w1
    cases q : s'.e[k]? with
    | none => rw [q] at w2; exact nomatch w2
    | some sl =>
      rw [q] at w2
      have w2 : sl.pk = some 0 := w2
      cases sl with
      | un => exact nomatch w2
      | sh t => exact nomatch w2
      | oll tss => exact nomatch w2
      | oi c ts => exact nomatch w2
      | ol b ts' =>
        cases b with
        | false => exact nomatch w2
        | true => exact ⟨ts', rfl, by rw [w1, z4]; rfl⟩
  have get := fun j => putBack_get (e' := s'.e) (j := j) (avs := avs) (n := 0) (e := s.e) (fun k i hk => by
    obtain ⟨p, ts, y, z1, z2, z3, z4⟩ := ss_at k i hk
    obtain ⟨ts', w1, _⟩ := s'_at k i hk
    exact ⟨⟨p, ts, z2⟩, true, ts', by rw [Nat.zero_add]; exact w1⟩)
  -- what the caller owns and has not lent stays
  have kp : ∀ j a u, (∀ k : Nat, avs[k]? ≠ some (AV.l j)) → Owns s j a → s.H a = some u → s'.H a = some u := fun j a u hj hO hu =>
    x.keep a u hu fun k hk => by
      obtain ⟨i, z1, z2⟩ := ow k a hk
      have := hs.inj i j a z2 hO
      subst this
      exact hj k z1
  have back : ∀ j a, Owns ⟨putBack s'.e 0 avs s.e, s.σ, s'.H, s'.G⟩ j a → Owns s j a := by
    rintro j a ⟨sl, v, q1, q2, q3⟩
    rcases get j with ⟨z1, z2⟩ | ⟨k, b, p, ts, ts', z1, z2, z3, z4⟩
    · have q1 : s.e[j]? = some sl := z2 ▸ q1
      have h4 := hs.at_ j sl q1
      rw [show s.σ[j]? = some (some v) from q2] at h4
      refine ⟨sl, v, q1, q2, ownsV_back h4 (fun c u hc hu => kp j c u z1 ⟨sl, v, q1, q2, ?_⟩ hu) q3⟩
      cases sl with
      | un => exact q3.elim
      | sh t => exact q3.elim
      | ol p ts => exact hc
      | oi c' ts => exact hc
      | oll tss => exact .inl hc
    · have q1 : (putBack s'.e 0 avs s.e)[j]? = some sl := q1
      rw [z4] at q1
      cases q1
      exact ⟨_, v, z2, q2, q3⟩
  -- what is lent is the callee's at the end
  have lent : ∀ (k j : Nat) (a : Addr), avs[k]? = some (AV.l j) → Owns s j a → Owns s' k a := by
    intro k j a hk hO
    obtain ⟨ts', w1, w2⟩ := s'_at k j hk
    obtain ⟨p, ts, y, z1, z2, z3, z4⟩ := ss_at k j hk
    obtain ⟨sl, v, q1, q2, q3⟩ := hO
    rw [z2] at q1
    cases q1
    exact ⟨_, v, w1, w2.trans q2, q3⟩
  have fresh : ∀ a, (s.H a = none ∨ ∃ k, Owns ⟨ss, vs.map some, s.H, s.G⟩ k a) → (∀ k, ¬ Owns s' k a) → ∀ j, ¬ Owns s j a := by
    intro a h hno j hO
    rcases h with h | ⟨k, hk⟩
    · obtain ⟨u, hu⟩ := hO.here hs
      rw [h] at hu; cases hu
    · obtain ⟨i, z1, z2⟩ := ow k a hk
      exact hno k (lent k i a z1 z2)
  have gno : ∀ j a, Owns s j a → s'.G a = none := by
    intro j a hO
    by_cases hl : ∃ k : Nat, avs[k]? = some (AV.l j)
    · obtain ⟨k, hk⟩ := hl
      exact hs'.own k a (lent k j a hk hO)
    · cases e : s'.G a with
      | none => rfl
      | some u =>
        rcases x.gnew a (by rw [e]; exact fun z => (nomatch z)) with z | z | ⟨k, z⟩
        · exact absurd (hs.own j a hO) z
        · obtain ⟨u, hu⟩ := hO.here hs
          rw [show s.H a = none from z] at hu; cases hu
        · obtain ⟨i, z1, z2⟩ := ow k a z
          have := hs.inj i j a z2 hO
          subst this
          exact absurd ⟨k, z1⟩ hl
  refine ⟨⟨hs'.sub, ?_, fun j sl q1 => ?_, fun j a h => gno j a (back j a h), fun i j a q1 q2 => hs.inj i j a (back i a q1) (back j a q2)⟩, ⟨x.g, fun a u hu hn => x.keep a u hu fun k hk => ?_, fun a h => ?_, fun i a h => .inr ⟨i, back i a h⟩, fun i kk h => ⟨rfl, ?_⟩⟩, fun a f => ⟨f.g, fun j hj => fresh a f.new f.no j (back j a hj), f.new.imp id fun ⟨k, hk⟩ => ?_⟩⟩
  · show (putBack s'.e 0 avs s.e).length = _
    rw [putBack_len]
    exact hs.len
  · show SlotOk C s'.G s'.H s.σ[j]? sl
    have q1 : (putBack s'.e 0 avs s.e)[j]? = some sl := q1
    rcases get j with ⟨z1, z2⟩ | ⟨k, b, p, ts, ts', z1, z2, z3, z4⟩
    · rw [z2] at q1
      have h4 := hs.at_ j sl q1
      have kk : ∀ a u, Owns s j a → s.H a = some u → s'.H a = some u := fun a u => kp j a u z1
      cases sl with
      | un => trivial
      | sh t =>
        obtain ⟨v, e, h⟩ := h4
        exact ⟨v, e, h.mono x.g⟩
      | ol p ts =>
        obtain ⟨a, xs, e, h1', h2⟩ := h4
        exact ⟨a, xs, e, kk a _ ⟨_, _, q1, e, rfl⟩ h1', h2.mono x.g⟩
      | oi c ts =>
        obtain ⟨a, dx, xs, e, h1', h2, h3⟩ := h4
        exact ⟨a, dx, xs, e, kk a _ ⟨_, _, q1, e, rfl⟩ h1', h2, h3.mono x.g⟩
      | oll tss =>
        obtain ⟨a, xs, e, h1', h2, h3, h4⟩ := h4
        exact ⟨a, xs, e, kk a _ ⟨_, _, q1, e, .inl rfl⟩ h1', h2, h3, h4.mono (fun b o hb hB => kk b o ⟨_, _, q1, e, .inr ⟨a, xs, rfl, h1', hb⟩⟩ hB) x.g⟩
    · rw [z4] at q1
      cases q1
      obtain ⟨ts2, w1, w2⟩ := s'_at k j z1
      rw [Nat.zero_add, w1] at z3
      cases z3
      have h4 := hs'.at_ k _ w1
      rw [w2] at h4
      exact h4
  · obtain ⟨i, z1, z2⟩ := ow k a hk
    exact hn i z2
  · rcases x.gnew a h with z | z | ⟨k, z⟩
    · exact .inl z
    · exact .inr (.inl z)
    · obtain ⟨i, z1, z2⟩ := ow k a z
      exact .inr (.inr ⟨i, z2⟩)
  · show ((putBack s'.e 0 avs s.e)[i]?).bind Slot.pk = _
    rcases get i with ⟨z1, z2⟩ | ⟨k, b, p, ts, ts', z1, z2, z3, z4⟩
    · rw [z2]; exact h
    · rw [z4]
      rw [z2] at h
      cases p
      · exact nomatch (show (none : Option Nat) = some kk from h)
      · exact h
  · obtain ⟨i, z1, z2⟩ := ow k a hk
    exact ⟨i, z2⟩
/-- the callee's promise from the caller's state -/
theorem call_of {s s0 : S} {W : WX} {avs : List AV} {vs : List V} {F : DF} {Q : VK} (hs : Sees C s) (x0 : Ext s0 s) (h1 : AVs C s avs vs) (h : SatE C W s (runF F avs s.e) fun o s' => ∀ v, OutOk C s0 s' v o → Q v s'.H) : ∀ np, avs.length = np → spD C np F vs s.H Q (fun cls d H => W cls d s.σ H) := by
  intro np hnp
  refine ⟨by rw [h1.length, hnp], ?_⟩
  unfold runF at h
  split at h
  · rename_i ss h2
    split at h
    · rename_i hb
      have hn := nodupB_iff hb
      obtain ⟨en, ow⟩ := hs.enter h1 h2 hn
      refine ⟨ss, s.G, en, ?_⟩
      cases q : F ss with
      | bad => rw [q] at h; exact h
      | ex y e' =>
        rw [q] at h
        intro cls d σ' H' G' z1 z2 z3
        obtain ⟨b1, b2, b3⟩ := hs.behind h1 h2 hn z1 z2
        exact h cls d H' G' b1 b2 z3
      | ok o e' =>
        rw [q] at h
        intro σ' H' G' z1 z2 v ov
        obtain ⟨b1, b2, b3⟩ := hs.behind h1 h2 hn z1 z2
        exact h H' G' b1 b2 v (OutOk.base x0 (ov.from b3))
    · exact h.elim
  · exact h.elim
end
end L2.VD

namespace L2.VD
open PySem PySem.Spec PyProof.Rows

/-- defaults: their trees, their values -/
structure Defs (C : VX) (ds : List T) (dvs : List V) (us : List Value) : Prop where
  rp : ∀ G, Rps C G ds dvs
  vals : Vals dvs us
theorem Defs.nil {C : VX} : Defs C [] [] [] := ⟨fun _ => rfl, .nil⟩
def dCall (np : Nat) (F : DF) (ds : List T) (dc : DC) : DE := fun e => (dc e).bind fun avs e1 => if Nat.beq (avs ++ ds.map AV.v).length np then runF F (avs ++ ds.map AV.v) e1 else .bad
section
variable {X : Cx} {C : VX} {W : WX} {k np : Nat} {f : Addr} {fd : FuncData} {ps : List Str} {F : DF} {ds : List T} {dvs : List V} {us : List Value} {x : Str} {p pos : Pos} {e : Expr} {es : List Expr} {dc : DC}
theorem e_call (hF : FnOk X.prog X.w X.K X.mg X.base (L2.CX X.prog X.w) k f fd ps (spD C np F)) (hr : Room k X.A) (hm : X.mg x = some (.ref f)) (hk : PySem.W.keepIn X.K (.ref f) = true) (hb : Binds X.K fd ps us) (hd : Defs C ds dvs us)
    (hx : ∀ σ, PassesAt (L2.CX X.prog X.w) X σ (WE W σ)) (ha : PA X (e :: es) (tDC C W dc)) (hg : Gl X x := by rfl) (hdb : (x == ("__debug__" : Str)) = false := by decide)
    (he : starEach (e :: es) X.env = (false, eval e X.env) :: starEach es X.env := by rfl) (hpl : (backTo pos (starEach es X.env)).any (·.1) = false := by rfl) :
    PE X (.Call (.Name x p) (e :: es) [] pos) (tD C W (dCall np F ds dc)) := (pe_callSD hF hr hg hm hk hb hd.vals hx ha hdb he hpl).imp fun σ H Q ⟨e, G, hs, h⟩ => by
  refine tDC_I (s := ⟨e, σ, H, G⟩) hs ((SatE.bind h).mono fun avs s1 hs1 x1 e1 h1 vs rvs => ?_)
  have hσ : s1.σ = σ := e1
  subst hσ
  split at h1
  · rename_i hn
    exact call_of hs1 x1 (rvs.app (AVs.ofR (hd.rp _))) h1 np (Nat.eq_of_beq_eq_true hn)
  · exact h1.elim
theorem e_call0 (hF : FnOk X.prog X.w X.K X.mg X.base (L2.CX X.prog X.w) k f fd ps (spD C np F)) (hr : Room k X.A) (hm : X.mg x = some (.ref f)) (hk : PySem.W.keepIn X.K (.ref f) = true) (hb : Binds X.K fd ps us) (hd : Defs C ds dvs us)
    (hx : ∀ σ, PassesAt (L2.CX X.prog X.w) X σ (WE W σ)) (hg : Gl X x := by rfl) (hdb : (x == ("__debug__" : Str)) = false := by decide) :
    PE X (.Call (.Name x p) [] [] pos) (tD C W (dCall np F ds cNil)) := by
  have base : PE X (.Call (.Name x p) [] [] pos) (fun σ H Q => spD C np F dvs H Q (WE W σ)) := by
    refine ⟨fun pins s σ H Q I h => ?_⟩
    refine wpAny_Call_Name_kw (ld_glob I hg hm ?_ hdb)
    exact PySem.W.callWith_K0 I.kIn hk (run_fnSD (us := []) (vs := []) hF hr hb hd.vals (hx σ) I .nil h)
  refine base.imp fun σ H Q ⟨e, G, hs, h⟩ => ?_
  unfold dCall cNil at h
  have h : SatE C W ⟨e, σ, H, G⟩ (if Nat.beq (([] : List AV) ++ ds.map AV.v).length np then runF F ([] ++ ds.map AV.v) e else .bad) (fun o s' => ∀ v, OutOk C ⟨e, σ, H, G⟩ s' v o → Q v s'.H) := h
  split at h
  · rename_i hn
    have := call_of (s := ⟨e, σ, H, G⟩) (vs := [] ++ dvs) hs (Ext.refl _) ((show AVs C ⟨e, σ, H, G⟩ [] [] from rfl).app (AVs.ofR (hd.rp _))) h np (Nat.eq_of_beq_eq_true hn)
    exact this
  · exact h.elim
end

theorem zip_get {f : Str} : ∀ {ns : List Str} {xs : List V} {k : Nat}, ns[k]? = some f → f ∉ ns.take k → (ns.zip xs).lookup f = xs[k]?
  | [], xs, k, h, _ => by simp at h
  | n :: ns, [], k, h, _ => rfl
  | n :: ns, x :: xs, 0, h, _ => by
    have e : n = f := by simpa using h
    subst e
    show List.lookup n ((n, x) :: ns.zip xs) = some x
    rw [List.lookup_cons_self]
  | n :: ns, x :: xs, k + 1, h, hn => by
    have e : ns[k]? = some f := by simpa using h
    rw [List.take_succ_cons] at hn
    have hne : (f == n) = false := by
      rw [beq_eq_false_iff_ne]
      exact fun q => hn (by rw [q]; exact List.mem_cons_self ..)
    show List.lookup f ((n, x) :: ns.zip xs) = xs[k]?
    rw [List.lookup_cons, hne]
    exact zip_get e fun q => hn (List.mem_cons_of_mem _ q)
theorem zip_none {f : Str} : ∀ {ns : List Str} {xs : List V}, f ∉ ns → (ns.zip xs).lookup f = none
  | [], xs, _ => rfl
  | n :: ns, [], _ => rfl
  | n :: ns, x :: xs, hn => by
    have hne : (f == n) = false := by
      rw [beq_eq_false_iff_ne]
      exact fun q => hn (by rw [q]; exact List.mem_cons_self ..)
    show List.lookup f ((n, x) :: ns.zip xs) = none
    rw [List.lookup_cons, hne]
    exact zip_none fun q => hn (List.mem_cons_of_mem _ q)
theorem zip_put {f : Str} {y : V} : ∀ {ns : List Str} {xs : List V} {k : Nat}, xs.length = k → ns[k]? = some f → f ∉ ns.take k → putF f y (ns.zip xs) = ns.zip (xs ++ [y])
  | [], xs, k, _, h, _ => by simp at h
  | n :: ns, [], k, hk, h, _ => by
    subst hk
    have e : n = f := by simpa using h
    subst e
    show [(n, y)] = (n, y) :: ns.zip []
    rw [List.zip_nil_right]
  | n :: ns, x :: xs, k, hk, h, hn => by
    subst hk
    have e : ns[xs.length]? = some f := by simpa using h
    have hn' : f ∉ List.take (xs.length + 1) (n :: ns) := hn
    rw [List.take_succ_cons] at hn'
    have hne : n ≠ f := fun q => hn' (by rw [q]; exact List.mem_cons_self ..)
    show putF f y ((n, x) :: ns.zip xs) = (n, x) :: ns.zip (xs ++ [y])
    rw [show putF f y ((n, x) :: ns.zip xs) = (if n = f then (n, y) :: ns.zip xs else (n, x) :: putF f y (ns.zip xs)) from rfl, if_neg hne]
    rw [zip_put rfl e fun q => hn' (List.mem_cons_of_mem _ q)]

/-- where the field f lies, by class -/
structure FldTbl (C : VX) (f : Str) (fi : Nat → Option Nat) : Prop where
  ok : ∀ c k, fi c = some k → Cls C.K (C.ca c) ∧ NoAttr C.K (C.ca c) f ∧ (C.cf c)[k]? = some f ∧ f ∉ (C.cf c).take k
def dFld (fi : Nat → Option Nat) (da : DE) : DE := fun e => (da e).bind fun o e1 => match o.t with
  | .obj c ts => Res.of (((fi c).bind fun k => ts[k]?).map .sh) e1
  | _ => .bad
/-- self.f = a, the next field of an instance in the making -/
def dSetF (i : Nat) (fi : Nat → Option Nat) (da : DE) : DS := fun e => (da e).bind fun o e1 => match e1[i]? with
  | some (.oi c ts) => match fi c with
    | some k => if Nat.beq ts.length k && decide (k < 900) then .ok .nx (e1.set i (.oi c (ts ++ [o.t]))) else .bad
    | none => .bad
  | _ => .bad
section
variable {X : Cx} {C : VX} {W : WX} {a o : Expr} {da : DE} {f : Str} {fi : Nat → Option Nat} {pos pos' npos : Pos}
theorem e_fld (he : PE X a (tD C W da)) (ht : FldTbl C f fi) (hb : attributeBase a f X.env (eval a X.env) = eval a X.env := by rfl) (hK : C.K = X.K := by rfl) : PE X (.Attribute a f pos) (tD C W (dFld fi da)) := (pe_fld he hb).imp fun σ H Q ⟨e, G, hs, h⟩ => by
  refine tD_T (s := ⟨e, σ, H, G⟩) hs ((SatE.bind h).mono fun y s1 hs1 x1 e1 h1 v rv => ?_)
  have h1 : SatE C W s1 (match y.t with | .obj c ts => Res.of (((fi c).bind fun k => ts[k]?).map Out.sh) s1.e | _ => .bad) (fun o s' => ∀ v, OutOk C ⟨e, σ, H, G⟩ s' v o → Q v s'.H) := h1
  split at h1
  · rename_i c ts hy
    rw [hy] at rv
    obtain ⟨b, dx, xs, rfl, r1, r2, r3⟩ := rv
    obtain ⟨u, hu, k1⟩ := SatE.of h1
    cases q : fi c with
    | none => rw [q] at hu; exact nomatch hu
    | some k =>
      rw [q] at hu
      have hu : (ts[k]?).map Out.sh = some u := hu
      cases q2 : ts[k]? with
      | none => rw [q2] at hu; exact nomatch hu
      | some t =>
        rw [q2] at hu
        cases hu
        obtain ⟨z1, z2, z3, z4⟩ := ht.ok c k q
        obtain ⟨w, w1, w2⟩ := r3.get q2
        refine ⟨b, C.ca c, dx, _, w, rfl, hs1.sub _ _ r1, by rw [← hK]; exact z1, by rw [← hK]; exact z2, (zip_get z3 z4).trans w1, ?_⟩
        exact k1 s1.H s1.G hs1 (Ext.refl _) w w2
  · exact h1.elim
theorem s_setF (i : Nat) {x : Str} (hv : PE X a (tD C W da)) (ht : FldTbl C f fi) (hN : X.N[i]? = some x := by rfl) (hvv : Vis X.env.scope x := by first | exact Or.inl rfl | exact Or.inr (Or.inl rfl) | exact Or.inr (Or.inr rfl)) (hd : (x == ("__debug__" : Str)) = false := by decide) (hcd : (x == ("__classdict__" : Str)) = false := by decide)
    (hs : swapsWith a (some (.Attribute (.Name x npos) f pos')) pos.line X.env = pure false := by rfl) (hK : C.K = X.K := by rfl) : PS X (.Assign [.Attribute (.Name x npos) f pos'] a pos) (tDS C W (dSetF i fi da)) := (ps_fld (pv i hN hvv hd hcd) hv hs).imp fun D σ H ⟨e, G, hs, h⟩ => by
  refine tD_T (s := ⟨e, σ, H, G⟩) hs ((SatS.bind h).mono fun y s1 hs1 x1 e1 h1 v rv => ?_)
  have hσ : s1.σ = σ := e1
  subst hσ
  have h1 : SatS C W s1 (match s1.e[i]? with | some (.oi c ts) => (match fi c with | some k => if Nat.beq ts.length k && decide (k < 900) then Res.ok Fl.nx (s1.e.set i (.oi c (ts ++ [y.t]))) else .bad | none => .bad) | _ => .bad) D := h1
  split at h1
  · rename_i c ts hi
    split at h1
    · rename_i k' hk'
      split at h1
      · rename_i hz
        rw [Bool.and_eq_true] at hz
        obtain ⟨b, dx, xs, q1, q2, q3, q4⟩ := hs1.at_ i _ hi
        obtain ⟨z1, z2, z3, z4⟩ := ht.ok c k' hk'
        have hl : xs.length = k' := by rw [q4.length]; exact Nat.eq_of_beq_eq_true hz.1
        have h9 : k' < 900 := of_decide_eq_true hz.2
        refine ⟨.ref b, q1, b, C.ca c, dx, _, rfl, q2, by rw [← hK]; exact z1, by rw [← hK]; exact z2, ?_, ?_⟩
        · rw [List.length_zip]; omega
        · rw [zip_put hl z3 z4]
          have hO : Owns s1 i b := ⟨_, _, hi, q1, rfl⟩
          have hG := hs1.own i b hO
          have hlt : k' < (C.cf c).length := (List.getElem?_eq_some_iff.mp z3).1
          obtain ⟨y1, y2⟩ := hs1.slot (i := i) (sl := .oi c (ts ++ [y.t])) (H' := upd s1.H b (.ins (C.ca c) dx ((C.cf c).zip (xs ++ [v])))) (G' := s1.G) ⟨_, q1⟩ (fun a' o hb hn => by
              rw [upd_ne fun e => hn (by rw [e]; exact hO)]
              exact hb) (fun _ _ h => h) (fun a' o hb => by
              rw [upd_ne fun e => by rw [e, hG] at hb; cases hb]
              exact hs1.sub a' o hb) ⟨b, dx, xs ++ [v], q1, upd_same, by rw [List.length_append, hl]; exact hlt, q4.append (Rps.cons rv Rps.nil)⟩ (fun v' b' hv' hb' => by
              rw [q1] at hv'
              cases hv'
              cases (show V.ref b = V.ref b' from hb')
              exact ⟨hO, hG⟩) (fun a' ha' => .inl ha') (fun kk h0 => by
              rw [hi] at h0
              exact h0)
          exact h1 s1.σ _ s1.G y1 y2
      · exact h1.elim
    · exact h1.elim
  · exact h1.elim
end
end L2.VD

namespace L2.VD
open PySem PySem.Spec PyProof.Rows

def runN (np : Nat) (F : DF) (avs : List AV) (e : List Slot) : Res Out := if Nat.beq avs.length np then runF F avs e else .bad
theorem call_ofN {C : VX} {s s0 : S} {W : WX} {avs : List AV} {vs : List V} {F : DF} {Q : VK} {np : Nat} (hs : Sees C s) (x0 : Ext s0 s) (h1 : AVs C s avs vs) (h : SatE C W s (runN np F avs s.e) fun o s' => ∀ v, OutOk C s0 s' v o → Q v s'.H) : spD C np F vs s.H Q (fun cls d H => W cls d s.σ H) := by
  unfold runN at h
  split at h
  · rename_i hn
    exact call_of hs x0 h1 h np (Nat.eq_of_beq_eq_true hn)
  · exact h.elim
structure ME where
  np : Nat
  F : DF
  ds : List T
/-- the class c's method m is me -/
structure MOk (X : Cx) (C : VX) (m : Str) (c : Nat) (me : ME) : Prop where
  ex : ∃ f fd ps k dvs us, Cls X.K (C.ca c) ∧ Meth X.K (C.ca c) m f ∧ FnOk X.prog X.w X.K X.mg X.base (L2.CX X.prog X.w) k f fd ps (spD C me.np me.F) ∧ Room k X.A ∧ Binds X.K fd ps us ∧ Defs C me.ds dvs us
  no : m ∉ C.cf c
def dMeth (tbl : Nat → Option ME) (da : DE) (dc : DC) : DE := fun e => (da e).bind fun o e1 => match o.t with
  | .obj c ts => match tbl c with
    | some me => (dc e1).bind fun avs e2 => runN me.np me.F (.v (.obj c ts) :: (avs ++ me.ds.map AV.v)) e2
    | none => .bad
  | _ => .bad
def tMethD (X : Cx) (C : VX) (W : WX) (m : Str) (tbl : Nat → Option ME) (ta : TE) (t : TA) : TE := fun σ H Q => ta σ H fun x H1 => ∃ a c dx fs me, x = .ref a ∧ H1 a = some (.ins (C.ca c) dx fs) ∧ fs.lookup m = none ∧ tbl c = some me ∧
  t σ H1 fun vs H2 => ∀ dvs, (∀ G, Rps C G me.ds dvs) → spD C me.np me.F (x :: (vs ++ dvs)) H2 Q (WE W σ)
section
variable {X : Cx} {C : VX} {W : WX} {o e : Expr} {es : List Expr} {m : Str} {da : DE} {dc : DC} {tbl : Nat → Option ME} {apos pos : Pos}
theorem pe_methD {ta : TE} {t : TA} {pl : Sem Bool} (he : PE X o ta) (ht : ∀ c me, tbl c = some me → MOk X C m c me) (hx : ∀ σ, PassesAt (L2.CX X.prog X.w) X σ (WE W σ)) (ha : PA X (e :: es) t)
    (hst : starEach (e :: es) X.env = (false, eval e X.env) :: starEach es X.env) (hpl : (backTo pos (starEach es X.env)).any (·.1) = false)
    (hev : eval (.Call (.Attribute o m apos) (e :: es) [] pos) X.env = (do
      let ov ← eval o X.env
      standAt apos.atName
      let (f, first) ← holding [ov] (getMethod ov m pl)
      callWith pos f first (backTo pos (starEach (e :: es) X.env)) (backToKw pos (keywordEach [] X.env)))) :
    PE X (.Call (.Attribute o m apos) (e :: es) [] pos) (tMethD X C W m tbl ta t) := by
  refine ⟨fun pins s σ H Q I h => ?_⟩
  refine PySem.W.methodCall_KW (pl := pl) (thn (he.run pins s σ H _ I h) fun u s1 ⟨x, H1, I1, rx, a, c, dx, fs, me, ex, ea, l, tb, q⟩ => ?_) hev
  subst ex
  obtain rfl : u = Value.ref a := rx
  obtain ⟨f, fd, ps, k, dvs, us', c1, c2, c3, c4, c5, c6⟩ := (ht c me tb).ex
  refine getmeth_ok I1 ea c1 c2 l ?_
  refine PySem.W.callWith_K (first := [.ref a]) (h₀ := X.base) I.ok.mod.kin c2.kp (thn (ha.run pos pins s1 σ H1 _ I1 q) fun us s2 ⟨vs, H2, I2, r, q2⟩ => ⟨I2.kIn, ?_⟩) hst hpl
  exact run_fnSD (us := .ref a :: us) (vs := .ref a :: vs) c3 c4 c5 c6.vals (hx σ) I2 (.cons rfl r) (q2 dvs c6.rp)
theorem pe_methD0 {ta : TE} {pl : Sem Bool} (he : PE X o ta) (ht : ∀ c me, tbl c = some me → MOk X C m c me) (hx : ∀ σ, PassesAt (L2.CX X.prog X.w) X σ (WE W σ))
    (hev : eval (.Call (.Attribute o m apos) [] [] pos) X.env = (do
      let ov ← eval o X.env
      standAt apos.atName
      let (f, first) ← holding [ov] (getMethod ov m pl)
      callWith pos f first (backTo pos (starEach [] X.env)) (backToKw pos (keywordEach [] X.env)))) :
    PE X (.Call (.Attribute o m apos) [] [] pos) (tMethD X C W m tbl ta tNil) := by
  refine ⟨fun pins s σ H Q I h => ?_⟩
  refine PySem.W.methodCall_KW (pl := pl) (thn (he.run pins s σ H _ I h) fun u s1 ⟨x, H1, I1, rx, a, c, dx, fs, me, ex, ea, l, tb, q⟩ => ?_) hev
  subst ex
  obtain rfl : u = Value.ref a := rx
  obtain ⟨f, fd, ps, k, dvs, us', c1, c2, c3, c4, c5, c6⟩ := (ht c me tb).ex
  refine getmeth_ok I1 ea c1 c2 l ?_
  exact PySem.W.callWith_K0 (first := [.ref a]) I1.kIn c2.kp (run_fnSD (us := [.ref a]) (vs := [.ref a]) c3 c4 c5 c6.vals (hx σ) I1 (.cons rfl .nil) (q dvs c6.rp))
theorem tMethD_of (ht : ∀ c me, tbl c = some me → MOk X C m c me) {σ : St} {H : Hp} {Q : VK} (h : tD C W (dMeth tbl da dc) σ H Q) : tMethD X C W m tbl (tD C W da) (tDC C W dc) σ H Q := by
  obtain ⟨e, G, hs, h⟩ := h
  refine tD_T (s := ⟨e, σ, H, G⟩) hs ((SatE.bind h).mono fun y s1 hs1 x1 e1 h1 v rv => ?_)
  have hσ : s1.σ = σ := e1
  subst hσ
  have h1 : SatE C W s1 (match y.t with | .obj c ts => (match tbl c with | some me => (dc s1.e).bind fun avs e2 => runN me.np me.F (AV.v (.obj c ts) :: (avs ++ me.ds.map AV.v)) e2 | none => .bad) | _ => .bad) (fun o s' => ∀ v, OutOk C ⟨e, s1.σ, H, G⟩ s' v o → Q v s'.H) := h1
  split at h1
  · rename_i c ts hy
    rw [hy] at rv
    split at h1
    · rename_i me hme
      have rv0 := rv
      obtain ⟨b, dx, xs, rfl, r1, r2, r3⟩ := rv
      refine ⟨b, c, dx, _, me, rfl, hs1.sub _ _ r1, zip_none (ht c me hme).no, hme, ?_⟩
      refine tDC_I hs1 ((SatE.bind h1).mono fun avs s2 hs2 x2 e2 h2 vs rvs => ?_)
      intro dvs hd
      have hav : AVs C s2 (AV.v (.obj c ts) :: (avs ++ me.ds.map AV.v)) (.ref b :: (vs ++ dvs)) := ⟨_, _, rfl, rv0.mono x2.g, rvs.app (AVs.ofR (hd _))⟩
      have := call_ofN hs2 (x1.trans x2) hav h2
      rw [e2] at this
      exact this
    · exact h1.elim
  · exact h1.elim
theorem e_meth {pl : Sem Bool} (he : PE X o (tD C W da)) (ht : ∀ c me, tbl c = some me → MOk X C m c me) (hx : ∀ σ, PassesAt (L2.CX X.prog X.w) X σ (WE W σ)) (ha : PA X (e :: es) (tDC C W dc))
    (hst : starEach (e :: es) X.env = (false, eval e X.env) :: starEach es X.env := by rfl) (hpl : (backTo pos (starEach es X.env)).any (·.1) = false := by rfl)
    (hev : eval (.Call (.Attribute o m apos) (e :: es) [] pos) X.env = (do
      let ov ← eval o X.env
      standAt apos.atName
      let (f, first) ← holding [ov] (getMethod ov m pl)
      callWith pos f first (backTo pos (starEach (e :: es) X.env)) (backToKw pos (keywordEach [] X.env))) := by rfl) :
    PE X (.Call (.Attribute o m apos) (e :: es) [] pos) (tD C W (dMeth tbl da dc)) := (pe_methD he ht hx ha hst hpl hev).imp fun σ H Q h => tMethD_of ht h
theorem e_meth0 {pl : Sem Bool} (he : PE X o (tD C W da)) (ht : ∀ c me, tbl c = some me → MOk X C m c me) (hx : ∀ σ, PassesAt (L2.CX X.prog X.w) X σ (WE W σ))
    (hev : eval (.Call (.Attribute o m apos) [] [] pos) X.env = (do
      let ov ← eval o X.env
      standAt apos.atName
      let (f, first) ← holding [ov] (getMethod ov m pl)
      callWith pos f first (backTo pos (starEach [] X.env)) (backToKw pos (keywordEach [] X.env))) := by rfl) :
    PE X (.Call (.Attribute o m apos) [] [] pos) (tD C W (dMeth tbl da cNil)) := (pe_methD0 he ht hx hev).imp fun σ H Q h => by
  obtain ⟨e, G, hs, h⟩ := h
  have h2 := tMethD_of ht (⟨e, G, hs, h⟩ : tD C W (dMeth tbl da cNil) σ H Q)
  obtain ⟨e2, G2, hs2, h3⟩ := h2
  refine ⟨e2, G2, hs2, h3.mono fun y s1 hs1 x1 e1 h1 v rv => ?_⟩
  obtain ⟨a, c, dx, fs, me, q1, q2, q3, q4, q5⟩ := h1 v rv
  refine ⟨a, c, dx, fs, me, q1, q2, q3, q4, ?_⟩
  obtain ⟨e4, G4, hs4, h4⟩ := q5
  exact h4 s1.H G4 hs4 (Ext.refl _) [] rfl
end

/-- class c with nf fields; F: its __init__ -/
def mkEnd (c nf : Nat) (e1 : List Slot) (r : Res Out) : Res Out := match r with
  | .ok (.sh .non) e' => match (e'[0]? : Option Slot) with
    | some (Slot.oi _ fs) => if Nat.beq fs.length nf then .ok (.sh (.obj c fs)) e1 else .bad
    | _ => .bad
  | .ex x _ => .ex x e1
  | _ => .bad
def dMake (c nf np : Nat) (F : DF) (ds : List T) (da : DA) : DE := fun e => (da e).bind fun ts e1 => if Nat.beq ((ts ++ ds).length + 1) np then mkEnd c nf e1 (F (.oi c [] :: (ts ++ ds).map .sh)) else .bad
def tMakeD (K : Addr) (sp : Sp) (dvs : List V) (E : St → XK) (t : TA) : TE := fun σ H Q => t σ H fun vs H1 => ∀ x dx, H1 x = none → H1 dx = none → dx ≠ x →
  sp (.ref x :: (vs ++ dvs)) (upd (upd H1 dx (.own x)) x (.ins K dx [])) (fun v H2 => v = .non ∧ Q (.ref x) H2) (E σ)
section
variable {X : Cx} {C : VX} {W : WX} {c nf np k : Nat} {f cA : Addr} {fd : FuncData} {ps : List Str} {F : DF} {ds : List T} {dvs : List V} {us : List Value} {x : Str} {p pos : Pos} {e : Expr} {es : List Expr} {da : DA} {sp : Sp} {E : St → XK} {t : TA}
theorem run_makeS {pins : List (Addr × Obj)} {σ : St} {H : Hp} {s : Shared} {Q : VK} {uu : List Value} {vs : List V} (M : Mk X.K cA f) (hF : FnOk X.prog X.w X.K X.mg X.base (L2.CX X.prog X.w) k f fd ps sp) (hr : Room (k + 1) X.A) (hb : Binds X.K fd ps us) (hd : Vals dvs us)
    (hx : PassesAt (L2.CX X.prog X.w) X σ (E σ)) (I : Inv X pins σ H s) (r : Vals vs uu)
    (h : ∀ x dx, H x = none → H dx = none → dx ≠ x → sp (.ref x :: (vs ++ dvs)) (upd (upd H dx (.own x)) x (.ins cA dx [])) (fun v H2 => v = .non ∧ Q (.ref x) H2) (E σ)) :
    wpAny (model X.prog X.w) X.A (call (.ref cA) uu) (EP X pins σ Q) X.xe s := by
  have hq := h (s.heap.objs.size + 1) s.heap.objs.size (I.hok.fresh (Nat.le_succ _)) (I.hok.fresh (Nat.le_refl _)) (Nat.ne_of_lt (Nat.lt_succ_self _))
  have I2 := Inv.made (C := cA) I
  have r2 : Vals (V.ref (s.heap.objs.size + 1) :: (vs ++ dvs)) (Value.ref (s.heap.objs.size + 1) :: (uu ++ us)) := .cons rfl (r.append hd)
  have hl : (Value.ref (s.heap.objs.size + 1) :: uu ++ us).length = ps.length := by
    have e := r2.length
    rw [hF.len _ _ _ _ hq] at e
    exact e.symm
  refine wpAny_call (make_map (f := f) I.kIn M.makes M.init (beq_iff_eq.mp M.fn) (codeAny_mono (hF.run _ X.stack _ _ ⟨Value.ref (s.heap.objs.size + 1) :: uu, []⟩ (Value.ref (s.heap.objs.size + 1) :: (uu ++ us)) _ _ (E σ) (hr.make cA uu [])
    (I2.env0.make cA uu []) (hb _ (Value.ref (s.heap.objs.size + 1) :: uu) I2.kIn hl) r2 hq) fun r s' hq' => ?_))
  cases r with
  | error e => exact hx pins _ _ e s' I2 hq'
  | ok fl =>
    cases fl with
    | ret u =>
      obtain ⟨v, H', I3, rv, ev, q3⟩ := I2.after hq'
      subst ev
      exact ⟨rv, ⟨V.ref (s.heap.objs.size + 1), H', I3, rfl, q3⟩⟩
    | next => exact False.elim hq'
    | brk => exact False.elim hq'
    | cont => exact False.elim hq'
theorem pe_makeS (M : Mk X.K cA f) (hF : FnOk X.prog X.w X.K X.mg X.base (L2.CX X.prog X.w) k f fd ps sp) (hr : Room (k + 1) X.A) (hg : Gl X x) (hm : X.mg x = some (.ref cA)) (hb : Binds X.K fd ps us) (hd : Vals dvs us) (hx : ∀ σ, PassesAt (L2.CX X.prog X.w) X σ (E σ))
    (ha : PA X (e :: es) t) (hdb : (x == ("__debug__" : Str)) = false) (he : starEach (e :: es) X.env = (false, eval e X.env) :: starEach es X.env) (hpl : (backTo pos (starEach es X.env)).any (·.1) = false) :
    PE X (.Call (.Name x p) (e :: es) [] pos) (tMakeD cA sp dvs E t) := by
  refine ⟨fun pins s σ H Q I h => ?_⟩
  refine wpAny_Call_Name_kw (ld_glob I hg hm ?_ hdb)
  refine PySem.W.callWith_K (h₀ := X.base) I.ok.mod.kin M.kp (thn (ha.run pos pins s σ H _ I h) fun us s1 ⟨vs, H1, I1, r, q⟩ => ⟨I1.kIn, ?_⟩) he hpl
  exact run_makeS M hF hr hb hd (hx σ) I1 r q
theorem Rps.sh {C : VX} {G : Hp} : ∀ {ts : List T} {xs : List V} {k : Nat} {sl : Slot}, Rps C G ts xs → (ts.map Slot.sh)[k]? = some sl → ∃ t y, sl = .sh t ∧ xs[k]? = some y ∧ Rp C G t y := by
  intro ts xs k sl h q
  rw [List.getElem?_map] at q
  cases z : ts[k]? with
  | none => rw [z] at q; exact nomatch q
  | some t =>
    rw [z] at q
    cases q
    obtain ⟨y, h1, h2⟩ := h.get z
    exact ⟨t, y, rfl, h1, h2⟩
theorem e_make (M : Mk X.K (C.ca c) f) (hF : FnOk X.prog X.w X.K X.mg X.base (L2.CX X.prog X.w) k f fd ps (spD C np F)) (hr : Room (k + 1) X.A) (hm : X.mg x = some (.ref (C.ca c))) (hb : Binds X.K fd ps us) (hd : Defs C ds dvs us) (hn : (C.cf c).length = nf)
    (hx : ∀ σ, PassesAt (L2.CX X.prog X.w) X σ (WE W σ)) (ha : PA X (e :: es) (tDA C W da)) (hg : Gl X x := by rfl) (hdb : (x == ("__debug__" : Str)) = false := by decide) (he : starEach (e :: es) X.env = (false, eval e X.env) :: starEach es X.env := by rfl) (hpl : (backTo pos (starEach es X.env)).any (·.1) = false := by rfl) :
    PE X (.Call (.Name x p) (e :: es) [] pos) (tD C W (dMake c nf np F ds da)) := (pe_makeS M hF hr hg hm hb hd.vals hx ha hdb he hpl).imp fun σ H Q ⟨e, G, hs, h⟩ => by
  refine tDA_I (s := ⟨e, σ, H, G⟩) hs ((SatE.bind h).mono fun ts s1 hs1 x1 e1 h1 vs rvs => ?_)
  have hσ : s1.σ = σ := e1
  subst hσ
  intro y dx hy hdx hne
  have h1 : SatE C W s1 (if Nat.beq ((ts ++ ds).length + 1) np then mkEnd c nf s1.e (F (.oi c [] :: (ts ++ ds).map .sh)) else .bad) (fun o s' => ∀ v, OutOk C ⟨e, s1.σ, H, G⟩ s' v o → Q v s'.H) := h1
  by_cases hnp : Nat.beq ((ts ++ ds).length + 1) np = true
  case neg => rw [if_neg hnp] at h1; exact h1.elim
  rw [if_pos hnp] at h1
  have hnp := Nat.eq_of_beq_eq_true hnp
  have rall : Rps C s1.G (ts ++ ds) (vs ++ dvs) := rvs.append (hd.rp _)
  -- the state at __init__'s entry
  have u1 : ∀ a o, s1.H a = some o → upd (upd s1.H dx (.own y)) y (.ins (C.ca c) dx []) a = some o := fun a o ho => by
    have n1 : a ≠ y := fun q => by rw [q, hy] at ho; cases ho
    have n2 : a ≠ dx := fun q => by rw [q, hdx] at ho; cases ho
    rw [upd_ne n1, upd_ne n2]
    exact ho
  have gy : s1.G y = none := hs1.gnone hy
  have ownE : ∀ i a, Owns ⟨.oi c [] :: (ts ++ ds).map .sh, (V.ref y :: (vs ++ dvs)).map some, upd (upd s1.H dx (.own y)) y (.ins (C.ca c) dx []), s1.G⟩ i a → i = 0 ∧ a = y := by
    rintro i a ⟨sl, v, q1, q2, q3⟩
    cases i with
    | zero =>
      have q1 : Slot.oi c [] = sl := Option.some.inj q1
      subst q1
      have q2 : (some (V.ref y)) = some v := Option.some.inj q2
      cases q2
      cases (show V.ref y = V.ref a from q3)
      exact ⟨rfl, rfl⟩
    | succ i =>
      obtain ⟨t', y', rfl, _⟩ := rall.sh (k := i) q1
      exact q3.elim
  have en : Sees C ⟨.oi c [] :: (ts ++ ds).map .sh, (V.ref y :: (vs ++ dvs)).map some, upd (upd s1.H dx (.own y)) y (.ins (C.ca c) dx []), s1.G⟩ := by
    refine ⟨fun a o ho => u1 a o (hs1.sub a o ho), ?_, fun i sl q1 => ?_, fun i a h => ?_, fun i j a q1 q2 => ?_⟩
    · show (_ :: _).length = (List.map some (_ :: _)).length
      rw [List.length_map, List.length_cons, List.length_cons, List.length_map, rall.length]
    · cases i with
      | zero =>
        have q1 : Slot.oi c [] = sl := Option.some.inj q1
        subst q1
        refine ⟨y, dx, [], rfl, ?_, Nat.zero_le _, rfl⟩
        show upd _ y _ y = _
        rw [List.zip_nil_right]
        exact upd_same
      | succ i =>
        obtain ⟨t', y', rfl, q2, q3⟩ := rall.sh (k := i) q1
        refine ⟨y', ?_, q3⟩
        show ((V.ref y :: (vs ++ dvs)).map some)[i + 1]? = _
        rw [List.map_cons, List.getElem?_cons_succ, List.getElem?_map, q2]
        rfl
    · obtain ⟨_, rfl⟩ := ownE i a h
      exact gy
    · rw [(ownE i a q1).1, (ownE j a q2).1]
  refine ⟨by rw [List.length_cons, ← hnp, rall.length], _, s1.G, en, ?_⟩
  -- what holds behind it
  have later : ∀ (e' : List Slot) (σ' : St) (H' G' : Hp), Sees C ⟨e', σ', H', G'⟩ → Ext ⟨.oi c [] :: (ts ++ ds).map .sh, (V.ref y :: (vs ++ dvs)).map some, upd (upd s1.H dx (.own y)) y (.ins (C.ca c) dx []), s1.G⟩ ⟨e', σ', H', G'⟩ →
      ∀ G2, (∀ a o, G' a = some o → G2 a = some o) → (∀ a o, G2 a = some o → H' a = some o) → (∀ a, G2 a ≠ none → G' a ≠ none ∨ a = y) → Sees C ⟨s1.e, s1.σ, H', G2⟩ ∧ Ext s1 ⟨s1.e, s1.σ, H', G2⟩ := by
    intro e' σ' H' G' z1 z2 G2 g1 g2 g3
    refine hs1.grow (fun a o ho => ?_) (fun a o ho => g1 a o (z2.g a o ho)) g2 (fun a ha => ?_)
    · refine z2.keep a o (u1 a o ho) fun i hi => ?_
      obtain ⟨_, rfl⟩ := ownE i a hi
      rw [hy] at ho; cases ho
    · rcases g3 a ha with g | rfl
      · rcases z2.gnew a g with q | q | ⟨i, q⟩
        · exact .inl q
        · right
          cases ho : s1.H a with
          | none => rfl
          | some o =>
            have := u1 a o ho
            rw [show upd (upd s1.H dx (.own y)) y (.ins (C.ca c) dx []) a = none from q] at this
            cases this
        · obtain ⟨_, rfl⟩ := ownE i a q
          exact .inr hy
      · exact .inr hy
  cases q : F (.oi c [] :: (ts ++ ds).map .sh) with
  | bad => rw [q] at h1; exact h1
  | ex w e' =>
    rw [q] at h1
    intro cls d σ' H' G' z1 z2 z3
    obtain ⟨b1, b2⟩ := later e' σ' H' G' z1 z2 G' (fun _ _ h => h) z1.sub (fun _ h => .inl h)
    exact h1 cls d H' G' b1 b2 z3
  | ok o e' =>
    rw [q] at h1
    unfold mkEnd at h1
    split at h1
    · rename_i e2 he2
      cases he2
      split at h1
      · rename_i c' fs hfs
        split at h1
        · rename_i hnf
          have hnf := Nat.eq_of_beq_eq_true hnf
          intro σ' H' G' z1 z2 v ov
          refine ⟨ov, ?_⟩
          obtain ⟨p1, p2⟩ := z2.pin 0 (c + 1) rfl
          have p2 : (e'[0]?).bind Slot.pk = some (c + 1) := p2
          rw [hfs] at p2
          have p2 : c' + 1 = c + 1 := Option.some.inj p2
          cases (Nat.add_right_cancel p2)
          have p1 : σ'[0]? = some (some (V.ref y)) := p1
          have h4 := z1.at_ 0 _ hfs
          obtain ⟨b, dx', xs, q1, q2, q3, q4⟩ := h4
          have q1 : σ'[0]? = some (some (V.ref b)) := q1
          rw [p1] at q1
          cases q1
          have q2 : H' y = some (.ins (C.ca c) dx' ((C.cf c).zip xs)) := q2
          have sub' : ∀ a o, G' a = some o → H' a = some o := z1.sub
          obtain ⟨b1, b2⟩ := later e' σ' H' G' z1 z2 (fzG G' H' (fun a => a = y)) (fzG_g sub') (fzG_sub sub') (fun a ha => fzG_new a ha)
          refine h1 H' _ b1 b2 (.ref y) ⟨y, dx', xs, rfl, ?_, ?_, q4.mono (fzG_g sub')⟩
          · exact (fzG_at (A := fun a => a = y) rfl).trans q2
          · rw [q4.length, hnf, hn]
        · exact h1.elim
      · exact h1.elim
    · rename_i he2
      exact nomatch he2
    · exact h1.elim
end

def dRaise (c : Nat) : DS := fun e => .ex ⟨c, []⟩ e
def noEx (r : Res Fl) : Res Fl := match r with
  | .ok f e => .ok f e
  | _ => .bad
/-- tbl: is the class caught? -/
def catchE (tbl : Nat → Option Bool) (ds : DS) (x : Exn) (e1 : List Slot) : Res Fl := match tbl x.c with
  | some true => noEx (ds e1)
  | some false => .ex x e1
  | none => .bad
def tryE (tbl : Nat → Option Bool) (ds : DS) (r : Res Fl) : Res Fl := match r with
  | .ok f e1 => .ok f e1
  | .ex x e1 => catchE tbl ds x e1
  | .bad => .bad
def dTry (d : DS) (tbl : Nat → Option Bool) (ds : DS) : DS := fun e => tryE tbl ds (d e)
structure ExcTbl (C : VX) (cv : Value) (tbl : Nat → Option Bool) : Prop where
  ok : ∀ c b, tbl c = some b → PySem.W.exmOne C.K (.ref (C.ca c)) cv = some b
section
variable {X : Cx} {C : VX} {W : WX} {d ds : DS} {x m : Str} {cv : Value} {c : Nat} {j : Nat} {p p2 np pos pos' : Pos} {tbl : Nat → Option Bool} {body suite : List Stmt} {b₀ : Stmt} {bmB : List Value} {B newId initId : String}
theorem s_raise (hc : X.calm = true) (tk : Takes X W) (F : ExcBaseFacts B newId initId bmB) (q : PySem.W.excIn X.K (C.ca c) bmB newId = true) (gC : X.mg x = some (.ref (C.ca c))) (kC : PySem.W.keepIn X.K (.ref (C.ca c)) = true) (r : Raises X (.ref (C.ca c))) (hg : Gl X x := by rfl) (hdb : (x == ("__debug__" : Str)) = false := by decide) :
    PS X (.Raise (some (.Call (.Name x p) [.Constant (.str m) j p2] [] pos')) none pos) (tDS C W (dRaise c)) := (ps_raise hc tk (pmk_own F q gC kC r hg hdb)).imp fun D σ H ⟨e, G, hs, h⟩ => h _ none σ H G hs (Ext.refl _) ⟨rfl, rfl⟩
theorem SatS.noEx {s : S} {r : Res Fl} {D : Ends} (h : SatS C W s (noEx r) D) : SatS C W0 s r D := by
  cases r with
  | ok f e => exact h
  | ex x e => exact h.elim
  | bad => exact h
theorem s_try (hs : X.stack = X.env :: X.outer) (hf : X.env.frame = some X.env.locals) (hc : Names X x cv) (tk : Takes X W) (ht : ExcTbl C cv tbl)
    (hb : ∀ (W : WX) (pn : List (Addr × Obj)) (xe : Value → Shared → Prop), Takes (X.tr pn xe) W → PassesOwn (model X.prog X.w) X.A X.env xe → PSs (X.tr pn xe) body (tDS C W d))
    (hsu : ∀ (a : Addr) (pn : List (Addr × Obj)), PSs (X.suite a pn) (b₀ :: suite) (tDS C W0 ds)) (hK : C.K = X.K := by rfl) :
    PS X (.Try body [.ExceptHandler (some (.Name x np)) none (b₀ :: suite) pos'] [] [] pos) (tDS C W (dTry d tbl ds)) :=
  (ps_try_only (tb := fun W => tDS C W d) (ts := fun _ _ _ => tDS C W0 ds) hs hf hc tk hb (fun a oe cls dd pn _ _ => hsu a _)).imp fun D σ H ⟨e, G, hs, h⟩ => by
  refine ⟨e, G, hs, ?_⟩
  unfold dTry at h
  cases q : d e with
  | bad => rw [q] at h; exact h
  | ok f e1 => rw [q] at h; exact h
  | ex y e1 =>
    rw [q] at h
    have h : SatS C W ⟨e, σ, H, G⟩ (catchE tbl ds y e1) D := h
    unfold catchE at h
    intro cls dd σ' H' G' z1 z2 z3
    cases q2 : tbl y.c with
    | none => rw [q2] at h; exact h.elim
    | some b =>
      rw [q2] at h
      have hex := ht.ok _ _ q2
      obtain ⟨hcls, hd⟩ := z3
      refine ⟨b, by rw [← hK, hcls]; exact hex, fun hb a _ => ?_, fun hb => ?_⟩
      · subst hb
        have h : SatS C W ⟨e, σ, H, G⟩ (noEx (ds e1)) D := h
        exact ⟨e1, G', z1, (SatS.noEx h).rebase z2⟩
      · subst hb
        exact h cls dd σ' H' G' z1 z2 ⟨hcls, hd⟩
end

def dPar (is : List Nat) (da : DA) : DS := fun e => (da e).bind fun ts e1 => if Nat.beq ts.length is.length then parE is ts e1 else .bad
where parE : List Nat → List T → List Slot → Res Fl
  | i :: is, t :: ts, e => onNx (setSlot i (.sh t) e) fun e1 => parE is ts e1
  | [], [], e => .ok .nx e
  | _, _, _ => .bad
section
variable {X : Cx} {C : VX} {W : WX} {a b c : Expr} {da : DA} {x y z : Str} {px py pz pt pos : Pos} {kt k2 : Nat} {pt2 : Pos}
theorem store_at {s : S} {D : Ends} {i : Nat} {t : T} {v : V} {k : List Slot → Res Fl} (hs : Sees C s) (r : Rp C s.G t v) (h : SatS C W s (onNx (setSlot i (.sh t) s.e) k) D) :
    ∃ e', Sees C ⟨e', s.σ.set i (some v), s.H, s.G⟩ ∧ Ext s ⟨e', s.σ.set i (some v), s.H, s.G⟩ ∧ SatS C W s (k e') D := by
  cases q : setSlot i (.sh t) s.e with
  | bad => rw [q] at h; exact h.elim
  | ex y e2 =>
    unfold setSlot at q
    split at q
    · cases q
    · split at q <;> cases q
  | ok f e2 =>
    obtain ⟨rfl, rfl, s0, hi, hp⟩ := setSlot_ok q
    rw [q] at h
    obtain ⟨y1, y2⟩ := hs.store (Ext.refl _) (o := .sh t) r (fun _ z => nomatch z) hi hp
    exact ⟨_, y1, y2, h⟩
theorem s_par (i j : Nat) (hc : X.calm = true) (hN : X.N.Nodup) (ha : PA X [a, b] (tDA C W da)) (hi : X.N[i]? = some x := by rfl) (hj : X.N[j]? = some y := by rfl) (hij : i ≠ j := by decide)
    (hx : X.env.scope.names.lookup x = some .local := by rfl) (hy : X.env.scope.names.lookup y = some .local := by rfl)
    (hw : swappedStores [.Tuple [.Name x px, .Name y py] kt pt] (.Tuple [a, b] k2 pt2) X.env = pure (some [x, y]) := by rfl)
    (hs : swapsWithSole [.Tuple [.Name x px, .Name y py] kt pt] (.Tuple [a, b] k2 pt2) pos.line X.env = pure false := by rfl) :
    PS X (.Assign [.Tuple [.Name x px, .Name y py] kt pt] (.Tuple [a, b] k2 pt2) pos) (tDS C W (dPar [i, j] da)) := (ps_par hc hN hi hj hij hx hy ha hw hs).imp fun D σ H ⟨e, G, hs, h⟩ => by
  refine tDA_I (s := ⟨e, σ, H, G⟩) hs ((SatS.bind h).mono fun ts s1 hs1 x1 e1 h1 vs rvs => ?_)
  have hσ : s1.σ = σ := e1
  subst hσ
  match ts, rvs, h1 with
  | [], _, h1 => exact h1.elim
  | [_], _, h1 => exact h1.elim
  | _ :: _ :: _ :: _, _, h1 => exact h1.elim
  | [t1, t2], rvs, h1 =>
    obtain ⟨v, w, rfl, r1, r2⟩ := rvs.two
    refine ⟨v, w, rfl, ?_⟩
    have h1 : SatS C W s1 (onNx (setSlot i (.sh t1) s1.e) fun e1 => onNx (setSlot j (.sh t2) e1) fun e2 => .ok .nx e2) D := h1
    obtain ⟨e2, y1, y2, h2⟩ := store_at hs1 r1 h1
    obtain ⟨e3, y3, y4, h3⟩ := store_at y1 r2 (h2.rebase y2)
    exact h3 _ _ _ y3 y4
theorem s_par3 (i j l : Nat) (hc : X.calm = true) (hN : X.N.Nodup) (ha : PA X [a, b, c] (tDA C W da)) (hi : X.N[i]? = some x := by rfl) (hj : X.N[j]? = some y := by rfl) (hl : X.N[l]? = some z := by rfl) (hij : i ≠ j := by decide) (hil : i ≠ l := by decide) (hjl : j ≠ l := by decide)
    (hx : X.env.scope.names.lookup x = some .local := by rfl) (hy : X.env.scope.names.lookup y = some .local := by rfl) (hz : X.env.scope.names.lookup z = some .local := by rfl)
    (hw : swappedStores [.Tuple [.Name x px, .Name y py, .Name z pz] kt pt] (.Tuple [a, b, c] k2 pt2) X.env = pure (some [x, y, z]) := by rfl)
    (hs : swapsWithSole [.Tuple [.Name x px, .Name y py, .Name z pz] kt pt] (.Tuple [a, b, c] k2 pt2) pos.line X.env = pure false := by rfl) :
    PS X (.Assign [.Tuple [.Name x px, .Name y py, .Name z pz] kt pt] (.Tuple [a, b, c] k2 pt2) pos) (tDS C W (dPar [i, j, l] da)) := (ps_par3 hc hN hi hj hl hij hil hjl hx hy hz ha hw hs).imp fun D σ H ⟨e, G, hs, h⟩ => by
  refine tDA_I (s := ⟨e, σ, H, G⟩) hs ((SatS.bind h).mono fun ts s1 hs1 x1 e1 h1 vs rvs => ?_)
  have hσ : s1.σ = σ := e1
  subst hσ
  match ts, rvs, h1 with
  | [], _, h1 => exact h1.elim
  | [_], _, h1 => exact h1.elim
  | [_, _], _, h1 => exact h1.elim
  | _ :: _ :: _ :: _ :: _, _, h1 => exact h1.elim
  | [t1, t2, t3], rvs, h1 =>
    obtain ⟨u, q, rfl, r1, rvs⟩ := rvs
    obtain ⟨v, w, rfl, r2, r3⟩ := rvs.two
    refine ⟨u, v, w, rfl, ?_⟩
    have h1 : SatS C W s1 (onNx (setSlot i (.sh t1) s1.e) fun e1 => onNx (setSlot j (.sh t2) e1) fun e2 => onNx (setSlot l (.sh t3) e2) fun e3 => .ok .nx e3) D := h1
    obtain ⟨e2, y1, y2, h2⟩ := store_at hs1 r1 h1
    obtain ⟨e3, y3, y4, h3⟩ := store_at y1 r2 (h2.rebase y2)
    obtain ⟨e4, y5, y6, h4⟩ := store_at y3 r3 ((h3.rebase y4))
    exact h4 _ _ _ y5 y6
end
end L2.VD

namespace L2.VD
open PySem PySem.Spec PyProof.Rows

/-- a list, or a tuple (k) -/
def SqK (K : PySem.W.Frag) (k : Bool) (H : Hp) (a : Addr) (xs : List V) : Prop := match k with
  | true => SqT K H a xs
  | false => SqL K H a xs
def ItK (k : Bool) (h : Heap) (it a : Addr) (i : Nat) : Prop := match k with
  | true => h.IsTupleIter it a i
  | false => h.IsListIter it a i
def IsK (k : Bool) (h : Heap) (a : Addr) (items : Array Value) : Prop := match k with
  | true => h.IsTuple a items
  | false => h.IsList a items
theorem drawsK {prog : Program} {w : World} {A : Around} (hh : A.handled = none) (k : Bool) (it l : Addr) (hne : l ≠ it) (items : Array Value) :
    Draws prog w A it [it, l] items.size (fun i v => items[i]? = some v) (fun i h => ItK k h it l i ∧ IsK k h l items) := match k with
  | true => Draws.tuple hh it l hne items
  | false => Draws.list hh it l hne items
def objK (k : Bool) (l : Addr) : Obj := match k with
  | true => { cls := .type "tuple_iterator", data := .fields #[.ref l, .int 0 0] }
  | false => { cls := .type "list_iterator", data := .fields #[.ref l, .int 0 0] }
theorem beginsK (k : Bool) (l : Addr) (items : Array Value) : Begins (.ref l) (objK k l) fun h => IsK k h l items := match k with
  | true => begins_tuple l items
  | false => begins_list l items
theorem ItK.start {k : Bool} {h : Heap} {it a : Addr} (e : h.get? it = some (objK k a)) : ItK k h it a 0 := match k, e with
  | true, e => ⟨_, e, rfl, rfl⟩
  | false, e => ⟨_, e, rfl, rfl⟩
theorem ItK.obj {k : Bool} {h : Heap} {it a : Addr} {i : Nat} (e : ItK k h it a i) : ∃ o, h.get? it = some o ∧ ∀ v, o.data ≠ .cell v := match k, e with
  | true, ⟨o, e, _, d⟩ => ⟨o, e, fun v q => by rw [d] at q; cases q⟩
  | false, ⟨o, e, _, d⟩ => ⟨o, e, fun v q => by rw [d] at q; cases q⟩
theorem ItK.keep {k : Bool} {h h' : Heap} {it a : Addr} {i : Nat} (e : ItK k h it a i) (f : ∀ o, h.get? it = some o → h'.get? it = some o) : ItK k h' it a i := match k, e with
  | true, e => Heap.IsTupleIter.at e f
  | false, e => Heap.IsListIter.at e f
theorem sqK_get {X : Cx} {pins : List (Addr × Obj)} {σ : St} {H : Hp} {s : Shared} {k : Bool} {a : Addr} {xs : List V} (I : Inv X pins σ H s) (h : SqK X.K k H a xs) : ∃ its : List Value, Vals xs its ∧ IsK k s.heap a its.toArray ∧ ∃ o, s.heap.get? a = some o := match k, h with
  | true, h => by
    obtain ⟨its, rv, p, _⟩ := I.tuple h
    obtain ⟨o, ho, q⟩ := id p
    exact ⟨its, rv, p, o, ho⟩
  | false, h => by
    obtain ⟨its, rv, p, _⟩ := I.list h
    obtain ⟨o, n, ho, q⟩ := id p
    exact ⟨its, rv, p.isList, o, ho⟩
theorem sqK_inj {X : Cx} {pins : List (Addr × Obj)} {σ : St} {H : Hp} {s : Shared} {k : Bool} {a : Addr} {xs ys : List V} (I : Inv X pins σ H s) (h : SqK X.K k H a xs) (h' : SqK X.K k H a ys) : xs = ys := match k, h, h' with
  | true, h, h' => I.tuple_inj h h'
  | false, h, h' => I.list_inj h h'
def ItzM (K : PySem.W.Frag) (k1 k2 : Bool) (a b : Addr) : It :=
  ⟨fun i H => ∃ (xs ys : List V) (x y : V), SqK K k1 H a xs ∧ SqK K k2 H b ys ∧ xs[i]? = some x ∧ ys[i]? = some y,
    fun i H v H' => ∃ T x y, v = .ref T ∧ H T = none ∧ H' = upd H T (.tup [x, y]) ∧ (∀ xs, SqK K k1 H a xs → xs[i]? = some x) ∧ ∀ ys, SqK K k2 H b ys → ys[i]? = some y,
    fun i H => ∃ xs ys : List V, SqK K k1 H a xs ∧ SqK K k2 H b ys ∧ i ≤ xs.length ∧ i ≤ ys.length ∧ (xs.length = i ∨ ys.length = i)⟩
theorem sep_of {z TI TO i1 i2 a b : Addr} (D : ZipApart z TI TO i1 i2 a b) : ZipSep2 z TI TO i1 i2 [i1, a] [i2, b] where
  TIz := D.TIz
  TOz := D.TOz
  TITO := D.TITO
  TIi1 := D.TIi1
  mem1 := by simp
  zf1 := by simp [Ne.symm D.i1z, Ne.symm D.l1z]
  Tf1 := by simp [D.TOi1, Ne.symm D.l1TO]
  TIi2 := D.TIi2
  mem2 := by simp
  zf2 := by simp [Ne.symm D.i2z, Ne.symm D.l2z]
  Tf2 := by simp [D.TOi2, Ne.symm D.l2TO]
  sep1_2 := by simp [D.i12, Ne.symm D.l2i1]
  sep2_1 := by simp [Ne.symm D.i12, Ne.symm D.l1i2]
theorem turn_zipM {P : Program} {w : World} {K : PySem.W.Frag} {k1 k2 : Bool} {elts : List Expr} {kk : Nat} {tpos : Pos} {a b z TI TO i1 i2 : Addr} (D : ZipApart z TI TO i1 i2 a b) :
    Turn P w K (.Tuple elts kk tpos) (ItzM K k1 k2 a b) [z, TI, TO, i1, i2] z (fun i h => IsZip h z TI TO .none ∧ IsPair h TI (.ref i1) (.ref i2) ∧ (∃ x y, IsPair h TO x y) ∧ ItK k1 h i1 a i ∧ ItK k2 h i2 b i) where
  mem := by simp
  obj := fun i h st c hc => by
    obtain ⟨hz, hTI, ⟨x, y, hTO⟩, h1, h2⟩ := st
    have e' : c = z ∨ c = TI ∨ c = TO ∨ c = i1 ∨ c = i2 := by simpa using hc
    rcases e' with q | q | q | q | q
    · rw [q]; exact ⟨_, hz, fun v q => nomatch q⟩
    · rw [q]; exact ⟨_, hTI, fun v q => nomatch q⟩
    · rw [q]; exact ⟨_, hTO, fun v q => nomatch q⟩
    · rw [q]; exact h1.obj
    · rw [q]; exact h2.obj
  keep := fun i h h' st k => by
    obtain ⟨hz, hTI, ⟨x, y, hTO⟩, h1, h2⟩ := st
    exact ⟨k z (by simp) _ hz, k TI (by simp) _ hTI, ⟨x, y, k TO (by simp) _ hTO⟩, h1.keep fun o q => k i1 (by simp) o q, h2.keep fun o q => k i2 (by simp) o q⟩
  item := by
    intro X hP hw hK hc i pins s σ H E I hf st hg
    subst hP hw hK
    obtain ⟨hz, hTI, ⟨x0, y0, hTO⟩, h1, h2⟩ := st
    obtain ⟨xs, ys, x, y, hqx, hqy, hx, hy⟩ := hg
    obtain ⟨its, rv, p, _⟩ := sqK_get I hqx
    obtain ⟨its2, rv2, p2, _⟩ := sqK_get I hqy
    obtain ⟨u, hu, ru⟩ := rv.get hx
    obtain ⟨u2, hu2, ru2⟩ := rv2.get hy
    have hzl : z < s.heap.objs.size := Heap.lt_size hz
    have hh : X.A.in1.handled = none := I.ok.hd hc
    refine wpAny_pyNext_zipD2_item (sep_of D) (drawsK hh k1 i1 a D.l1i1 its.toArray) (drawsK hh k2 i2 b D.l2i2 its2.toArray) hz hTI hTO ⟨h1, p⟩ ⟨h2, p2⟩
      (by have := (List.getElem?_eq_some_iff.mp hu).1; simpa using this) (by have := (List.getElem?_eq_some_iff.mp hu2).1; simpa using this) fun v1 v2 h' tk hv1 hv2 z' TO' st1 st2 hT hsz hk => ?_
    have e1 : v1 = u := Option.some.inj ((show its.toArray[i]? = some v1 from hv1).symm.trans (by simpa using hu))
    have e2 : v2 = u2 := Option.some.inj ((show its2.toArray[i]? = some v2 from hv2).symm.trans (by simpa using hu2))
    subst e1 e2
    obtain ⟨h1', _⟩ := st1
    obtain ⟨h2', _⟩ := st2
    refine ⟨_, rfl, wpAny_letOwnedTupleGo_zip (s := { s with heap := h', toks := tk }) z' fun h'' z'' sb => ?_⟩
    have hT2 : h''.get? s.heap.objs.size = some { cls := .type "tuple", data := .seq #[v1, v2] } := (sb.2 _ (Nat.ne_of_gt hzl)).trans hT
    have new : ObjOk X.prog X.w (upd H s.heap.objs.size (.tup [x, y])) h'' s.heap.objs.size (.tup [x, y]) :=
      ⟨by show 2 ≤ sizeLine; decide, [v1, v2], .cons ru (.cons ru2 .nil), ⟨_, hT2, rfl, _, rfl⟩⟩
    have I1 : Inv X pins σ (upd H s.heap.objs.size (.tup [x, y])) { s with heap := h'', toks := tk } :=
      I.turnedNew (t' := tk) (ch := [z, TI, TO, i1, i2]) (fun c o hb q => (sb.2 c (fun q' => hb (by simp [q']))).trans (hk c o (fun q' => hb (by simp [q'])) (fun q' => hb (by simp [q'])) (fun q' => hb (by simp [q'])) (fun q' => hb (by simp [q'])) q)) hf (Nat.le_refl _) new
    refine ⟨.ref s.heap.objs.size, _, I1, rfl, ⟨_, x, y, rfl, I.hok.fresh (Nat.le_refl _), rfl, fun l hl => by rw [sqK_inj I hl hqx]; exact hx, fun l hl => by rw [sqK_inj I hl hqy]; exact hy⟩, ⟨z'', ?_, ⟨v1, v2, ?_⟩, ?_, ?_⟩, fun c hcm => ?_⟩
    · exact (sb.2 _ D.TIz).trans (hk _ _ D.TIz D.TITO D.TIi1 D.TIi2 hTI)
    · exact (sb.2 _ D.TOz).trans TO'
    · exact h1'.keep fun o q => (sb.2 _ D.i1z).trans q
    · exact h2'.keep fun o q => (sb.2 _ D.i2z).trans q
    · have hlt : c < s.heap.objs.size := by
        have e' : c = z ∨ c = TI ∨ c = TO ∨ c = i1 ∨ c = i2 := by simpa using hcm
        rcases e' with q | q | q | q | q
        · rw [q]; exact hzl
        · rw [q]; exact Heap.lt_size hTI
        · rw [q]; exact Heap.lt_size hTO
        · rw [q]; obtain ⟨_, e1, _⟩ := h1.obj; exact Heap.lt_size e1
        · rw [q]; obtain ⟨_, e2, _⟩ := h2.obj; exact Heap.lt_size e2
      rw [upd_ne (Nat.ne_of_lt hlt)]
      exact (hf c hcm).1
  done := by
    intro X hP hw hK hc i pins s σ H E I hf st hg
    subst hP hw hK
    obtain ⟨hz, hTI, ⟨x0, y0, hTO⟩, h1, h2⟩ := st
    obtain ⟨xs, ys, hqx, hqy, hl1, hl2, hend⟩ := hg
    obtain ⟨its, rv, p, _⟩ := sqK_get I hqx
    obtain ⟨its2, rv2, p2, _⟩ := sqK_get I hqy
    have l1 := rv.length
    have l2 := rv2.length
    have hh : X.A.in1.handled = none := I.ok.hd hc
    refine wpAny_pyNext_zipD2_end (sep_of D) (drawsK hh k1 i1 a D.l1i1 its.toArray) (drawsK hh k2 i2 b D.l2i2 its2.toArray) hz hTI hTO ⟨h1, p⟩ ⟨h2, p2⟩ (by simp; omega) (by simp; omega) (by simp; omega)
      fun h' tk hk => ⟨rfl, I.turnedL (t' := tk) (ch := [z, TI, TO, i1, i2]) (fun c o hb q =>
        hk c o (fun q' => hb (by simp [q'])) (fun q' => hb (by simp [q'])) (fun q' => hb (by simp [q'])) (fun q' => hb (by simp [q'])) q) hf⟩
  self := fun A i s Q E st h => wpAny_pyIter_zip st.1 h

def iZipM (K : PySem.W.Frag) (ta : TA) : TI := fun σ H R => ta σ H fun vs H1 => ∃ k1 k2 a b xs ys, vs = [.ref a, .ref b] ∧ SqK K k1 H1 a xs ∧ SqK K k2 H1 b ys ∧ R (ItzM K k1 k2 a b) H1
theorem pi_zipM {X : Cx} {e e2 : Expr} {ta : TA} {p pos tpos : Pos} {elts : List Expr} {kk : Nat} (hg : Gl X "zip") (hm : X.mg "zip" = none) (ha : PA X [e, e2] ta)
    (hs : starEach [e, e2] X.env = (false, eval e X.env) :: starEach [e2] X.env := by rfl) (hpl : (backTo pos (starEach [e2] X.env)).any (·.1) = false := by rfl) :
    PI X (.Tuple elts kk tpos) (.Call (.Name "zip" p) [e, e2] [] pos) (iZipM X.K ta) := by
  refine ⟨fun pins s σ H R I h => ?_⟩
  refine Call_ (ld_blt I hg hm PyProof.Rows.boot_zip (PyProof.Rows.callWith_type1 (thn (ha.run pos pins s σ H _ I h) fun us s1 ⟨vs, H1, I1, r1, q1⟩ => ?_) hs hpl))
  obtain ⟨k1, k2, a, b, xs, ys, ex, hqx, hqy, q⟩ := q1
  subst ex
  cases r1 with
  | cons r rr =>
    cases rr with
    | cons r' rr =>
      cases rr
      cases r
      cases r'
      obtain ⟨its, rv, p1, o1, ho1⟩ := sqK_get I1 hqx
      obtain ⟨its2, rv2, p2, o2, ho2⟩ := sqK_get I1 hqy
      refine zip_begins2 (beginsK k1 a its.toArray) (beginsK k2 b its2.toArray) p1 p2 fun h' hz hTI hTO h1 h2 hsz hk => wpAny_pyIter_zip hz ?_
      have I2 : Inv X pins σ H1 { s1 with heap := h' } := I1.kept (t' := s1.toks) hk
      refine ⟨s1.heap.objs.size + 4, [s1.heap.objs.size + 4, s1.heap.objs.size + 2, s1.heap.objs.size + 3, s1.heap.objs.size, s1.heap.objs.size + 1], _, _, H1, rfl, I2, turn_zipM (PySem.W.ktu_apart s1.heap.objs.size a b (Heap.lt_size ho1) (Heap.lt_size ho2)), ⟨hz, hTI, ⟨_, _, hTO⟩, ItK.start h1, ItK.start h2⟩, fun c hcm => ?_, q⟩
      have e' : c = s1.heap.objs.size + 4 ∨ c = s1.heap.objs.size + 2 ∨ c = s1.heap.objs.size + 3 ∨ c = s1.heap.objs.size ∨ c = s1.heap.objs.size + 1 := by simpa using hcm
      have hle : s1.heap.objs.size ≤ c := by
        rcases e' with z | z | z | z | z
        · rw [z]; exact Nat.le_add_right _ _
        · rw [z]; exact Nat.le_add_right _ _
        · rw [z]; exact Nat.le_add_right _ _
        · rw [z]; exact Nat.le_refl _
        · rw [z]; exact Nat.le_add_right _ _
      exact I1.fpOk hle (I1.hok.fresh hle)
def zipT : List T → List T → List T
  | a :: as, b :: bs => .tup [a, b] :: zipT as bs
  | _, _ => []
def seqT : T → Option (List T)
  | .lst ts => some ts
  | .sq ts => some ts
  | .tup ts => some ts
  | _ => none
def asZip : List T → Option (List T)
  | [a, b] => (seqT a).bind fun xs => (seqT b).map fun ys => zipT xs ys
  | _ => none
def dZip (d : DA) : DI := fun e => (d e).bind fun ts e1 => Res.of (asZip ts) e1
theorem zipT_len : ∀ as bs : List T, (zipT as bs).length = min as.length bs.length
  | [], bs => by show 0 = _; rw [List.length_nil, Nat.zero_min]
  | a :: as, [] => by show 0 = _; rw [List.length_nil, Nat.min_zero]
  | a :: as, b :: bs => by
    show (zipT as bs).length + 1 = _
    rw [zipT_len as bs, List.length_cons, List.length_cons]
    omega
theorem zipT_get : ∀ {as bs : List T} {i : Nat} {t : T}, (zipT as bs)[i]? = some t → ∃ a b, as[i]? = some a ∧ bs[i]? = some b ∧ t = .tup [a, b]
  | [], bs, i, t, h => by cases h
  | a :: as, [], i, t, h => by cases h
  | a :: as, b :: bs, 0, t, h => by cases h; exact ⟨a, b, rfl, rfl, rfl⟩
  | a :: as, b :: bs, i + 1, t, h => by
    obtain ⟨x, y, h1, h2, h3⟩ := zipT_get (as := as) (bs := bs) (i := i) h
    exact ⟨x, y, h1, h2, h3⟩
section
variable {X : Cx} {C : VX} {W : WX}
theorem SqK.mono {K : PySem.W.Frag} {k : Bool} {H H' : Hp} {a : Addr} {xs : List V} (g : ∀ a o, H a = some o → H' a = some o) (h : SqK K k H a xs) : SqK K k H' a xs := match k, h with
  | true, h => sqT_mono g h
  | false, h => sqL_mono g h
theorem seqT_sq {G : Hp} {t : T} {ts : List T} {v : V} (h : seqT t = some ts) (r : Rp C G t v) : ∃ k a xs, v = .ref a ∧ SqK C.K k G a xs ∧ Rps C G ts xs := by
  cases t with
  | lst us => cases h; obtain ⟨a, xs, rfl, h1, h2⟩ := r; exact ⟨false, a, xs, rfl, .of h1, h2⟩
  | sq us => cases h; obtain ⟨a, xs, rfl, h1, h2⟩ := r; exact ⟨false, a, xs, rfl, h1, h2⟩
  | tup us => cases h; obtain ⟨a, xs, rfl, h1, h2⟩ := r; exact ⟨true, a, xs, rfl, h1, h2⟩
  | non => cases h
  | bl b => cases h
  | int i => cases h
  | str x => cases h
  | obj c us => cases h
theorem jok_zip {G : Hp} {k1 k2 : Bool} {a b : Addr} {xs ys : List V} {ts us : List T} (h1 : SqK C.K k1 G a xs) (h2 : SqK C.K k2 G b ys) (r1 : Rps C G ts xs) (r2 : Rps C G us ys) {K : PySem.W.Frag} (hK : C.K = K) : JOk C (ItzM K k1 k2 a b) G (zipT ts us) := by
  subst hK
  refine ⟨fun H G' g sub i t e => ?_, fun H G' g sub i hi hi2 => ?_⟩
  · obtain ⟨t1, t2, e1, e2, rfl⟩ := zipT_get e
    obtain ⟨x, x1, x2⟩ := r1.get e1
    obtain ⟨y, y1, y2⟩ := r2.get e2
    have h1' := (h1.mono g).mono sub
    have h2' := (h2.mono g).mono sub
    refine ⟨⟨xs, ys, x, y, h1', h2', x1, y1⟩, fun z H' hz => ?_⟩
    obtain ⟨p, x', y', rfl, hp, rfl, f1, f2⟩ := hz
    have : x' = x := Option.some.inj ((f1 xs h1').symm.trans x1)
    subst this
    have : y' = y := Option.some.inj ((f2 ys h2').symm.trans y1)
    subst this
    have gp : G' p = none := by
      cases q : G' p with
      | none => rfl
      | some u => have := sub _ _ q; rw [hp] at this; cases this
    refine ⟨upd G' p (.tup [x', y']), upd_sup hp, upd_sup gp, fun b o hb => ?_, fun b hb => ?_, p, [x', y'], rfl, .inl (.inl upd_same), Rps.cons (x2.mono fun b o hb => upd_sup gp b o (g b o hb)) (Rps.cons (y2.mono fun b o hb => upd_sup gp b o (g b o hb)) Rps.nil)⟩
    · by_cases hbp : b = p
      · subst hbp; rw [upd_same] at hb ⊢; exact hb
      · rw [upd_ne hbp] at hb ⊢; exact sub b o hb
    · by_cases hbp : b = p
      · subst hbp; exact .inr hp
      · rw [upd_ne hbp] at hb; exact .inl hb
  · rw [zipT_len] at hi hi2
    have l1 := r1.length
    have l2 := r2.length
    exact ⟨xs, ys, (h1.mono g).mono sub, (h2.mono g).mono sub, by omega, by omega, by omega⟩
theorem i_zip {e e2 : Expr} {d : DA} {p pos tpos : Pos} {elts : List Expr} {kk : Nat} (hm : X.mg "zip" = none) (ha : PA X [e, e2] (tDA C W d)) (hg : Gl X "zip" := by rfl)
    (hs : starEach [e, e2] X.env = (false, eval e X.env) :: starEach [e2] X.env := by rfl) (hpl : (backTo pos (starEach [e2] X.env)).any (·.1) = false := by rfl) (hK : C.K = X.K := by rfl) :
    PI X (.Tuple elts kk tpos) (.Call (.Name "zip" p) [e, e2] [] pos) (tDI C W (dZip d)) := (pi_zipM hg hm ha hs hpl).imp fun σ H R ⟨e, G, hs, h⟩ => by
  refine tDA_I (s := ⟨e, σ, H, G⟩) hs ((SatE.bind h).mono fun ts s1 hs1 x1 e1 h1 vs rvs => ?_)
  obtain ⟨us, ho, k⟩ := SatE.of h1
  have k := k s1.H s1.G hs1 (Ext.refl _)
  match ts, rvs, ho with
  | [], _, ho => cases ho
  | [_], _, ho => cases ho
  | _ :: _ :: _ :: _, _, ho => cases ho
  | [t1, t2], rvs, ho =>
    obtain ⟨v, w, rfl, r1, r2⟩ := rvs.two
    have ho : ((seqT t1).bind fun xs => (seqT t2).map fun ys => zipT xs ys) = some us := ho
    cases q1 : seqT t1 with
    | none => rw [q1] at ho; cases ho
    | some l1 =>
      rw [q1] at ho
      cases q2 : seqT t2 with
      | none => rw [q2] at ho; cases ho
      | some l2 =>
        rw [q2] at ho
        cases ho
        obtain ⟨k1, a, xs, rfl, a1, a2⟩ := seqT_sq q1 r1
        obtain ⟨k2, b, ys, rfl, b1, b2⟩ := seqT_sq q2 r2
        rw [← hK]
        exact ⟨k1, k2, a, b, xs, ys, rfl, a1.mono hs1.sub, b1.mono hs1.sub, k _ (jok_zip a1 b1 a2 b2 rfl)⟩
end
end L2.VD

namespace L2.VD
open PySem PySem.Spec PyProof.Rows

section
variable {X : Cx} {pins : List (Addr × Obj)} {σ : St} {H : Hp} {s : Shared} {k : Nat} {f : Addr} {fd : FuncData} {ps : List Str} {sp : Sp}
/-- a def of the text runs at any place of ours -/
theorem run_at {A : Around} {Q : VK} {E : XK} {us : List Value} {vs : List V} (F : FnOk X.prog X.w X.K X.mg X.base (L2.CX X.prog X.w) k f fd ps sp) (hr : Room k A) (hfr : A.frames = X.A.frames) (hb : Binds X.K fd ps []) (hx : PassesAt (L2.CX X.prog X.w) X σ E)
    (I : Inv X pins σ H s) (r : Vals vs us) (h : sp vs H Q E) : wpAny (model X.prog X.w) A (call (.ref f) us) (EP X pins σ Q) X.xe s := by
  have hl : us.length = ps.length := by rw [← r.length]; exact F.len _ _ _ _ h
  have b := hb s us I.kIn (by rw [List.append_nil]; exact hl)
  rw [List.append_nil] at b
  have e := I.env0
  have e0 : Env0 X.prog X.w X.K X.mg X.base A X.stack s H := ⟨by rw [hfr]; exact e.frames, e.mod, e.bs, e.bsz, e.funs, e.frf, e.hok, e.bare⟩
  refine wpAny_call (codeAny_mono (F.run A X.stack s H ⟨us, []⟩ us vs Q E hr e0 b r h) fun r s' hq => ?_)
  cases r with
  | error e => exact hx pins H s e s' I hq
  | ok fl =>
    cases fl with
    | ret u => exact I.after hq
    | next => exact False.elim hq
    | brk => exact False.elim hq
    | cont => exact False.elim hq
theorem passes0 : PassesAt (L2.CX X.prog X.w) X σ (fun _ _ _ => False) := fun _ _ _ _ _ _ ⟨_, _, _, _, _, _, _, _, _, _, _, _, h⟩ => h.elim
theorem ep_ni {Q : VK} {Q' : Value → Shared → Prop} (h : ∀ u s', EP X pins σ Q u s' → Q' u s') : ∀ u s', EP X pins σ Q u s' → PySem.W.CmpBack Q' u s' := by
  intro u s' z
  have z0 := z
  obtain ⟨v, H', I', rv, q⟩ := z
  cases u with
  | notImplemented =>
    cases v with
    | int i => obtain ⟨t, e⟩ := rv; cases e
    | str i => obtain ⟨t, e⟩ := rv; cases e
    | byt i => obtain ⟨t, e⟩ := rv; cases e
    | flt i => obtain ⟨t, e⟩ := rv; cases e
    | non => cases rv
    | bl b => cases rv
    | ref b => cases rv
    | ty b => cases rv
  | _ => exact h _ s' z0
end

/-- the class c has the def nm of its own, it is F -/
structure OwnOk (X : Cx) (C : VX) (nm : Str) (c np : Nat) (F : DF) : Prop where
  ex : ∃ f fd ps k, PySem.W.findIn X.K (.ref (C.ca c)) nm = some (some (.ref f)) ∧ PySem.W.isFn X.K (.ref f) = true ∧ FnOk X.prog X.w X.K X.mg X.base (L2.CX X.prog X.w) k f fd ps (spD C np F) ∧ Room (k + 2) X.A ∧ Binds X.K fd ps []
theorem Room.in2 {k : Nat} {A : Around} (r : Room (k + 2) A) : Room k A.in1 := (r.mono (by omega : k + 1 ≤ k + 2)).in1

def fOwn1 (F : DF) (t : T) : Option Out := match F [.sh t] with
  | .ok o _ => some o
  | _ => none
def fOwn2 (F : DF) (t u : T) : Option Out := match F [.sh t, .sh u] with
  | .ok o _ => some o
  | _ => none
section
variable {C : VX}
theorem sp_own {s : S} {ts : List T} {vs : List V} {o : Out} {e' : List Slot} {F : DF} {Q : VK} (hs : Sees C s) (r : Rps C s.G ts vs) (h : F (ts.map .sh) = .ok o e') {np : Nat} (hn : ts.length = np)
    (q : ∀ v H' G', Sees C ⟨s.e, s.σ, H', G'⟩ → Ext s ⟨s.e, s.σ, H', G'⟩ → OutOk C s ⟨s.e, s.σ, H', G'⟩ v o → Q v H') : spD C np F vs s.H Q (fun _ _ _ => False) := by
  have hsl : ∀ ts : List T, slotsOf s.e (ts.map AV.v) = some (ts.map .sh) := by
    intro ts
    induction ts with
    | nil => rfl
    | cons t ts ih =>
      show ((slotOf s.e (AV.v t)).bind fun x => (slotsOf s.e (ts.map AV.v)).map fun xs => x :: xs) = _
      rw [ih]; rfl
  have hle : ∀ ts : List T, lentOf (ts.map AV.v) = [] := by
    intro ts
    induction ts with
    | nil => rfl
    | cons t ts ih => exact ih
  have hpb : ∀ (ts : List T) (n : Nat) (e : List Slot), putBack e' n (ts.map AV.v) e = e := by
    intro ts
    induction ts with
    | nil => intro n e; rfl
    | cons t ts ih => intro n e; exact ih (n + 1) e
  have hr : SatE C W0 s (runF F (ts.map AV.v) s.e) (fun o s' => ∀ v, OutOk C s s' v o → Q v s'.H) := by
    unfold runF
    rw [hsl, hle]
    show SatE C W0 s (mapE (fun e' => putBack e' 0 (ts.map AV.v) s.e) (F (ts.map .sh))) _
    rw [h]
    show SatE C W0 s (.ok o (putBack e' 0 (ts.map AV.v) s.e)) _
    rw [hpb]
    exact fun H' G' z1 z2 v ov => q v H' G' z1 z2 ov
  have := call_of (W := W0) hs (Ext.refl _) (AVs.ofR r) hr np (by rw [List.length_map]; exact hn)
  exact this
end

def fEqX (tbl : Nat → Option DF) (t u : T) : Option Out := match t with
  | .obj c _ => (tbl c).bind fun F => fOwn2 F t u
  | _ => fEq t u
def notO (o : Out) : Option Out := (asBl o.t).map fun b => .sh (.bl (!b))
def fNeX (tbl : Nat → Option DF) (t u : T) : Option Out := match t with
  | .obj c _ => ((tbl c).bind fun F => fOwn2 F t u).bind notO
  | _ => fNe t u
/-- own == of the class c against what it is asked for -/
structure EqTbl (X : Cx) (C : VX) (tbl : Nat → Option DF) : Prop where
  ok : ∀ c F, tbl c = some F → OwnOk X C "__eq__" c 2 F
  nf : ∀ c F, tbl c = some F → PySem.W.subIn X.K (.type "tuple") (.ref (C.ca c)) = some false ∧ PySem.W.subIn X.K (.type "list") (.ref (C.ca c)) = some false ∧ PySem.W.subIn X.K (.type "int") (.ref (C.ca c)) = some false ∧ PySem.W.subIn X.K (.type "NoneType") (.ref (C.ca c)) = some false ∧ PySem.W.subIn X.K (.type "str") (.ref (C.ca c)) = some false ∧ PySem.W.subIn X.K (.type "bool") (.ref (C.ca c)) = some false
  ne : ∀ c F, tbl c = some F → PySem.W.findIn X.K (.ref (C.ca c)) "__ne__" = some (some (.builtin "object.__ne__")) ∧ PySem.W.mroIn X.K (C.ca c) (.type "object") = some true
  kd : ∀ c d F, tbl c = some F → c ≠ d → PySem.W.subIn X.K (.ref (C.ca d)) (.ref (C.ca c)) = some false ∨ C.ca d = C.ca c
def rOwnEq (X : Cx) (C : VX) (tbl : Nat → Option DF) (neg : Bool) : R2 := fun x y H Q => ∃ a c dx fs F tb, x = .ref a ∧ H a = some (.ins (C.ca c) dx fs) ∧ tbl c = some F ∧ ((∃ b dy gs, y = .ref b ∧ H b = some (.ins tb dy gs) ∧ PySem.W.notFirst X.K (C.ca c) (.ref tb) = true) ∨ (∃ t, TyX X.K H y t ∧ PySem.W.notFirst X.K (C.ca c) t = true)) ∧
  spD C 2 F [x, y] H (fun v H' => ∃ b, v = .bl b ∧ Q (.bl (if neg then !b else b)) H') (fun _ _ _ => False)
section
variable {X : Cx} {C : VX} {tbl : Nat → Option DF}
theorem csib {M : Model} {A : Around} {E : Value → Shared → Prop} {s : Shared} {self : Value} {name : PySem.Str} {id : String} {args : List Value} {Q : Option Value → Shared → Prop} (sp : PySem.W.Looks M s.heap (specialOf self name) (some (.builtin id))) (hb : bindSpecial (.builtin id) self = pure (.builtin id, [self]))
    (hc : wpAny M A (call (.builtin id) (self :: args)) (fun v => Q (some v)) E s) : wpAny M A (callSpecialIfBound? self name args) Q E s := by
  simp only [callSpecialIfBound?, bindSpecialIfBound?]
  refine wpAny_holding (wpAny_bind (wpAny_bind (sp.here ?_)))
  simp only [hb]
  refine wpAny_bind (wpAny_askSetting (wpAny_ite ?_))
  have fin : wpAny M A (call (.builtin id) ([self] ++ args) >>= fun v => pure (some v)) Q E s := wpAny_bind (wpAny_mono hc (fun v s' h' => wpAny_pure h') fun _ _ h' => h')
  split
  · exact wpAny_bind (wpAny_pure (wpAny_pure fin))
  · exact wpAny_tryCatch (wpAny_bind (wpAny_pure (wpAny_pure fin)))
theorem on_bind (self : Value) : bindSpecial (.builtin "object.__ne__") self = pure (.builtin "object.__ne__", [self]) :=
  (Slot.of (T := "object") (name := "__ne__") (owner := "object") (n := "__ne__") (by rw [typeLookup_type, builtinLookup_eq_fast]; kernel_rfl) (by decide +kernel) (by decide +kernel) (by decide +kernel)
    (.inl (by decide +kernel)) (by rw [isSubtype_type]; kernel_rfl)).bind self
theorem on_plain : plainId "object.__ne__" = true := by decide +kernel
/-- x != y by an own == and the inherited object.__ne__ -/
theorem ne_K {A : Around} {E : Value → Shared → Prop} {s : Shared} {x c L f : Addr} {h₀ : Heap} {m : Str → Option Value} {ox : Obj} {od : Option Obj} {b tb : Value} {K : PySem.W.Frag} {prog : Program} {w : World} {Q : Value → Shared → Prop} (hu : A.units + 1 < cLine) (F : Fr h₀ L s.heap m) (X₀ : K.In h₀) (I : PySem.W.InstAt s.heap x ox c od) (hb : PySem.W.Looks (model prog w) s.heap (typeOf b) tb) (hn : PySem.W.notFirst K c tb = true)
    (hne : PySem.W.findIn K (.ref c) "__ne__" = some (some (.builtin "object.__ne__"))) (hob : PySem.W.mroIn K c (.type "object") = some true) (hs : PySem.W.findIn K (.ref c) "__eq__" = some (some (.ref f))) (hf : PySem.W.isFn K (.ref f) = true)
    (h : wpAny (model prog w) A.in1 (call (.ref f) [.ref x, b]) (fun v s' => ∃ r, v = .bool r ∧ Q (.bool (!r)) s') E s) : wpAny (model prog w) A (richCompare .NotEq (.ref x) b) Q E s := by
  have X := X₀.keeps F.keep
  have hu0 : A.units < cLine := Nat.lt_of_succ_lt hu
  have one : wpAny (model prog w) A (tryCompare (.ref x) "__ne__" b) (fun r s' => ∃ v, r = some v ∧ Q v s') E s := by
    unfold tryCompare
    have sp : PySem.W.Looks (model prog w) s.heap (specialOf (.ref x) "__ne__") (some (.builtin "object.__ne__")) := I.type.andThen (PySem.W.looks_findIn X hne)
    have inst : PySem.W.Looks (model prog w) s.heap (isInstance (.ref x) (.type "object")) true := I.type.andThen (PySem.W.looks_mroIn X hob)
    refine wpAny_bind (csib sp (on_bind _) (wpAny_call (codeAny_call_builtin on_plain PySem.F.cmpEntry_ne (PySem.W.check_slot PySem.F.cmpKind_ne PySem.F.cmpSplit_ne inst (PySem.F.cmpArgs_ne _ _) ?_))))
    show wpAny (model prog w) A.in1 (Builtin.«object.__ne__» ⟨[.ref x, b], []⟩) _ _ _
    unfold Builtin.«object.__ne__»
    refine wpAny_bind (wpAny_of_eq (a := (Value.ref x, [b])) rfl ?_)
    refine wpAny_bind (wpAny_cRoomFor hu ?_)
    refine wpAny_bind (m := callSpecialIfBound? (.ref x) (Str.ofString "__eq__") _) (PySem.W.ifBound_K X I hs hf (wpAny_mono h (fun v s' hv => ?_) fun _ _ y => y))
    obtain ⟨r, rfl, hq⟩ := hv
    exact wpAny_bind (wpAny_pure (wpAny_pure (wpAny_pure ⟨_, rfl, hq⟩)))
  unfold richCompare
  simp only [oneThing_ref]
  refine wpAny_holding (wpAny_bind (wpAny_cRoomFor hu0 ?_))
  refine wpAny_bind (I.type.here (wpAny_bind (hb.here ?_)))
  split
  · rename_i q
    have e : PySem.W.subIn K tb (.ref c) = some false := by
      rcases Bool.or_eq_true_iff.mp hn with e | e
      · rw [beq_iff_eq.mp e] at q; simp at q
      · exact beq_iff_eq.mp e
    refine wpAny_bind ((PySem.W.looks_subIn X e).here ?_)
    simp only [Bool.false_eq_true, if_false]
    refine wpAny_bind (wpAny_mono one (fun r s' z => ?_) fun _ _ e => e)
    obtain ⟨v, rfl, hq⟩ := z
    exact wpAny_pure hq
  · refine wpAny_bind (wpAny_pure ?_)
    simp only [Bool.false_eq_true, if_false]
    refine wpAny_bind (wpAny_mono one (fun r s' z => ?_) fun _ _ e => e)
    obtain ⟨v, rfl, hq⟩ := z
    exact wpAny_pure hq
theorem type_of {pins : List (Addr × Obj)} {σ : St} {H : Hp} {s : Shared} {y : V} {u t : Value} (I : Inv X pins σ H s) (rx : RelV y u) (ty : TyX X.K H y t) : PySem.W.Looks (model X.prog X.w) s.heap (typeOf u) t := by
  obtain ⟨P, k, hp, _⟩ := kit_of I rx ty
  exact k.ty _ _ I.kIn hp
theorem op_ownEq (he : EqTbl X C tbl) (neg : Bool) : OpR X (compareOp (if neg then .NotEq else .Eq)) (rOwnEq X C tbl neg) := by
  intro pins s σ H x y v u Q I rx ry h
  obtain ⟨a, c, dx, fs, F, tb, rfl, ha, hF, hty, hsp⟩ := h
  obtain ⟨f, fd, ps, k, h1, h2, h3, h4, h5⟩ := (he.ok c F hF).ex
  cases rx
  obtain ⟨mA, J, _⟩ := ins_get I.hok ha
  obtain ⟨od, J, _⟩ := J.look
  obtain ⟨m, hFr⟩ := I.fr
  obtain ⟨t, hlk, hnf⟩ : ∃ t, PySem.W.Looks (model X.prog X.w) s.heap (typeOf u) t ∧ PySem.W.notFirst X.K (C.ca c) t = true := by
    rcases hty with ⟨b, dy, gs, rfl, hb, hn⟩ | ⟨t, hb, hn⟩
    · cases ry
      obtain ⟨mB, J', _⟩ := ins_get I.hok hb
      obtain ⟨od', J', _⟩ := J'.look
      exact ⟨_, J'.type, hn⟩
    · exact ⟨t, type_of I ry hb, hn⟩
  have r2 : Vals [V.ref a, y] [Value.ref a, u] := .cons rfl (.cons ry .nil)
  cases neg with
  | false =>
    show wpAny (model X.prog X.w) X.A (richCompare .Eq (.ref a) u) (EP X pins σ Q) X.xe s
    refine PySem.W.cmp_K (op := .Eq) h4.units0 hFr I.ok.mod.kin J hlk hnf h1 h2 ?_
    refine wpAny_mono (run_at (A := X.A) h3 (h4.mono (by omega)) rfl h5 passes0 I r2 hsp) (fun w s' z => ep_ni (fun u s' z => ?_) w s' z) fun _ _ e => e
    obtain ⟨v, H', I', rv, b, rfl, q⟩ := z
    exact ⟨_, H', I', rv, q⟩
  | true =>
    show wpAny (model X.prog X.w) X.A (richCompare .NotEq (.ref a) u) (EP X pins σ Q) X.xe s
    obtain ⟨n1, n2⟩ := he.ne c F hF
    refine ne_K (by have := h4.units0; have := h4.un; omega) hFr I.ok.mod.kin J hlk hnf n1 n2 h1 h2 ?_
    refine wpAny_mono (run_at (A := X.A.in1) h3 (Room.in2 h4) rfl h5 passes0 I r2 hsp) (fun w s' z => ?_) fun _ _ e => e
    obtain ⟨v, H', I', rv, b, rfl, q⟩ := z
    cases rv
    exact ⟨b, rfl, .bl (!b), H', I', rfl, q⟩
end
end L2.VD

namespace L2.VD
open PySem PySem.Spec PyProof.Rows

def ownB (neg : Bool) (F : DF) (t u : T) : Option Out := (fOwn2 F t u).bind fun o => (asBl o.t).map fun b => .sh (.bl (if neg then !b else b))
def fEqO (tbl : Nat → Option DF) (t u : T) : Option Out := match t with
  | .obj c _ => (tbl c).bind fun F => ownB false F t u
  | _ => fEq t u
def fNeO (tbl : Nat → Option DF) (t u : T) : Option Out := match t with
  | .obj c _ => (tbl c).bind fun F => ownB true F t u
  | _ => fNe t u
section
variable {X : Cx} {C : VX} {W : WX} {tbl : Nat → Option DF}
theorem OpR.orR {X : Cx} {f : Value → Value → Sem Value} {r r' : R2} (h : OpR X f r) (h' : OpR X f r') : OpR X f (fun x y H Q => r x y H Q ∨ r' x y H Q) := by
  intro pins s σ H x y v u Q I rx ry q
  rcases q with q | q
  · exact h pins s σ H x y v u Q I rx ry q
  · exact h' pins s σ H x y v u Q I rx ry q
theorem asBl_out {o : Out} {b : Bool} (h : asBl o.t = some b) : o = .sh (.bl b) := by
  cases o with
  | sh t => cases t <;> first | (cases h; rfl) | cases h
  | fr ts => cases h
  | frr ts => cases h
  | ft ts => cases h
theorem own_rd (he : EqTbl X C tbl) (hK : C.K = X.K) {neg : Bool} {c : Nat} {ts : List T} {u : T} {F : DF} {s : S} {x y : V} {o : Out} {Q : VK} (hF : tbl c = some F) (hs : Sees C s) (rx : Rp C s.G (.obj c ts) x) (ry : Rp C s.G u y) (ho : ownB neg F (.obj c ts) u = some o)
    (q : ∀ v H' G', Sees C ⟨s.e, s.σ, H', G'⟩ → Ext s ⟨s.e, s.σ, H', G'⟩ → OutOk C s ⟨s.e, s.σ, H', G'⟩ v o → Q v H') : rOwnEq X C tbl neg x y s.H Q := by
  have rx0 := rx
  obtain ⟨a, dx, xs, rfl, r1, r2, r3⟩ := rx
  unfold ownB fOwn2 at ho
  cases q1 : F [.sh (.obj c ts), .sh u] with
  | bad => rw [q1] at ho; exact nomatch ho
  | ex z e' => rw [q1] at ho; exact nomatch ho
  | ok o1 e' =>
    rw [q1] at ho
    have ho : (asBl o1.t).map (fun b => Out.sh (.bl (if neg then !b else b))) = some o := ho
    cases q2 : asBl o1.t with
    | none => rw [q2] at ho; exact nomatch ho
    | some b =>
      rw [q2] at ho
      cases ho
      have := asBl_out q2
      subst this
      refine ⟨a, c, dx, _, F, (match u with | .obj d _ => C.ca d | _ => 0), rfl, hs.sub _ _ r1, hF, ?_, ?_⟩
      · obtain ⟨n1, n2, n3, n4, n5, n6⟩ := he.nf c F hF
        have non : (∀ d us, u ≠ .obj d us) → PySem.W.notFirst X.K (C.ca c) (tyOfKind C u.kind) = true → (∃ t, TyX X.K s.H y t ∧ PySem.W.notFirst X.K (C.ca c) t = true) := fun hu h => by
          refine ⟨_, ?_, h⟩
          rw [← hK]
          refine tyX_of hs.sub ry fun d hd => ?_
          cases u with
          | obj d us => exact absurd rfl (hu d us)
          | non => cases hd
          | bl b => cases hd
          | int i => cases hd
          | str z => cases hd
          | tup us => cases hd
          | lst us => cases hd
          | sq us => cases hd
        cases u with
        | obj d us =>
          obtain ⟨b', dy, ys, rfl, w1, w2, w3⟩ := ry
          refine .inl ⟨b', dy, _, rfl, hs.sub _ _ w1, ?_⟩
          show PySem.W.notFirst X.K (C.ca c) (.ref (C.ca d)) = true
          unfold PySem.W.notFirst
          by_cases hcd : c = d
          · subst hcd; simp
          · rcases he.kd c d F hF hcd with z | z
            · rw [z]; simp
            · rw [z]; simp
        | non => exact .inr (non (fun _ _ z => nomatch z) (by show PySem.W.notFirst X.K (C.ca c) (.type "NoneType") = true; unfold PySem.W.notFirst; rw [n4]; simp))
        | bl b => exact .inr (non (fun _ _ z => nomatch z) (by show PySem.W.notFirst X.K (C.ca c) (.type "bool") = true; unfold PySem.W.notFirst; rw [n6]; simp))
        | int i => exact .inr (non (fun _ _ z => nomatch z) (by show PySem.W.notFirst X.K (C.ca c) (.type "int") = true; unfold PySem.W.notFirst; rw [n3]; simp))
        | str z => exact .inr (non (fun _ _ z => nomatch z) (by show PySem.W.notFirst X.K (C.ca c) (.type "str") = true; unfold PySem.W.notFirst; rw [n5]; simp))
        | tup us => exact .inr (non (fun _ _ z => nomatch z) (by show PySem.W.notFirst X.K (C.ca c) (.type "tuple") = true; unfold PySem.W.notFirst; rw [n1]; simp))
        | lst us => exact .inr (non (fun _ _ z => nomatch z) (by show PySem.W.notFirst X.K (C.ca c) (.type "list") = true; unfold PySem.W.notFirst; rw [n2]; simp))
        | sq us => exact .inr (non (fun _ _ z => nomatch z) (by show PySem.W.notFirst X.K (C.ca c) (.type "list") = true; unfold PySem.W.notFirst; rw [n2]; simp))
      · refine sp_own (ts := [.obj c ts, u]) hs ⟨_, _, rfl, rx0, _, _, rfl, ry, rfl⟩ q1 rfl fun v H' G' z1 z2 ov => ?_
        have ov : v = .bl b := ov
        subst ov
        exact ⟨b, rfl, q _ H' G' z1 z2 rfl⟩
theorem os_ownEq {r : R2} (he : EqTbl X C tbl) (hf : OpS C r fEq) (hK : C.K = X.K) : OpS C (fun x y H Q => r x y H Q ∨ rOwnEq X C tbl false x y H Q) (fEqO tbl) := by
  refine ⟨fun s x y t u o Q hs rx ry ho q => ?_⟩
  cases t with
  | obj c ts =>
    have ho : ((tbl c).bind fun F => ownB false F (.obj c ts) u) = some o := ho
    cases hF : tbl c with
    | none => rw [hF] at ho; exact nomatch ho
    | some F => rw [hF] at ho; exact .inr (own_rd he hK hF hs rx ry ho q)
  | non => exact .inl (hf.run s x y _ u o Q hs rx ry ho q)
  | bl b => exact .inl (hf.run s x y _ u o Q hs rx ry ho q)
  | int i => exact .inl (hf.run s x y _ u o Q hs rx ry ho q)
  | str z => exact .inl (hf.run s x y _ u o Q hs rx ry ho q)
  | tup ts => exact .inl (hf.run s x y _ u o Q hs rx ry ho q)
  | lst ts => exact .inl (hf.run s x y _ u o Q hs rx ry ho q)
  | sq ts => exact .inl (hf.run s x y _ u o Q hs rx ry ho q)
theorem os_ownNe {r : R2} (he : EqTbl X C tbl) (hf : OpS C r fNe) (hK : C.K = X.K) : OpS C (fun x y H Q => r x y H Q ∨ rOwnEq X C tbl true x y H Q) (fNeO tbl) := by
  refine ⟨fun s x y t u o Q hs rx ry ho q => ?_⟩
  cases t with
  | obj c ts =>
    have ho : ((tbl c).bind fun F => ownB true F (.obj c ts) u) = some o := ho
    cases hF : tbl c with
    | none => rw [hF] at ho; exact nomatch ho
    | some F => rw [hF] at ho; exact .inr (own_rd he hK hF hs rx ry ho q)
  | non => exact .inl (hf.run s x y _ u o Q hs rx ry ho q)
  | bl b => exact .inl (hf.run s x y _ u o Q hs rx ry ho q)
  | int i => exact .inl (hf.run s x y _ u o Q hs rx ry ho q)
  | str z => exact .inl (hf.run s x y _ u o Q hs rx ry ho q)
  | tup ts => exact .inl (hf.run s x y _ u o Q hs rx ry ho q)
  | lst ts => exact .inl (hf.run s x y _ u o Q hs rx ry ho q)
  | sq ts => exact .inl (hf.run s x y _ u o Q hs rx ry ho q)
variable {a b : Expr} {da db : DE} {pos : Pos} {k : Nat}
theorem e_eqO (he : EqTbl X C tbl) (hr : Room k X.A) (ha : PE X a (tD C W da)) (hb : PE X b (tD C W db)) (hK : C.K = X.K := by rfl) : PE X (.Compare a [.Eq] [b] pos) (tD C W (dOp (fEqO tbl) da db)) := e_cmp (OpR.orR (op_eqD hr.units) (op_ownEq he false)) (os_ownEq he (os_eq hK) hK) ha hb (nomark _)
theorem e_neO (he : EqTbl X C tbl) (hr : Room k X.A) (ha : PE X a (tD C W da)) (hb : PE X b (tD C W db)) (hK : C.K = X.K := by rfl) : PE X (.Compare a [.NotEq] [b] pos) (tD C W (dOp (fNeO tbl) da db)) := e_cmp (OpR.orR (op_neD hr.units) (op_ownEq he true)) (os_ownNe he (os_ne hK) hK) ha hb (nomark _)
theorem t_eqO (he : EqTbl X C tbl) (hr : Room k X.A) (ha : PE X a (tD C W da)) (hb : PE X b (tD C W db)) (hK : C.K = X.K := by rfl) : PT X (.Compare a [.Eq] [b] pos) (tDT C W (dTst (dOp (fEqO tbl) da db))) := t_cmp (OpR.orR (op_eqD hr.units) (op_ownEq he false)) (os_ownEq he (os_eq hK) hK) ha hb (nomark _)
theorem t_neO (he : EqTbl X C tbl) (hr : Room k X.A) (ha : PE X a (tD C W da)) (hb : PE X b (tD C W db)) (hK : C.K = X.K := by rfl) : PT X (.Compare a [.NotEq] [b] pos) (tDT C W (dTst (dOp (fNeO tbl) da db))) := t_cmp (OpR.orR (op_neD hr.units) (op_ownEq he true)) (os_ownNe he (os_ne hK) hK) ha hb (nomark _)
end

def rOwnNeg (C : VX) (tbl : Nat → Option DF) : V → Hp → VK → Prop := fun x H Q => ∃ a c dx fs F, x = .ref a ∧ H a = some (.ins (C.ca c) dx fs) ∧ tbl c = some F ∧ spD C 1 F [x] H Q (fun _ _ _ => False)
def fNegO (tbl : Nat → Option DF) (t : T) : Option Out := match t with
  | .obj c _ => (tbl c).bind fun F => fOwn1 F t
  | _ => fNeg t
def rOwnLen (C : VX) (tbl : Nat → Option DF) : List V → Hp → VK → Prop := fun xs H Q => ∃ a c dx fs F, xs = [.ref a] ∧ H a = some (.ins (C.ca c) dx fs) ∧ tbl c = some F ∧ spD C 1 F [.ref a] H (fun v H' => ∃ n : Int, v = .int n ∧ 0 ≤ n ∧ n < 2 ^ 63 ∧ Q v H') (fun _ _ _ => False)
def lenO (o : Out) : Option Out := match o with
  | .sh (.int n) => if decide (0 ≤ n) && decide (n < 1000000) then some o else none
  | _ => none
def fLenO (tbl : Nat → Option DF) (ts : List T) : Option Out := match ts with
  | [.obj c us] => (tbl c).bind fun F => (fOwn1 F (.obj c us)).bind lenO
  | _ => fLen ts
structure OwnTbl (X : Cx) (C : VX) (nm : Str) (tbl : Nat → Option DF) : Prop where
  ok : ∀ c F, tbl c = some F → OwnOk X C nm c 1 F
section
variable {X : Cx} {C : VX} {W : WX} {tbl : Nat → Option DF}
theorem un_ownNeg (he : OwnTbl X C "__neg__" tbl) : UnR X (unaryOp .USub) (rOwnNeg C tbl) := by
  intro pins s σ H x v Q I rx h
  obtain ⟨a, c, dx, fs, F, rfl, ha, hF, hsp⟩ := h
  obtain ⟨f, fd, ps, k, h1, h2, h3, h4, h5⟩ := (he.ok c F hF).ex
  cases rx
  obtain ⟨mA, J, _⟩ := ins_get I.hok ha
  obtain ⟨od, J, _⟩ := J.look
  unfold unaryOp
  refine wpAny_holding ?_
  dsimp only
  refine wpAny_bind (PySem.W.special_fn I.kIn J h1 (beq_iff_eq.mp h2) (wpAny_mono (run_at (A := X.A) (vs := [.ref a]) h3 (h4.mono (by omega)) rfl h5 passes0 I (.cons rfl .nil) hsp) (fun w s' z => ?_) fun _ _ e => e))
  exact wpAny_pure z
theorem us_ownNeg (hK : C.K = X.K := by rfl) : UnS C (fun x H Q => rU (fun i => .int (-i)) x H Q ∨ rOwnNeg C tbl x H Q) (fNegO tbl) := by
  refine ⟨fun s x t o Q hs rx ho q => ?_⟩
  cases t with
  | obj c ts =>
    have ho : ((tbl c).bind fun F => fOwn1 F (.obj c ts)) = some o := ho
    cases hF : tbl c with
    | none => rw [hF] at ho; exact nomatch ho
    | some F =>
      rw [hF] at ho
      have ho : fOwn1 F (.obj c ts) = some o := ho
      unfold fOwn1 at ho
      have rx0 := rx
      obtain ⟨a, dx, xs, rfl, r1, r2, r3⟩ := rx
      split at ho
      · rename_i o1 e' q1
        cases ho
        exact .inr ⟨a, c, dx, _, F, rfl, hs.sub _ _ r1, hF, sp_own (ts := [.obj c ts]) hs ⟨_, _, rfl, rx0, rfl⟩ q1 rfl q⟩
      · cases ho
  | non => exact .inl (os_neg.run s x _ o Q hs rx ho q)
  | bl b => exact .inl (os_neg.run s x _ o Q hs rx ho q)
  | int i => exact .inl (os_neg.run s x _ o Q hs rx ho q)
  | str z => exact .inl (os_neg.run s x _ o Q hs rx ho q)
  | tup ts => exact .inl (os_neg.run s x _ o Q hs rx ho q)
  | lst ts => exact .inl (os_neg.run s x _ o Q hs rx ho q)
  | sq ts => exact .inl (os_neg.run s x _ o Q hs rx ho q)
theorem UnR.orR {X : Cx} {f : Value → Sem Value} {r r' : V → Hp → VK → Prop} (h : UnR X f r) (h' : UnR X f r') : UnR X f (fun x H Q => r x H Q ∨ r' x H Q) := by
  intro pins s σ H x v Q I rx q
  rcases q with q | q
  · exact h pins s σ H x v Q I rx q
  · exact h' pins s σ H x v Q I rx q
theorem e_negO {a : Expr} {da : DE} {pos : Pos} (he : OwnTbl X C "__neg__" tbl) (ha : PE X a (tD C W da)) (hK : C.K = X.K := by rfl) : PE X (.UnaryOp .USub a pos) (tD C W (dUn (fNegO tbl) da)) := (pe_un (UnR.orR un_neg (un_ownNeg he)) ha).imp fun _ _ _ h => tUn_of (us_ownNeg hK) h
theorem call_ownLen (he : OwnTbl X C "__len__" tbl) : CallR X (.builtin "len") (fun xs H Q => (∃ x n, xs = [x] ∧ LenV X.K x H n ∧ Q (.int n) H) ∨ rOwnLen C tbl xs H Q) := by
  intro pins s σ H xs us Q I r h
  rcases h with h | h
  · exact call_len pins s σ H xs us Q I r h
  · obtain ⟨a, c, dx, fs, F, rfl, ha, hF, hsp⟩ := h
    obtain ⟨f, fd, ps, k, h1, h2, h3, h4, h5⟩ := (he.ok c F hF).ex
    obtain ⟨u, rfl, ru⟩ := vals1 r
    cases ru
    obtain ⟨mA, J, _⟩ := ins_get I.hok ha
    obtain ⟨od, J, _⟩ := J.look
    obtain ⟨m, hFr⟩ := I.fr
    refine PySem.W.len_K hFr I.ok.mod.kin J h1 h2 (wpAny_mono (run_at (A := X.A.in1) (vs := [.ref a]) h3 (Room.in2 h4) rfl h5 passes0 I (.cons rfl .nil) hsp) (fun w s' z => ?_) fun _ _ e => e)
    obtain ⟨v, H', I', rv, n, rfl, n0, n1, q⟩ := z
    obtain ⟨t, rfl⟩ := rv
    exact ⟨⟨n0, n1⟩, .int n, H', I'.kept (t' := s'.toks + 1) fun _ _ e => e, ⟨_, rfl⟩, q⟩
theorem cs_ownLen {K : PySem.W.Frag} (hK : C.K = K := by rfl) : CallS C (fun xs H Q => (∃ x n, xs = [x] ∧ LenV K x H n ∧ Q (.int n) H) ∨ rOwnLen C tbl xs H Q) (fLenO tbl) := by
  refine ⟨fun s vs ts o Q hs r ho q => ?_⟩
  unfold fLenO at ho
  split at ho
  · rename_i c us
    cases hF : tbl c with
    | none => rw [hF] at ho; exact nomatch ho
    | some F =>
      rw [hF] at ho
      have ho : (fOwn1 F (.obj c us)).bind lenO = some o := ho
      unfold fOwn1 at ho
      split at ho
      · rename_i o1 e' q1
        have ho : lenO o1 = some o := ho
        unfold lenO at ho
        split at ho
        · rename_i n _
          split at ho
          · rename_i hz
            cases ho
            rw [Bool.and_eq_true, decide_eq_true_eq, decide_eq_true_eq] at hz
            obtain ⟨v, rfl, r1⟩ := r.one
            have r0 := r1
            obtain ⟨a, dx, xs, rfl, w1, w2, w3⟩ := r1
            refine .inr ⟨a, c, dx, _, F, rfl, hs.sub _ _ w1, hF, sp_own (ts := [.obj c us]) hs ⟨_, _, rfl, r0, rfl⟩ q1 rfl fun v H' G' z1 z2 ov => ?_⟩
            have ov' : v = .int n := ov
            subst ov'
            exact ⟨n, rfl, hz.1, Int.lt_trans hz.2 (by decide +kernel), q _ H' G' z1 z2 rfl⟩
          · cases ho
        · cases ho
      · cases ho
  · exact .inl ((cs_len hK).run s vs ts o Q hs r ho q)
end
end L2.VD

namespace L2.VD
open PySem PySem.Spec PyProof.Rows

def opO (f : T → T → Option Out) (tbl : Nat → Option DF) (t u : T) (e : List Slot) : Res Out := match t with
  | .obj c ts => match u with
    | .obj d us => if Nat.beq c d then match tbl c with
        | some F => runN 2 F [.v (.obj c ts), .v (.obj d us)] e
        | none => .bad
      else .bad
    | _ => .bad
  | _ => Res.of (f t u) e
def dOpO (f : T → T → Option Out) (tbl : Nat → Option DF) (da db : DE) : DE := fun e => (da e).bind fun a e1 => (db e1).bind fun b e2 => opO f tbl a.t b.t e2
structure OpTbl (X : Cx) (C : VX) (op : Operator) (tbl : Nat → Option DF) : Prop where
  ok : ∀ c F, tbl c = some F → OwnOk X C (PySem.dunder op.info.2) c 2 F
  sf : ∀ c F, tbl c = some F → PySem.W.selfFirst X.K (C.ca c) = true
def rOwnOp (C : VX) (W : WX) (tbl : Nat → Option DF) (σ : St) : R2 := fun x y H Q => ∃ a b c dx fs dy gs F, x = .ref a ∧ y = .ref b ∧ H a = some (.ins (C.ca c) dx fs) ∧ H b = some (.ins (C.ca c) dy gs) ∧ tbl c = some F ∧ spD C 2 F [x, y] H Q (WE W σ)
section
variable {X : Cx} {C : VX} {W : WX} {tbl : Nat → Option DF} {a b : Expr} {da db : DE} {pos : Pos} {op : Operator} {r : R2} {f : T → T → Option Out}
theorem pe_opO {ta tb : TE} (ho : OpR X (binaryOp op) r) (he : OpTbl X C op tbl) (hx : ∀ σ, PassesAt (L2.CX X.prog X.w) X σ (WE W σ)) (ha : PE X a ta) (hb : PE X b tb) :
    PE X (.BinOp a op b pos) (fun σ H Q => ta σ H fun x H1 => tb σ H1 fun y H2 => r x y H2 Q ∨ rOwnOp C W tbl σ x y H2 Q) := by
  refine ⟨fun pins s σ H Q I h => ?_⟩
  refine wpAny_BinOp (binT ha hb I h fun v u s2 x y H2 I2 rx ry q => ?_)
  rcases q with q | q
  · exact ho pins s2 σ H2 x y v u Q I2 rx ry q
  · obtain ⟨a, b, c, dx, fs, dy, gs, F, rfl, rfl, ha, hb, hF, hsp⟩ := q
    obtain ⟨f, fd, ps, k, h1, h2, h3, h4, h5⟩ := (he.ok c F hF).ex
    cases rx
    cases ry
    obtain ⟨mA, J, _⟩ := ins_get I2.hok ha
    obtain ⟨od, J, _⟩ := J.look
    obtain ⟨mB, J', _⟩ := ins_get I2.hok hb
    obtain ⟨od', J', _⟩ := J'.look
    obtain ⟨m, hFr⟩ := I2.fr
    refine PySem.W.binop_K hFr I2.ok.mod.kin J J'.type (he.sf c F hF) h1 h2 ?_
    exact wpAny_mono (run_at (A := X.A) (vs := [.ref a, .ref b]) h3 (h4.mono (by omega)) rfl h5 (hx σ) I2 (.cons rfl (.cons rfl .nil)) hsp) (fun w s' z => ep_ni (fun u s' z => z) w s' z) fun _ _ e => e
theorem e_opO (ho : OpR X (binaryOp op) r) (hf : OpS C r f) (he : OpTbl X C op tbl) (hx : ∀ σ, PassesAt (L2.CX X.prog X.w) X σ (WE W σ)) (ha : PE X a (tD C W da)) (hb : PE X b (tD C W db)) : PE X (.BinOp a op b pos) (tD C W (dOpO f tbl da db)) := (pe_opO ho he hx ha hb).imp fun σ H Q ⟨e, G, hs, h⟩ => by
  refine tD_T (s := ⟨e, σ, H, G⟩) hs ((SatE.bind h).mono fun x s1 hs1 x1 e1 h1 v rv => ?_)
  have hσ : s1.σ = σ := e1
  subst hσ
  refine tD_T hs1 ((SatE.bind h1).mono fun y s2 hs2 x2 e2 h2 w rw' => ?_)
  have h2 : SatE C W s2 (opO f tbl x.t y.t s2.e) (fun o s' => ∀ v, OutOk C ⟨e, s1.σ, H, G⟩ s' v o → Q v s'.H) := h2
  unfold opO at h2
  split at h2
  · rename_i c ts hx
    rw [hx] at rv
    split at h2
    · rename_i d us hy
      rw [hy] at rw'
      split at h2
      · rename_i hcd
        have := Nat.eq_of_beq_eq_true hcd
        subst this
        split at h2
        · rename_i F hF
          have rv2 := rv.mono x2.g
          have rv0 := rv2
          have rw0 := rw'
          obtain ⟨a, dx, xs, rfl, r1, r2, r3⟩ := rv2
          obtain ⟨b, dy, ys, rfl, w1, w2, w3⟩ := rw'
          refine .inr ⟨a, b, c, dx, _, dy, _, F, rfl, rfl, hs2.sub _ _ r1, hs2.sub _ _ w1, hF, ?_⟩
          have hav : AVs C s2 [.v (.obj c ts), .v (.obj c us)] [.ref a, .ref b] := ⟨_, _, rfl, rv0, _, _, rfl, rw0, rfl⟩
          have := call_ofN hs2 (x1.trans x2) hav h2
          rw [e2] at this
          exact this
        · exact h2.elim
      · exact h2.elim
    · exact h2.elim
  · rename_i t hn
    obtain ⟨o, ho, k⟩ := SatE.of h2
    refine .inl (hf.run s2 v w _ _ o Q hs2 (rv.mono x2.g) rw' ho fun u H' G' z1 z2 z3 => ?_)
    exact k H' G' z1 z2 u (z3.base (x1.trans x2))
end

def ItTO (a it : Addr) : HO := .ext fun h => h.IsTupleIter it a 0
def rIterT (K : PySem.W.Frag) (n : Nat) : List V → Hp → VK → Prop := fun xs H Q => ∃ (l : Addr) (zs : List V), xs = [.ref l] ∧ SqT K H l zs ∧ ∀ it, H it = none → n ≤ it → Q (.ref it) (upd H it (ItTO l it))
theorem call_iterTup {prog : Program} {w : World} {A : Around} {E : Value → Shared → Prop} {s : Shared} {l : Addr} {items : Array Value} {Q : Value → Shared → Prop} (hl : s.heap.IsTuple l items) (h : Q (.ref s.heap.objs.size) { s with heap := s.heap.push { cls := .type "tuple_iterator", data := .fields #[.ref l, .int 0 0] } }) : wpAny (model prog w) A (call (.builtin "iter") [.ref l]) Q E s := by
  refine Calls.call_function_entry (by decide +kernel) (by decide +kernel) PySem.W.kdk_entry_iter (PySem.W.kdk_args_iter _) ?_
  unfold Builtin.«iter»
  refine wpAny_bind (wpAny_of_eq (a := [Value.ref l]) (by first | rfl | kernel_rfl!) ?_)
  show wpAny _ _ (pyIter (.ref l) >>= _) _ _ _
  refine wpAny_bind (wpAny_pyIter_tuple hl ?_)
  exact wpAny_pure ⟨_, rfl, h⟩
theorem itT_ok {P : Program} {w : World} {H : Hp} {h : Heap} {it l : Addr} (e : h.IsTupleIter it l 0) : ObjOk P w H h it (ItTO l it) := ⟨e, (let ⟨o, ho, _⟩ := e; ⟨o, ho⟩), fun h1 h2 q k => Heap.IsTupleIter.at q fun o ho => k _ ho⟩
section
variable {X : Cx}
theorem call_iterT : CallR X (.builtin "iter") (rIterT X.K X.s_0.heap.objs.size) := by
  intro pins s σ H xs us Q I r h
  obtain ⟨l, zs, rfl, hq, q⟩ := h
  obtain ⟨u, rfl, ru⟩ := vals1 r
  cases ru
  obtain ⟨its, rv, pl, hz⟩ := I.tuple hq
  refine call_iterTup (show s.heap.IsTuple l its.toArray from pl) ?_
  exact ⟨.ref s.heap.objs.size, _, I.laid (t' := s.toks) (fun b u e => Heap.get?_push_of_some _ e) (Nat.le_refl _) (itT_ok ⟨_, Heap.get?_push_size _ rfl, rfl, rfl⟩), rfl, q _ (I.hok.fresh (Nat.le_refl _)) I.sz⟩
end
/-- as fn_of, the promise told at the heap's size -/
theorem fn_ofN {CX : CXT} {P : Program} {w : World} {K : PySem.W.Frag} {mg : Str → Option Value} {base : Heap} {k : Nat} {f : Addr} {name qual : Str} {params : Arguments} {body : List Stmt} {scope : Scope} {dV kV doc pm cdv ct oc : Value} {an od : Option Addr}
    {osl : Array (Option Value)} {N ps : List Str} {sp : Nat → Sp} (lk : K.lookup f = some ⟨oc, od, .func (PySem.W.fnOf name qual params body scope dV kV doc pm an cdv ct), osl⟩) (hcd : PySem.W.codeIn K cdv qual = true) (S : FnScope N ps scope)
    (len : ∀ n vs H Q E, sp n vs H Q E → vs.length = ps.length)
    (hbody : ∀ (A : Around) (outer : List Env) (s : Shared) (H : Hp) (vs : List V) (Q : VK) (E : XK), Room k (A.deeper (envOfC qual scope s.heap.objs.size f cdv)) → sp s.heap.objs.size vs H Q E →
      ∃ t, PSs (cxOf CX P w K mg base N qual scope f cdv A outer s H E) body t ∧ t { nx := fun _ H' => Q .non H', rt := Q } (L2.start N vs) H)
    (A : Around) (outer : List Env) (s : Shared) (H : Hp) (args : Args) (us : List Value) (vs : List V) (Q : VK) (E : XK) (hr : Room (k + 1) A) (e0 : Env0 P w K mg base A outer s H) (hb : BindsTo s (PySem.W.fnOf name qual params body scope dV kV doc pm an cdv ct) args (ps.zip us)) (r : Vals vs us) (hsp : sp s.heap.objs.size vs H Q E) :
    codeAny (model P w) A (.call (.ref f) args) (CR CX outer P w H s Q E) s := by
  have hl := len _ _ _ _ _ hsp
  have KX : K.In s.heap := e0.mod.kin.keeps fun b o e => (e0.bs b o e).1
  have lim : s.heap.NoLimit := e0.mod.nolimit.keeps fun b o e => (e0.bs b o e).1
  have hkind : ∀ y ∈ ps.zip us, scope.names.lookup y.1 = some .local ∨ (scope.names.lookup y.1 = some .cell ∧ ((cellsFrom (s.heap.objs.size + 1) scope.names []).lookup y.1).isSome = true) := fun ⟨n, v⟩ hy => by
    rcases S.par n (List.of_mem_zip hy).1 with q | q
    · exact .inl q
    · exact .inr ⟨q, PySem.W.cellsFrom_some _ _ _ (.inl q)⟩
  refine codeAny_call_function hr.depth (KX _ _ lk) rfl S.co S.gen rfl (PySem.W.codeRec_of KX hcd) (hb _ _ _ _ ?_)
  refine wpAny_newFunctionEnv_cells S.kind hkind fun env he s1 x => ?_
  subst he
  refine ⟨lim.keeps x.toInCall.keep, codeAny_func ?_⟩
  obtain ⟨t, ht, hq⟩ := hbody A outer s H vs Q E (hr.deeper _) hsp
  have I : Inv (cxOf CX P w K mg base N qual scope f cdv A outer s H E) [] (L2.start N vs) H s1 := inv_start S hr.hd e0 hl r x
  refine wpAny_mono (ht.run [] s1 (L2.start N vs) H _ I hq) (fun fl s' hs => ?_) fun e s' hs => hs
  have fin : ∀ {σ' : St} {H' : Hp} {v : V} {u : Value}, Inv (cxOf CX P w K mg base N qual scope f cdv A outer s H E) [] σ' H' s' → RelV v u → Q v H' → CE outer P w H s Q u s' :=
    fun {σ' H' v u} J rv q => ⟨v, H', J.os, J.bare, J.base, J.hok, rv, q⟩
  cases fl with
  | ret u =>
    obtain ⟨v, σ', H', J, rv, q⟩ := hs
    exact fin J rv q
  | next =>
    obtain ⟨σ', H', J, q⟩ := hs
    exact fin (v := V.non) (u := Value.none) J rfl q
  | brk =>
    obtain ⟨_, _, _, q⟩ := hs
    exact False.elim q
  | cont =>
    obtain ⟨_, _, _, q⟩ := hs
    exact False.elim q
/-- what __iter__ promises -/
def spIter (C : VX) (c i : Nat) (n : Nat) : Sp := fun vs H Q _ => ∃ x dx xs a zs, vs = [.ref x] ∧ H x = some (.ins (C.ca c) dx ((C.cf c).zip xs)) ∧ xs[i]? = some (.ref a) ∧ SqT C.K H a zs ∧ ∀ it, H it = none → n ≤ it → Q (.ref it) (upd H it (ItTO a it))
/-- the class c's __iter__: its i-th field walked -/
structure IterOk (X : Cx) (C : VX) (c i : Nat) : Prop where
  ex : ∃ (f : Addr) (fd : FuncData) (k : Nat), PySem.W.findIn X.K (.ref (C.ca c)) "__iter__" = some (some (.ref f)) ∧ PySem.W.isFn X.K (.ref f) = true ∧ Room k X.A ∧ Binds X.K fd ["self"] [] ∧
    ∀ (A : Around) (outer : List Env) (s : Shared) (H : Hp) (args : Args) (us : List Value) (vs : List V) (Q : VK) (E : XK), Room k A → Env0 X.prog X.w X.K X.mg X.base A outer s H → BindsTo s fd args ((["self"] : List Str).zip us) → Vals vs us → spIter C c i s.heap.objs.size vs H Q E →
      codeAny (model X.prog X.w) A (.call (.ref f) args) (CR (L2.CX X.prog X.w) outer X.prog X.w H s Q E) s
section
variable {X : Cx} {C : VX} {W : WX} {c i : Nat}
theorem scSelf_of {st : Stmt} (h : FnScope ["self"] ["self"] (defScope st)) : FnScope ["self"] ["self"] (defScope st) := h
/-- the text's __iter__ -/
theorem iter_ok {P : Program} {w : World} {K : PySem.W.Frag} {mg : Str → Option Value} {base : Heap} {qual fl : Str} {st : Stmt} {f : Addr} {fd : FuncData} {k : Nat} {p1 p2 p3 p4 p5 : Pos} (F : Fun K "__iter__" qual st f fd) (S : FnScope ["self"] ["self"] (defScope st))
    (hbody : defBody st = [.Return (some (.Call (.Name "iter" p1) [.Attribute (.Name "self" p2) fl p3] [] p4)) p5]) (hsc : (defScope st).names.lookup ("self" : Str) = some NameKind.local) (hit : (defScope st).names.lookup ("iter" : Str) = some NameKind.globalImplicit) (hm : mg "iter" = none) (hK : C.K = K)
    (cl : Cls K (C.ca c)) (na : NoAttr K (C.ca c) fl) (h1 : (C.cf c)[i]? = some fl) (h2 : fl ∉ (C.cf c).take i) :
    ∀ (A : Around) (outer : List Env) (s : Shared) (H : Hp) (args : Args) (us : List Value) (vs : List V) (Q : VK) (E : XK), Room (k + 1) A → Env0 P w K mg base A outer s H → BindsTo s fd args ((["self"] : List Str).zip us) → Vals vs us → spIter C c i s.heap.objs.size vs H Q E →
      codeAny (model P w) A (.call (.ref f) args) (CR (L2.CX P w) outer P w H s Q E) s := by
  obtain ⟨oc, od, kV, doc, pm, an, cdv, ct, osl, rfl, lk, hcd⟩ := F.ex
  refine fn_ofN lk hcd S (fun n vs H Q E h => ?_) (fun A outer s H vs Q E hr h => ?_)
  · obtain ⟨x, dx, xs, a, zs, rfl, _⟩ := h
    rfl
  · rw [hbody]
    obtain ⟨x, dx, xs, a, zs, rfl, q1, q2, q3, q4⟩ := h
    refine ⟨_, pss_one (ps_ret (pe_callB call_iterT ?_ hm (by decide +kernel) (pa_cons (pe_fld (pv 0 rfl (.inl hsc)) ?_) pa_nil))), ?_⟩
    · exact hit
    · rfl
    · refine ⟨.ref x, rfl, x, C.ca c, dx, _, .ref a, rfl, q1, cl, na, (zip_get h1 h2).trans q2, a, zs, rfl, ?_, q4⟩
      rw [hK] at q3
      exact q3
end
end L2.VD

namespace L2.VD
open PySem PySem.Spec PyProof.Rows

section
variable {X : Cx} {C : VX} {W : WX} {tg : Expr} {c i : Nat}
theorem csiuF {M : Model} {A : Around} {E : Value → Shared → Prop} {s : Shared} {K : PySem.W.Frag} {x c f : Addr} {name : PySem.Str} {ox : Obj} {od : Option Obj} {refuse : Sem Value} {Q : Option Value → Shared → Prop} (X : K.In s.heap) (I : PySem.W.InstAt s.heap x ox c od) (hs : PySem.W.findIn K (.ref c) name = some (some (.ref f))) (hf : PySem.W.isFn K (.ref f) = true)
    (h : wpAny M A (call (.ref f) [.ref x]) (fun v => Q (some v)) E s) : wpAny M A (callSpecialIfBoundUnlessNone? (.ref x) name refuse) Q E s := by
  simp only [callSpecialIfBoundUnlessNone?, bindSpecialIfBound?]
  refine wpAny_holding (wpAny_bind (wpAny_bind (wpAny_bind (I.type.here ((PySem.W.looks_findIn X hs).here ?_)))))
  refine wpAny_bind (wpAny_askSetting (wpAny_ite ?_))
  have fin : wpAny M A (if (Value.ref f == Value.none) = true then (refuse >>= fun v => pure (some v)) else (call (.ref f) [.ref x] >>= fun v => pure (some v))) Q E s := by
    rw [if_neg (by simp)]
    exact wpAny_bind (wpAny_mono h (fun v s' h' => wpAny_pure h') fun _ _ h' => h')
  split
  · exact wpAny_bind ((PySem.W.bind_fn X _ (beq_iff_eq.mp hf)).here (wpAny_pure (by exact fin)))
  · exact wpAny_tryCatch (wpAny_bind ((PySem.W.bind_fn X _ (beq_iff_eq.mp hf)).here (wpAny_pure (by exact fin))))
theorem PIE_own (ho : IterOk X C c i) (hK : C.K = X.K) {pins : List (Addr × Obj)} {σ : St} {H1 : Hp} {s1 : Shared} {R : It → Hp → Prop} {x a dx : Addr} {xs zs : List V} (I1 : Inv X pins σ H1 s1) (hx : H1 x = some (.ins (C.ca c) dx ((C.cf c).zip xs))) (hi : xs[i]? = some (.ref a)) (hz : SqT X.K H1 a zs) (q : R (Itt X.K a) H1) :
    wpAny (model X.prog X.w) X.A (pyIter (.ref x)) (PIE X pins σ tg R) X.xe s1 := by
  obtain ⟨f, fd, k, h1, h2, h3, h4, h5⟩ := ho.ex
  obtain ⟨mA, J, _⟩ := ins_get I1.hok hx
  obtain ⟨od, J, _⟩ := J.look
  unfold pyIter
  have sp : PySem.W.Looks (model X.prog X.w) s1.heap (specialOf (.ref x) "__iter__") (some (.ref f)) := J.type.andThen (PySem.W.looks_findIn I1.kIn h1)
  refine wpAny_bind (sp.here ?_)
  show wpAny _ _ (callSpecialIfBoundUnlessNone? (.ref x) "__iter__" _ >>= _) _ _ s1
  refine wpAny_bind (csiuF I1.kIn J h1 h2 ?_)
  have hb := h4 s1 [.ref x] I1.kIn rfl
  have e0 := I1.env0
  refine wpAny_call (codeAny_mono (h5 X.A X.stack s1 H1 ⟨[.ref x], []⟩ [.ref x] [.ref x] (fun v H' => ∃ it, v = .ref it ∧ H1 it = none ∧ s1.heap.objs.size ≤ it ∧ H' = upd H1 it (ItTO a it)) (fun _ _ _ => False) h3 e0 hb (.cons rfl .nil)
    ⟨x, dx, xs, a, zs, rfl, hx, hi, by rw [hK]; exact hz, fun it h0 hn => ⟨it, rfl, h0, hn, rfl⟩⟩) fun r s' hq => ?_)
  cases r with
  | error e => exact passes0 pins H1 s1 e s' I1 hq
  | ok fl =>
    cases fl with
    | next => exact False.elim hq
    | brk => exact False.elim hq
    | cont => exact False.elim hq
    | ret u =>
      obtain ⟨v, H', I', rv, it, rfl, hn, hsz, rfl⟩ := I1.after hq
      cases rv
      have e1 : upd H1 it (ItTO a it) it = some (ItTO a it) := upd_same
      have st : s'.heap.IsTupleIter it a 0 := (I'.hok it _ e1).1
      have hT : Shared.TypeIs s' (.ref it) "tuple_iterator" := st.typeIs
      refine wpAny_bind (wpAny_specialOf hT PySem.F.slot_tuple_iterator_next.lookup (wpAny_pure ?_))
      have hs0 : X.s_0.heap.objs.size ≤ it := Nat.le_trans I1.sz hsz
      have Id := ItX.inv_drop I' e1
      have fp := ItX.inv_fp I' e1 hs0
      rw [ItX.dropH_upd hn] at Id fp
      refine ⟨it, [it], _, _, H1, rfl, Id, turn_tuple a it, st, fun b hb => ?_, q⟩
      have e : b = it := by simpa using hb
      subst e
      exact fp
def tupT : T → Option (List T)
  | .tup us => some us
  | _ => none
/-- a list, a tuple, a text, an instance -/
def itemsO (tbl : Nat → Option Nat) (t : T) : Option (List T) := match t with
  | .obj c ts => (tbl c).bind fun i => (ts[i]?).bind tupT
  | _ => itemsT t
def dItemsO (tbl : Nat → Option Nat) (da : DE) : DI := fun e => (da e).bind fun o e1 => Res.of (itemsO tbl o.t) e1
def iSeqO (X : Cx) (C : VX) (tbl : Nat → Option Nat) (tl : TE) : TI := fun σ H R => tl σ H fun x H1 => (∃ a, x = .ref a ∧ (∃ xs, SqL X.K H1 a xs) ∧ R (Itl X.K a) H1) ∨ (∃ a, x = .ref a ∧ (∃ xs, SqT X.K H1 a xs) ∧ R (Itt X.K a) H1) ∨ (∃ z, x = .str z ∧ R (Its z) H1) ∨
  ∃ y c i dx xs a zs, x = .ref y ∧ tbl c = some i ∧ H1 y = some (.ins (C.ca c) dx ((C.cf c).zip xs)) ∧ xs[i]? = some (.ref a) ∧ SqT X.K H1 a zs ∧ R (Itt X.K a) H1
theorem pi_seqO {l : Expr} {tl : TE} {tbl : Nat → Option Nat} (hK : C.K = X.K) (ht : ∀ c i, tbl c = some i → IterOk X C c i) (hl : PE X l tl) : PI X tg l (iSeqO X C tbl tl) := by
  refine ⟨fun pins s σ H R I h => ?_⟩
  refine thn (hl.run pins s σ H _ I h) fun v s1 ⟨x, H1, I1, r1, q1⟩ => ?_
  rcases q1 with ⟨a, rfl, ⟨xs, hq⟩, q⟩ | ⟨a, rfl, ⟨xs, hq⟩, q⟩ | ⟨z, rfl, q⟩ | ⟨y, c, i, dx, xs, a, zs, rfl, h1, h2, h3, h4, q⟩
  · cases r1
    exact PIE_list I1 hq q
  · cases r1
    exact PIE_tup I1 hq q
  · obtain ⟨t, rfl⟩ := r1
    cases ha : z.cps.all (· < 128)
    · exact wpAny_pyIter_wide ha (pi_one (tk := s1.toks) I1 _ (turn_str _ z t "str_iterator" (.inr rfl)) ⟨_, Heap.get?_push_size _ rfl, rfl, rfl⟩ q)
    · exact wpAny_pyIter_ascii ha (pi_one (tk := s1.toks) I1 _ (turn_str _ z t "str_ascii_iterator" (.inl rfl)) ⟨_, Heap.get?_push_size _ rfl, rfl, rfl⟩ q)
  · cases r1
    exact PIE_own (ht c i h1) hK I1 h2 h3 h4 q
theorem i_seqO {a : Expr} {da : DE} {tbl : Nat → Option Nat} (ht : ∀ c i, tbl c = some i → IterOk X C c i) (ha : PE X a (tD C W da)) (hK : C.K = X.K := by rfl) : PI X tg a (tDI C W (dItemsO tbl da)) := (pi_seqO hK ht ha).imp fun σ H R ⟨e, G, hs, h⟩ => by
  refine tD_T (s := ⟨e, σ, H, G⟩) hs ((SatE.bind h).mono fun o s1 hs1 x1 e1 h1 v rv => ?_)
  obtain ⟨ts, ho, k⟩ := SatE.of h1
  have k := k s1.H s1.G hs1 (Ext.refl _)
  rw [← hK]
  cases q : o.t with
  | lst us =>
    rw [q] at ho rv
    cases ho
    obtain ⟨p, xs, rfl, h2, h3⟩ := rv
    exact .inl ⟨p, rfl, ⟨xs, .of (hs1.sub _ _ h2)⟩, k _ (jok_list (.of h2) h3)⟩
  | sq us =>
    rw [q] at ho rv
    cases ho
    obtain ⟨p, xs, rfl, h2, h3⟩ := rv
    exact .inl ⟨p, rfl, ⟨xs, sqL_mono hs1.sub h2⟩, k _ (jok_list h2 h3)⟩
  | tup us =>
    rw [q] at ho rv
    cases ho
    obtain ⟨p, xs, rfl, h2, h3⟩ := rv
    exact .inr (.inl ⟨p, rfl, ⟨xs, sqT_mono hs1.sub h2⟩, k _ (jok_tup h2 h3)⟩)
  | str x =>
    rw [q] at ho rv
    cases ho
    cases rv
    exact .inr (.inr (.inl ⟨x, rfl, k _ jok_str⟩))
  | non => rw [q] at ho; cases ho
  | bl b => rw [q] at ho; cases ho
  | int i => rw [q] at ho; cases ho
  | obj c us =>
    rw [q] at ho rv
    have ho : ((tbl c).bind fun i => (us[i]?).bind tupT) = some ts := ho
    cases q1 : tbl c with
    | none => rw [q1] at ho; exact nomatch ho
    | some i =>
      rw [q1] at ho
      have ho : ((us[i]?).bind tupT) = some ts := ho
      cases q2 : us[i]? with
      | none => rw [q2] at ho; exact nomatch ho
      | some u =>
        rw [q2] at ho
        have ho : tupT u = some ts := ho
        obtain ⟨y, dx, xs, rfl, r1, r2, r3⟩ := rv
        obtain ⟨w, w1, w2⟩ := r3.get q2
        cases u with
        | tup vs =>
          cases ho
          obtain ⟨p, zs, rfl, h2, h3⟩ := w2
          exact .inr (.inr (.inr ⟨y, c, i, dx, xs, p, zs, rfl, q1, hs1.sub _ _ r1, w1, sqT_mono hs1.sub h2, k _ (jok_tup h2 h3)⟩))
        | _ => exact nomatch ho
end
end L2.VD

namespace L2.VD
open PySem PySem.Spec PyProof.Rows

def tab {α : Type} : List (Nat × α) → Nat → Option α
  | [], _ => none
  | p :: r, d => if Nat.beq d p.1 then some p.2 else tab r d
theorem tab_nil {α : Type} {P : Nat → α → Prop} : ∀ d u, tab ([] : List (Nat × α)) d = some u → P d u := fun d u h => nomatch h
theorem tab_cons {α : Type} {P : Nat → α → Prop} {c : Nat} {v : α} {r : List (Nat × α)} (h : P c v) (hr : ∀ d u, tab r d = some u → P d u) : ∀ d u, tab ((c, v) :: r) d = some u → P d u := by
  intro d u e
  unfold tab at e
  split at e
  · rename_i q
    have q := Nat.eq_of_beq_eq_true q
    cases e
    subst q
    exact h
  · exact hr d u e
section
variable {X : Cx} {C : VX} {c np : Nat}
theorem own_mk {nm : Str} {F : DF} {f : Addr} {fd : FuncData} {ps : List Str} {k : Nat} (h1 : PySem.W.findIn X.K (.ref (C.ca c)) nm = some (some (.ref f))) (h2 : PySem.W.isFn X.K (.ref f) = true) (h3 : FnOk X.prog X.w X.K X.mg X.base (L2.CX X.prog X.w) k f fd ps (spD C np F)) (h4 : Room (k + 2) X.A) (h5 : Binds X.K fd ps []) : OwnOk X C nm c np F := ⟨⟨f, fd, ps, k, h1, h2, h3, h4, h5⟩⟩
theorem optbl_mk {op : Operator} {l : List (Nat × DF)} (h : ∀ c F, tab l c = some F → OwnOk X C (PySem.dunder op.info.2) c 2 F ∧ PySem.W.selfFirst X.K (C.ca c) = true) : OpTbl X C op (tab l) := ⟨fun c F e => (h c F e).1, fun c F e => (h c F e).2⟩
theorem owntbl_mk {nm : Str} {l : List (Nat × DF)} (h : ∀ c F, tab l c = some F → OwnOk X C nm c 1 F) : OwnTbl X C nm (tab l) := ⟨h⟩
/-- what == of a class leans on -/
structure EqFacts (K : PySem.W.Frag) (C : VX) (c : Nat) : Prop where
  n1 : PySem.W.subIn K (.type "tuple") (.ref (C.ca c)) = some false
  n2 : PySem.W.subIn K (.type "list") (.ref (C.ca c)) = some false
  n3 : PySem.W.subIn K (.type "int") (.ref (C.ca c)) = some false
  n4 : PySem.W.subIn K (.type "NoneType") (.ref (C.ca c)) = some false
  n5 : PySem.W.subIn K (.type "str") (.ref (C.ca c)) = some false
  n6 : PySem.W.subIn K (.type "bool") (.ref (C.ca c)) = some false
  ne : PySem.W.findIn K (.ref (C.ca c)) "__ne__" = some (some (.builtin "object.__ne__"))
  ob : PySem.W.mroIn K (C.ca c) (.type "object") = some true
theorem eqtbl_mk {l : List (Nat × DF)} (h : ∀ c F, tab l c = some F → OwnOk X C "__eq__" c 2 F ∧ EqFacts X.K C c) (kd : ∀ c F, tab l c = some F → ∀ d, c ≠ d → PySem.W.subIn X.K (.ref (C.ca d)) (.ref (C.ca c)) = some false ∨ C.ca d = C.ca c) : EqTbl X C (tab l) :=
  ⟨fun c F e => (h c F e).1, fun c F e => let z := (h c F e).2; ⟨z.n1, z.n2, z.n3, z.n4, z.n5, z.n6⟩, fun c F e => let z := (h c F e).2; ⟨z.ne, z.ob⟩, fun c d F e => kd c F e d⟩
theorem isi_mk {u : Value} {l : List (Nat × Bool)} (h : ∀ k b, tab l k = some b → PySem.W.kitOne C.K (tyOfKind C k) u = some b ∧ ∀ c, k = c + 6 → InsTy C.K (C.ca c)) : IsiTbl C u (tab l) := ⟨fun k b e => (h k b e).1, fun c b e => (h _ b e).2 c rfl⟩
theorem isis_mk {us : List Value} {l : List (Nat × Bool)} (h : ∀ k b, tab l k = some b → PySem.W.kitAny C.K (tyOfKind C k) us = some b ∧ ∀ c, k = c + 6 → InsTy C.K (C.ca c)) : IsiTbls C us (tab l) := ⟨fun k b e => (h k b e).1, fun c b e => (h _ b e).2 c rfl⟩
theorem lowk {P : Nat → Prop} {k : Nat} (h : k < 6) : ∀ c, k = c + 6 → P c := fun c e => absurd h (by omega)
theorem insk {P : Nat → Prop} {d : Nat} (h : P d) : ∀ c, d + 6 = c + 6 → P c := fun c e => by
  have : d = c := by omega
  exact this ▸ h
theorem mok_mk {m : Str} {me : ME} {f : Addr} {fd : FuncData} {ps : List Str} {k : Nat} {dvs : List V} {us : List Value} (cl : Cls X.K (C.ca c)) (h1 : PySem.W.findIn X.K (.ref (C.ca c)) m = some (some (.ref f))) (h2 : PySem.W.isFn X.K (.ref f) = true) (h2' : PySem.W.keepIn X.K (.ref f) = true) (h3 : FnOk X.prog X.w X.K X.mg X.base (L2.CX X.prog X.w) k f fd ps (spD C me.np me.F)) (h4 : Room k X.A) (h5 : Binds X.K fd ps us) (h6 : Defs C me.ds dvs us) (no : m ∉ C.cf c) : MOk X C m c me :=
  ⟨⟨f, fd, ps, k, dvs, us, cl, ⟨h1, h2, h2'⟩, h3, h4, h5, h6⟩, no⟩
theorem fld_mk {f : Str} {l : List (Nat × Nat)} (h : ∀ c k, tab l c = some k → Cls C.K (C.ca c) ∧ NoAttr C.K (C.ca c) f ∧ (C.cf c)[k]? = some f ∧ f ∉ (C.cf c).take k) : FldTbl C f (tab l) := ⟨h⟩
theorem exc_mk {cv : Value} {l : List (Nat × Bool)} (h : ∀ c b, tab l c = some b → PySem.W.exmOne C.K (.ref (C.ca c)) cv = some b) : ExcTbl C cv (tab l) := ⟨h⟩
/-- a def with defaults by its body's denotation -/
theorem fn_DD {P : Program} {w : World} {K : PySem.W.Frag} {mg : Str → Option Value} {base : Heap} {x qual : Str} {params : Arguments} {bd : List Stmt} {scope : Scope} {dvs : List V} {f : Addr} {fd : FuncData} {N ps : List Str} {k : Nat} {d : DS} (F : FunD K x qual params bd scope dvs [] f fd) (S : FnScope N ps scope) {nl : Nat} (hN : N.length = ps.length + nl)
    (body : ∀ (cdv : Value) (A : Around) (outer : List Env) (s : Shared) (H : Hp) (E : XK), Room k (A.deeper (envOfC qual scope s.heap.objs.size f cdv)) →
      PSs (cxOf (L2.CX P w) P w K mg base N qual scope f cdv A outer s H E) bd (tDS C (fun cls d _ H => E cls d H) d)) :
    FnOk P w K mg base (L2.CX P w) (k + 1) f fd ps (spD C ps.length (fnD nl d)) := by
  refine F.ok S (fun vs H Q E h => h.1) (fun cdv A outer s H vs Q E hr h => ⟨_, body cdv A outer s H E hr, ?_⟩)
  obtain ⟨hv, ss, G, hs, h⟩ := h
  have hl : ss.length = vs.length := by have := hs.len; rw [List.length_map] at this; exact this
  have es : L2.start N vs = vs.map some ++ List.replicate nl none := by
    unfold L2.start
    rw [hN, hv, Nat.add_sub_cancel_left]
  rw [es]
  refine ⟨ss ++ List.replicate nl .un, G, hs.pad nl, ?_⟩
  unfold fnD at h
  cases q : d (ss ++ List.replicate nl .un) with
  | bad => rw [q] at h; exact h
  | ex y e => rw [q] at h; exact fun cls d σ' H' G' z1 z2 z3 => h cls d σ' H' G' z1 (z2.unpad hl) z3
  | ok f e =>
    rw [q] at h
    intro σ' H' G' z1 z2
    cases f with
    | bk => exact h.elim
    | ct => exact h.elim
    | nx => exact h σ' H' G' z1 (z2.unpad hl) _ rfl
    | rt o => exact fun v ov => h σ' H' G' z1 (z2.unpad hl) v (ov.from fun a z => z.unpad hl)
theorem kit_rt {K : PySem.W.Frag} {A : Addr} {T : String} {b : Bool} (h : PySem.W.subIn K (.ref A) (.type T) = some b) (hT : PySem.W.kitMeta T = true := by decide +kernel) : PySem.W.kitOne K (.ref A) (.type T) = some b := by
  unfold PySem.W.kitOne
  rw [if_neg (by simp)]
  show (if PySem.W.kitMeta T = true then _ else _) = _
  rw [if_pos hT]
  exact h
theorem kit_tr {K : PySem.W.Frag} {A : Addr} {T : String} {b : Bool} (h : PySem.W.subIn K (.type T) (.ref A) = some b) (h1 : PySem.W.isClsIn K A = true) (h2 : PySem.W.typeIn K (.ref A) = some (.type "type")) : PySem.W.kitOne K (.type T) (.ref A) = some b := by
  unfold PySem.W.kitOne
  rw [if_neg (by simp)]
  have h1' : (PySem.W.clsIn K A).isSome = true := h1
  show (if ((PySem.W.clsIn K A).isSome && PySem.W.typeIn K (.ref A) == some (.type "type")) = true then _ else _) = _
  rw [if_pos (by rw [h1', h2]; rfl)]
  exact h
theorem kit_self {K : PySem.W.Frag} {t : Value} : PySem.W.kitOne K t t = some true := by
  unfold PySem.W.kitOne
  rw [if_pos (by simp)]
theorem kit_rr {K : PySem.W.Frag} {A B : Addr} {b : Bool} (h : PySem.W.subIn K (.ref B) (.ref A) = some b) (hne : b = false) (h1 : PySem.W.isClsIn K A = true) (h2 : PySem.W.typeIn K (.ref A) = some (.type "type")) (hs : PySem.W.subIn K (.ref A) (.ref A) = some true) : PySem.W.kitOne K (.ref B) (.ref A) = some b := by
  unfold PySem.W.kitOne
  have hBA : B ≠ A := fun e => by rw [e, hs, hne] at h; cases h
  rw [if_neg (by simp [hBA])]
  have h1' : (PySem.W.clsIn K A).isSome = true := h1
  show (if ((PySem.W.clsIn K A).isSome && PySem.W.typeIn K (.ref A) == some (.type "type")) = true then _ else _) = _
  rw [if_pos (by rw [h1', h2]; rfl)]
  exact h
theorem kitAny2 {K : PySem.W.Frag} {t c1 c2 : Value} {b1 b2 : Bool} (h1 : PySem.W.kitOne K t c1 = some b1) (h2 : PySem.W.kitOne K t c2 = some b2) : PySem.W.kitAny K t [c1, c2] = some (b1 || b2) := by
  unfold PySem.W.kitAny
  rw [h1]
  cases b1 with
  | true => rfl
  | false =>
    show PySem.W.kitAny K t [c2] = some b2
    unfold PySem.W.kitAny
    rw [h2]
    cases b2 <;> rfl
theorem exm_of {K : PySem.W.Frag} {A S : Addr} {b : Bool} (h1 : PySem.W.subIn K (.ref S) (.type "BaseException") = some true) (h2 : PySem.W.isClsIn K S = true) (h3 : PySem.W.typeIn K (.ref S) = some (.type "type")) (h4 : PySem.W.subIn K (.ref A) (.ref S) = some b) :
    PySem.W.exmOne K (.ref A) (.ref S) = some b := by
  have e1 : (PySem.W.subIn K (.ref S) (.type "BaseException") == some true) = true := by rw [h1] <;> rfl
  have e2 : ((PySem.W.clsIn K S).isSome && PySem.W.typeIn K (.ref S) == some (.type "type")) = true := by
    have h2' : (PySem.W.clsIn K S).isSome = true := h2
    rw [h2', h3] <;> rfl
  show (if (PySem.W.subIn K (.ref S) (.type "BaseException") == some true) = true then (if ((PySem.W.clsIn K S).isSome && PySem.W.typeIn K (.ref S) == some (.type "type")) = true then PySem.W.subIn K (.ref A) (.ref S) else none) else none) = some b
  rw [if_pos e1, if_pos e2]
  exact h4
theorem boot_bool' : bootBuiltins "bool" = some (.type "bool") := by decide +kernel
theorem boot_str' : bootBuiltins "str" = some (.type "str") := by decide +kernel
theorem defs_non {C : VX} {us : List Value} (h : Vals [V.non] us) : Defs C [.non] [V.non] us := ⟨fun _ => ⟨_, _, rfl, rfl, rfl⟩, h⟩
end
end L2.VD

namespace L2.VD.K01
open PySem PySem.Spec PyProof.Rows
def topS (i : Nat) : Stmt := PySem.Challenge.pw_gridmetric_k01_matrix_arithmetic.main.body.getD i (.Pass ⟨0, 0, 0, 0⟩)
abbrev s_is_integer : Stmt := topS 5
abbrev s_dot : Stmt := topS 6
abbrev s_checked : Stmt := topS 8
abbrev s_unit_rows : Stmt := topS 9
abbrev s_Grid_init : Stmt := inClass (topS 10) 0
abbrev s_Grid_len : Stmt := inClass (topS 10) 1
abbrev s_Grid_iter : Stmt := inClass (topS 10) 2
abbrev s_Grid_eq : Stmt := inClass (topS 10) 3
abbrev s_Grid_add : Stmt := inClass (topS 10) 4
abbrev s_Grid_sub : Stmt := inClass (topS 10) 5
abbrev s_Grid_mul : Stmt := inClass (topS 10) 6
abbrev s_Grid_neg : Stmt := inClass (topS 10) 7
abbrev s_Grid_scaled : Stmt := inClass (topS 10) 8
abbrev s_Grid_transposed : Stmt := inClass (topS 10) 9
abbrev s_Grid_times : Stmt := inClass (topS 10) 10
abbrev s_Grid_before : Stmt := inClass (topS 10) 11
abbrev s_Grid_stacked : Stmt := inClass (topS 10) 12
abbrev s_Grid_is_square : Stmt := inClass (topS 10) 13
abbrev s_unit : Stmt := topS 11
abbrev s_diagonal : Stmt := topS 12
abbrev s_blocks : Stmt := topS 13
abbrev s_law_state : Stmt := topS 15
abbrev s_law_take : Stmt := topS 16
abbrev s_law_rows : Stmt := topS 17
abbrev s_law_product : Stmt := topS 18
abbrev s_law_is_rows : Stmt := topS 19
abbrev s_law_malformed : Stmt := topS 20
abbrev s_law : Stmt := topS 21
def b_is_integer : DS := (dRet (dAndV (dIsi (tab [(0, false), (1, true), (2, true), (3, false), (4, false), (5, false), (8, false)]) (dVar 0)) (dNotV (dIsi (tab [(0, false), (1, true), (2, false), (3, false), (4, false), (5, false), (8, false)]) (dVar 0)))))
def f_is_integer : DF := fnD 0 b_is_integer
def b_dot : DS := (dRet (dCB fSum (dCons (dLc (dZip (dCons (dVar 0) (dCons (dVar 1) dNil))) (gT 2 (gsCons (gN 2) (gsCons (gN 3) gsNil))) dYes (dOp fMul (dVar 2) (dVar 3)) [2, 3]) dNil)))
def f_dot : DF := fnD 2 b_dot
def b_checked : DS := (dSeq (dSet 2 (dLst dNil)) (dSeq (dFor (dItems (dVar 0)) (gN 3) (dSeq (dIfS (dOr (dNot (dTru (dIsi (tab [(0, false), (1, false), (2, false), (3, false), (4, true), (5, true), (8, false)]) (dVar 3)))) (dTst (dOp fNe (dLenN 3) (dVar 1)))) (dRaise 1) dNx) (dSeq (dFor (dItems (dVar 3)) (gN 4) (dIfS (dNot (dTru (dCall 1 f_is_integer [] (cVal (dVar 4) cNil)))) (dRaise 1) dNx)) (dApp 2 (dCB fTuple (dCons (dVar 3) dNil)))))) (dRet (dCB fTuple (dCons (dVar 2) dNil)))))
def f_checked : DF := fnD 3 b_checked
def b_unit_rows : DS := (dRet (dLc (dRng (dCons (dVar 0) dNil)) (gN 1) dYes (dLc (dRng (dCons (dVar 0) dNil)) (gN 2) dYes (dCB fInt (dCons (dOp fEq (dVar 1) (dVar 2)) dNil)) [2]) [1]))
def f_unit_rows : DF := fnD 2 b_unit_rows
def b_Grid_init : DS := (dSeq (dIfS (dNot (dTru (dIsi (tab [(0, false), (1, false), (2, false), (3, false), (4, true), (5, true), (8, false)]) (dVar 1)))) (dRaise 1) dNx) (dSeq (dIfS (dTst (dOp fIsN (dVar 2) (dC .non))) (dSeq (dSet 2 (dC (.int 0))) (dIfS (dAnd (dTst (dOp fGt (dLenN 1) (dC (.int 0)))) (dTru (dIsi (tab [(0, false), (1, false), (2, false), (3, false), (4, true), (5, true), (8, false)]) (dIdxN 1 (dC (.int 0)))))) (dSet 2 (dCB fLen (dCons (dIdxN 1 (dC (.int 0))) dNil))) dNx)) dNx) (dSeq (dSetF 0 (tab [(2, 0)]) (dCall 2 f_checked [] (cVal (dVar 1) (cVal (dVar 2) cNil)))) (dSetF 0 (tab [(2, 1)]) (dVar 2)))))
def f_Grid_init : DF := fnD 0 b_Grid_init
def b_Grid_len : DS := (dRet (dCB fLen (dCons (dFld (tab [(2, 0)]) (dVar 0)) dNil)))
def f_Grid_len : DF := fnD 0 b_Grid_len
def b_Grid_eq : DS := (dRet (dAndV (dIsi (tab [(0, false), (1, false), (2, false), (3, false), (4, false), (5, false), (8, true)]) (dVar 1)) (dAndV (dOp fEq (dFld (tab [(2, 0)]) (dVar 0)) (dFld (tab [(2, 0)]) (dVar 1))) (dOp fEq (dFld (tab [(2, 1)]) (dVar 0)) (dFld (tab [(2, 1)]) (dVar 1))))))
def f_Grid_eq : DF := fnD 0 b_Grid_eq
def b_Grid_add : DS := (dSeq (dIfS (dOr (dTst (dOp fNe (dCB fLen (dCons (dFld (tab [(2, 0)]) (dVar 0)) dNil)) (dCB fLen (dCons (dFld (tab [(2, 0)]) (dVar 1)) dNil)))) (dTst (dOp fNe (dFld (tab [(2, 1)]) (dVar 0)) (dFld (tab [(2, 1)]) (dVar 1))))) (dRaise 1) dNx) (dRet (dMake 2 2 3 f_Grid_init [] (dCons (dLc (dZip (dCons (dFld (tab [(2, 0)]) (dVar 0)) (dCons (dFld (tab [(2, 0)]) (dVar 1)) dNil))) (gT 2 (gsCons (gN 2) (gsCons (gN 3) gsNil))) dYes (dLc (dZip (dCons (dVar 2) (dCons (dVar 3) dNil))) (gT 2 (gsCons (gN 4) (gsCons (gN 5) gsNil))) dYes (dOp fAdd (dVar 4) (dVar 5)) [4, 5]) [2, 3]) (dCons (dFld (tab [(2, 1)]) (dVar 0)) dNil)))))
def f_Grid_add : DF := fnD 4 b_Grid_add
def b_Grid_sub : DS := (dSeq (dIfS (dOr (dTst (dOp fNe (dCB fLen (dCons (dFld (tab [(2, 0)]) (dVar 0)) dNil)) (dCB fLen (dCons (dFld (tab [(2, 0)]) (dVar 1)) dNil)))) (dTst (dOp fNe (dFld (tab [(2, 1)]) (dVar 0)) (dFld (tab [(2, 1)]) (dVar 1))))) (dRaise 1) dNx) (dRet (dMake 2 2 3 f_Grid_init [] (dCons (dLc (dZip (dCons (dFld (tab [(2, 0)]) (dVar 0)) (dCons (dFld (tab [(2, 0)]) (dVar 1)) dNil))) (gT 2 (gsCons (gN 2) (gsCons (gN 3) gsNil))) dYes (dLc (dZip (dCons (dVar 2) (dCons (dVar 3) dNil))) (gT 2 (gsCons (gN 4) (gsCons (gN 5) gsNil))) dYes (dOp fSub (dVar 4) (dVar 5)) [4, 5]) [2, 3]) (dCons (dFld (tab [(2, 1)]) (dVar 0)) dNil)))))
def f_Grid_sub : DF := fnD 4 b_Grid_sub
def b_Grid_mul : DS := (dSeq (dIfS (dTst (dOp fNe (dFld (tab [(2, 1)]) (dVar 0)) (dCB fLen (dCons (dFld (tab [(2, 0)]) (dVar 1)) dNil)))) (dRaise 1) dNx) (dSeq (dSet 2 (dLc (dRng (dCons (dFld (tab [(2, 1)]) (dVar 1)) dNil)) (gN 3) dYes (dLc (dItems (dFld (tab [(2, 0)]) (dVar 1))) (gN 4) dYes (dIdxN 4 (dVar 3)) [4]) [3])) (dRet (dMake 2 2 3 f_Grid_init [] (dCons (dLc (dItems (dFld (tab [(2, 0)]) (dVar 0))) (gN 4) dYes (dLc (dItems (dVar 2)) (gN 5) dYes (dCall 2 f_dot [] (cVal (dVar 4) (cVal (dVar 5) cNil))) [5]) [4]) (dCons (dFld (tab [(2, 1)]) (dVar 1)) dNil))))))
def f_Grid_mul : DF := fnD 4 b_Grid_mul
def b_Grid_neg : DS := (dRet (dMake 2 2 3 f_Grid_init [] (dCons (dLc (dItems (dFld (tab [(2, 0)]) (dVar 0))) (gN 1) dYes (dLc (dItems (dVar 1)) (gN 2) dYes (dUn fNeg (dVar 2)) [2]) [1]) (dCons (dFld (tab [(2, 1)]) (dVar 0)) dNil))))
def f_Grid_neg : DF := fnD 2 b_Grid_neg
def b_Grid_scaled : DS := (dRet (dMake 2 2 3 f_Grid_init [] (dCons (dLc (dItems (dFld (tab [(2, 0)]) (dVar 0))) (gN 2) dYes (dLc (dItems (dVar 2)) (gN 3) dYes (dOp fMul (dVar 1) (dVar 3)) [3]) [2]) (dCons (dFld (tab [(2, 1)]) (dVar 0)) dNil))))
def f_Grid_scaled : DF := fnD 2 b_Grid_scaled
def b_Grid_transposed : DS := (dRet (dMake 2 2 3 f_Grid_init [] (dCons (dLc (dRng (dCons (dFld (tab [(2, 1)]) (dVar 0)) dNil)) (gN 1) dYes (dLc (dItems (dFld (tab [(2, 0)]) (dVar 0))) (gN 2) dYes (dIdxN 2 (dVar 1)) [2]) [1]) (dCons (dCB fLen (dCons (dFld (tab [(2, 0)]) (dVar 0)) dNil)) dNil))))
def f_Grid_transposed : DF := fnD 2 b_Grid_transposed
def b_Grid_times : DS := (dSeq (dIfS (dTst (dOp fNe (dLenN 1) (dFld (tab [(2, 1)]) (dVar 0)))) (dRaise 1) dNx) (dRet (dCB fTuple (dCons (dLc (dItems (dFld (tab [(2, 0)]) (dVar 0))) (gN 2) dYes (dCall 2 f_dot [] (cVal (dVar 2) (cVal (dVar 1) cNil))) [2]) dNil))))
def f_Grid_times : DF := fnD 1 b_Grid_times
def b_Grid_before : DS := (dSeq (dIfS (dTst (dOp fNe (dLenN 1) (dCB fLen (dCons (dFld (tab [(2, 0)]) (dVar 0)) dNil)))) (dRaise 1) dNx) (dRet (dCB fTuple (dCons (dLc (dRng (dCons (dFld (tab [(2, 1)]) (dVar 0)) dNil)) (gN 2) dYes (dCall 2 f_dot [] (cVal (dVar 1) (cVal (dLc (dItems (dFld (tab [(2, 0)]) (dVar 0))) (gN 3) dYes (dIdxN 3 (dVar 2)) [3]) cNil))) [2]) dNil))))
def f_Grid_before : DF := fnD 2 b_Grid_before
def b_Grid_stacked : DS := (dSeq (dIfS (dTst (dOp fNe (dFld (tab [(2, 1)]) (dVar 0)) (dFld (tab [(2, 1)]) (dVar 1)))) (dRaise 1) dNx) (dRet (dMake 2 2 3 f_Grid_init [] (dCons (dOp fAdd (dFld (tab [(2, 0)]) (dVar 0)) (dFld (tab [(2, 0)]) (dVar 1))) (dCons (dFld (tab [(2, 1)]) (dVar 0)) dNil)))))
def f_Grid_stacked : DF := fnD 0 b_Grid_stacked
def b_Grid_is_square : DS := (dRet (dOp fEq (dCB fLen (dCons (dFld (tab [(2, 0)]) (dVar 0)) dNil)) (dFld (tab [(2, 1)]) (dVar 0))))
def f_Grid_is_square : DF := fnD 0 b_Grid_is_square
def b_unit : DS := (dRet (dMake 2 2 3 f_Grid_init [] (dCons (dCall 1 f_unit_rows [] (cVal (dVar 0) cNil)) (dCons (dVar 0) dNil))))
def f_unit : DF := fnD 0 b_unit
def b_diagonal : DS := (dSeq (dSet 1 (dLenN 0)) (dRet (dMake 2 2 3 f_Grid_init [] (dCons (dLc (dRng (dCons (dVar 1) dNil)) (gN 2) dYes (dLc (dRng (dCons (dVar 1) dNil)) (gN 3) dYes (dIf (dTst (dOp fEq (dVar 2) (dVar 3))) (dIdxN 0 (dVar 2)) (dC (.int 0))) [3]) [2]) (dCons (dVar 1) dNil)))))
def f_diagonal : DF := fnD 3 b_diagonal
def b_blocks : DS := (dSeq (dSet 2 (dLc (dItems (dFld (tab [(2, 0)]) (dVar 0))) (gN 4) dYes (dOp fAdd (dCB fList (dCons (dVar 4) dNil)) (dLc (dRng (dCons (dFld (tab [(2, 1)]) (dVar 1)) dNil)) (gN 5) dYes (dC (.int 0)) [5])) [4])) (dSeq (dSet 3 (dLc (dItems (dFld (tab [(2, 0)]) (dVar 1))) (gN 4) dYes (dOp fAdd (dLc (dRng (dCons (dFld (tab [(2, 1)]) (dVar 0)) dNil)) (gN 5) dYes (dC (.int 0)) [5]) (dCB fList (dCons (dVar 4) dNil))) [4])) (dRet (dMake 2 2 3 f_Grid_init [] (dCons (dOp fAdd (dVar 2) (dVar 3)) (dCons (dOp fAdd (dFld (tab [(2, 1)]) (dVar 0)) (dFld (tab [(2, 1)]) (dVar 1))) dNil))))))
def f_blocks : DF := fnD 4 b_blocks
def b_law_state : DS := (dSeq (dSet 1 (dC (.int 0))) (dSeq (dSet 2 (dC (.int 1))) (dSeq (dFor (dItems (dSl (dVar 0) dNoPart (dPart (dC (.int 63))))) (gN 3) (dSeq (dSet 1 (dOp fAdd (dOp fMul (dVar 1) (dC (.int 1000003))) (dCB fAbs (dCons (dVar 3) dNil)))) (dSet 2 (dOp fMod (dCB fInt (dCons (dOp fAdd (dOp fMul (dVar 2) (dC (.int 48271))) (dVar 3)) dNil)) (dC (.int 2147483647)))))) (dRet (dLst (dCons (dVar 1) (dCons (dVar 2) dNil)))))))
def f_law_state : DF := fnD 3 b_law_state
def b_law_take : DS := (dSeq (dIfS (dTst (dOp fGt (dIdxN 0 (dC (.int 0))) (dC (.int 0)))) (dSeq (dSet 2 (dOp fMod (dCB fInt (dCons (dIdxN 0 (dC (.int 0))) dNil)) (dVar 1))) (dSeq (dSetI 0 (dC (.int 0)) (dOp fDiv (dIdxN 0 (dC (.int 0))) (dVar 1))) (dRet (dVar 2)))) dNx) (dSeq (dSetI 0 (dC (.int 1)) (dOp fMod (dCB fInt (dCons (dOp fAdd (dOp fMul (dIdxN 0 (dC (.int 1))) (dC (.int 48271))) (dC (.int 11))) dNil)) (dC (.int 2147483647)))) (dRet (dOp fMod (dCB fInt (dCons (dOp fDiv (dIdxN 0 (dC (.int 1))) (dC (.int 7))) dNil)) (dVar 1)))))
def f_law_take : DF := fnD 1 b_law_take
def b_law_rows : DS := (dSeq (dSet 4 (dLst dNil)) (dSeq (dFor (dRng (dCons (dVar 1) dNil)) (gN 5) (dApp 4 (dCB fTuple (dCons (dLc (dRng (dCons (dVar 2) dNil)) (gN 6) dYes (dOp fSub (dCall 2 f_law_take [] (cLend 0 (cVal (dOp fAdd (dOp fMul (dC (.int 2)) (dVar 3)) (dC (.int 1))) cNil))) (dVar 3)) [6]) dNil)))) (dSeq (dIfS (dAnd (dTst (dOp fGt (dVar 1) (dC (.int 1)))) (dTst (dOp fEq (dCall 2 f_law_take [] (cLend 0 (cVal (dC (.int 5)) cNil))) (dC (.int 0))))) (dSetI 4 (dOp fSub (dVar 1) (dC (.int 1))) (dCB fTuple (dCons (dLc (dRng (dCons (dVar 2) dNil)) (gN 6) dYes (dOp fMul (dIdx (dIdxN 4 (dC (.int 0))) (dVar 6)) (dC (.int 2))) [6]) dNil))) dNx) (dRet (dCB fTuple (dCons (dVar 4) dNil))))))
def f_law_rows : DF := fnD 3 b_law_rows
def b_law_product : DS := (dSeq (dSet 3 (dLst dNil)) (dSeq (dFor (dItems (dVar 0)) (gN 4) (dSeq (dSet 5 (dLst dNil)) (dSeq (dFor (dRng (dCons (dVar 2) dNil)) (gN 6) (dSeq (dSet 7 (dC (.int 0))) (dSeq (dFor (dRng (dCons (dLenN 1) dNil)) (gN 8) (dSet 7 (dOp fAdd (dVar 7) (dOp fMul (dIdxN 4 (dVar 8)) (dIdx (dIdxN 1 (dVar 8)) (dVar 6)))))) (dApp 5 (dVar 7))))) (dApp 3 (dCB fTuple (dCons (dVar 5) dNil)))))) (dRet (dCB fTuple (dCons (dVar 3) dNil)))))
def f_law_product : DF := fnD 6 b_law_product
def b_law_is_rows : DS := (dSeq (dIfS (dOr (dNot (dTru (dIsi (tab [(0, false), (1, false), (2, false), (3, false), (4, false), (5, false), (8, true)]) (dVar 0)))) (dOr (dNot (dTru (dIsi (tab [(0, false), (1, false), (2, false), (3, false), (4, true), (5, false), (8, false)]) (dFld (tab [(2, 0)]) (dVar 0))))) (dOr (dTst (dOp fNe (dFld (tab [(2, 1)]) (dVar 0)) (dVar 2))) (dTst (dOp fNe (dCB (fLenO (tab [(2, f_Grid_len)])) (dCons (dVar 0) dNil)) (dVar 1)))))) (dRet (dC (.bl false))) dNx) (dSeq (dFor (dItems (dFld (tab [(2, 0)]) (dVar 0))) (gN 3) (dSeq (dIfS (dOr (dNot (dTru (dIsi (tab [(0, false), (1, false), (2, false), (3, false), (4, true), (5, false), (8, false)]) (dVar 3)))) (dTst (dOp fNe (dLenN 3) (dVar 2)))) (dRet (dC (.bl false))) dNx) (dFor (dItems (dVar 3)) (gN 4) (dIfS (dOr (dNot (dTru (dIsi (tab [(0, false), (1, true), (2, true), (3, false), (4, false), (5, false), (8, false)]) (dVar 4)))) (dTru (dIsi (tab [(0, false), (1, true), (2, false), (3, false), (4, false), (5, false), (8, false)]) (dVar 4)))) (dRet (dC (.bl false))) dNx)))) (dRet (dC (.bl true)))))
def f_law_is_rows : DF := fnD 2 b_law_is_rows
def b_law_malformed : DS := (dSeq (dSet 2 (dMake 2 2 3 f_Grid_init [] (dCons (dLst (dCons (dLc (dRng (dCons (dOp fAdd (dFld (tab [(2, 1)]) (dVar 0)) (dC (.int 1))) dNil)) (gN 5) dYes (dC (.int 0)) [5]) dNil)) (dCons (dOp fAdd (dFld (tab [(2, 1)]) (dVar 0)) (dC (.int 1))) dNil)))) (dSeq (dSet 3 (dC (.int 0))) (dSeq (dFor (dRng (dCons (dC (.int 3)) dNil)) (gN 4) (dTry (dSeq (dIfS (dTst (dOp fEq (dVar 4) (dC (.int 0)))) (dDrop (dMake 2 2 3 f_Grid_init [.non] (dCons (dIf (dTst (dOp fEq (dVar 1) (dC (.int 0)))) (dLst (dCons (dLst (dCons (dC (.int 1)) (dCons (dC (.int 2)) dNil))) (dCons (dLst (dCons (dC (.int 3)) dNil)) dNil))) (dIf (dTst (dOp fEq (dVar 1) (dC (.int 1)))) (dLst (dCons (dLst (dCons (dC (.int 1)) (dCons (dC (.bl true)) dNil))) dNil)) (dIf (dTst (dOp fEq (dVar 1) (dC (.int 2)))) (dLst (dCons (dLst (dCons (dC (.str (Str.ofString "1"))) dNil)) dNil)) (dLst (dCons (dTup (dCons (dC (.int 1)) dNil)) (dCons (dTup (dCons (dC (.int 2)) (dCons (dC (.int 3)) dNil))) dNil)))))) dNil))) dNx) (dSeq (dIfS (dTst (dOp fEq (dVar 4) (dC (.int 1)))) (dDrop (dMeth (tab [(2, ⟨2, f_Grid_stacked, []⟩)]) (dVar 0) (cVal (dVar 2) cNil))) dNx) (dIfS (dTst (dOp fEq (dVar 4) (dC (.int 2)))) (dSet 2 (dIf (dTst (dOp fEq (dOp fMod (dVar 1) (dC (.int 2))) (dC (.int 0)))) (dOpO fAdd (tab [(2, f_Grid_add)]) (dVar 0) (dVar 2)) (dOpO fMul (tab [(2, f_Grid_mul)]) (dVar 2) (dMeth (tab [(2, ⟨2, f_Grid_stacked, []⟩)]) (dMeth (tab [(2, ⟨2, f_Grid_stacked, []⟩)]) (dVar 0) (cVal (dMake 2 2 3 f_Grid_init [] (dCons (dLst (dCons (dMeth (tab [(2, ⟨2, f_Grid_before, []⟩)]) (dVar 0) (cVal (dCB fTuple (dCons (dLc (dItemsO (tab [(2, 0)]) (dVar 0)) (gN 6) dYes (dC (.int 0)) [6]) dNil)) cNil)) dNil)) (dCons (dFld (tab [(2, 1)]) (dVar 0)) dNil))) cNil)) (cVal (dVar 0) cNil))))) dNx))) (tab [(1, true)]) (dSet 3 (dOp fAdd (dVar 3) (dC (.int 1)))))) (dRet (dVar 3)))))
def f_law_malformed : DF := fnD 5 b_law_malformed
def b_law : DS := (dSeq (dSet 1 (dCall 1 f_law_state [] (cVal (dVar 0) cNil))) (dSeq (dAsg (dTup (dCons (dCall 2 f_law_take [] (cLend 1 (cVal (dC (.int 4)) cNil))) (dCons (dCall 2 f_law_take [] (cLend 1 (cVal (dC (.int 5)) cNil))) (dCons (dCall 2 f_law_take [] (cLend 1 (cVal (dC (.int 4)) cNil))) dNil)))) (gT 3 (gsCons (gN 2) (gsCons (gN 3) (gsCons (gN 4) gsNil))))) (dSeq (dAsg (dTup (dCons (dCall 4 f_law_rows [] (cLend 1 (cVal (dVar 2) (cVal (dVar 3) (cVal (dC (.int 9)) cNil))))) (dCons (dCall 4 f_law_rows [] (cLend 1 (cVal (dVar 2) (cVal (dVar 3) (cVal (dC (.int 9)) cNil))))) dNil))) (gT 2 (gsCons (gN 5) (gsCons (gN 6) gsNil)))) (dSeq (dSet 7 (dCall 4 f_law_rows [] (cLend 1 (cVal (dVar 3) (cVal (dVar 4) (cVal (dC (.int 9)) cNil)))))) (dSeq (dPar [8, 9, 10] (dCons (dMake 2 2 3 f_Grid_init [] (dCons (dVar 5) (dCons (dVar 3) dNil))) (dCons (dMake 2 2 3 f_Grid_init [] (dCons (dLc (dItems (dVar 6)) (gN 16) dYes (dCB fList (dCons (dVar 16) dNil)) [16]) (dCons (dVar 3) dNil))) (dCons (dMake 2 2 3 f_Grid_init [] (dCons (dVar 7) (dCons (dVar 4) dNil))) dNil)))) (dSeq (dSet 11 (dOp fSub (dCall 2 f_law_take [] (cLend 1 (cVal (dC (.int 9)) cNil))) (dC (.int 4)))) (dSeq (dSet 12 (dLst (dCons (dCB fTuple (dCons (dLc (dRng (dCons (dVar 2) dNil)) (gN 19) dYes (dCB fTuple (dCons (dLc (dZip (dCons (dIdxN 5 (dVar 19)) (dCons (dIdxN 6 (dVar 19)) dNil))) (gT 2 (gsCons (gN 20) (gsCons (gN 21) gsNil))) dYes (dOp fAdd (dVar 20) (dVar 21)) [20, 21]) dNil)) [19]) dNil)) dNil))) (dSeq (dApp 12 (dCB fTuple (dCons (dLc (dRng (dCons (dVar 2) dNil)) (gN 19) dYes (dCB fTuple (dCons (dLc (dZip (dCons (dIdxN 5 (dVar 19)) (dCons (dIdxN 6 (dVar 19)) dNil))) (gT 2 (gsCons (gN 20) (gsCons (gN 21) gsNil))) dYes (dOp fSub (dVar 20) (dVar 21)) [20, 21]) dNil)) [19]) dNil))) (dSeq (dApp 12 (dCB fTuple (dCons (dLc (dItems (dVar 5)) (gN 16) dYes (dCB fTuple (dCons (dLc (dItems (dVar 16)) (gN 20) dYes (dUn fNeg (dVar 20)) [20]) dNil)) [16]) dNil))) (dSeq (dApp 12 (dCB fTuple (dCons (dLc (dItems (dVar 5)) (gN 16) dYes (dCB fTuple (dCons (dLc (dItems (dVar 16)) (gN 20) dYes (dOp fMul (dVar 11) (dVar 20)) [20]) dNil)) [16]) dNil))) (dSeq (dApp 12 (dOp fAdd (dVar 5) (dVar 6))) (dSeq (dSet 13 (dLst (dCons (dOpO fAdd (tab [(2, f_Grid_add)]) (dVar 8) (dVar 9)) (dCons (dOpO fSub (tab [(2, f_Grid_sub)]) (dVar 8) (dVar 9)) (dCons (dUn (fNegO (tab [(2, f_Grid_neg)])) (dVar 8)) (dCons (dMeth (tab [(2, ⟨2, f_Grid_scaled, []⟩)]) (dVar 8) (cVal (dVar 11) cNil)) (dCons (dMeth (tab [(2, ⟨2, f_Grid_stacked, []⟩)]) (dVar 8) (cVal (dVar 9) cNil)) dNil))))))) (dSeq (dFor (dRng (dCons (dC (.int 5)) dNil)) (gN 14) (dIfS (dOr (dTst (dOp fNe (dFld (tab [(2, 0)]) (dIdxN 13 (dVar 14))) (dIdxN 12 (dVar 14)))) (dNot (dTru (dCall 3 f_law_is_rows [] (cVal (dIdxN 13 (dVar 14)) (cVal (dCB fLen (dCons (dIdxN 12 (dVar 14)) dNil)) (cVal (dVar 3) cNil))))))) (dRet (dC (.bl false))) dNx)) (dSeq (dIfS (dOr (dTst (dOp fNe (dFld (tab [(2, 0)]) (dOpO fMul (tab [(2, f_Grid_mul)]) (dVar 8) (dVar 10))) (dCall 3 f_law_product [] (cVal (dVar 5) (cVal (dVar 7) (cVal (dVar 4) cNil)))))) (dNot (dTru (dCall 3 f_law_is_rows [] (cVal (dOpO fMul (tab [(2, f_Grid_mul)]) (dVar 8) (dVar 10)) (cVal (dVar 2) (cVal (dVar 4) cNil))))))) (dRet (dC (.bl false))) dNx) (dSeq (dSet 15 (dMeth (tab [(2, ⟨1, f_Grid_transposed, []⟩)]) (dVar 8) cNil)) (dSeq (dIfS (dOr (dTst (dOp fNe (dFld (tab [(2, 0)]) (dVar 15)) (dCB fTuple (dCons (dLc (dRng (dCons (dVar 3) dNil)) (gN 22) dYes (dCB fTuple (dCons (dLc (dItems (dVar 5)) (gN 16) dYes (dIdxN 16 (dVar 22)) [16]) dNil)) [22]) dNil)))) (dNot (dTru (dCall 3 f_law_is_rows [] (cVal (dVar 15) (cVal (dVar 3) (cVal (dVar 2) cNil))))))) (dRet (dC (.bl false))) dNx) (dSeq (dSet 16 (dCB fTuple (dCons (dLc (dRng (dCons (dVar 3) dNil)) (gN 22) dYes (dOp fSub (dCall 2 f_law_take [] (cLend 1 (cVal (dC (.int 9)) cNil))) (dC (.int 4))) [22]) dNil))) (dSeq (dSet 17 (dCB fTuple (dCons (dLc (dRng (dCons (dVar 2) dNil)) (gN 22) dYes (dOp fSub (dCall 2 f_law_take [] (cLend 1 (cVal (dC (.int 9)) cNil))) (dC (.int 4))) [22]) dNil))) (dSeq (dIfS (dTst (dOp fNe (dMeth (tab [(2, ⟨2, f_Grid_times, []⟩)]) (dVar 8) (cVal (dVar 16) cNil)) (dCB fTuple (dCons (dLc (dItems (dVar 5)) (gN 23) dYes (dCB fSum (dCons (dLc (dZip (dCons (dVar 23) (dCons (dVar 16) dNil))) (gT 2 (gsCons (gN 20) (gsCons (gN 21) gsNil))) dYes (dOp fMul (dVar 20) (dVar 21)) [20, 21]) dNil)) [23]) dNil)))) (dRet (dC (.bl false))) dNx) (dSeq (dIfS (dTst (dOp fNe (dMeth (tab [(2, ⟨2, f_Grid_before, []⟩)]) (dVar 8) (cVal (dVar 17) cNil)) (dCB fTuple (dCons (dLc (dRng (dCons (dVar 3) dNil)) (gN 22) dYes (dCB fSum (dCons (dLc (dRng (dCons (dVar 2) dNil)) (gN 19) dYes (dOp fMul (dIdxN 17 (dVar 19)) (dIdx (dIdxN 5 (dVar 19)) (dVar 22))) [19]) dNil)) [22]) dNil)))) (dRet (dC (.bl false))) dNx) (dSeq (dIfS (dOr (dTst (dOp (fNeO (tab [(2, f_Grid_eq)])) (dOpO fMul (tab [(2, f_Grid_mul)]) (dCall 1 f_unit [] (cVal (dVar 2) cNil)) (dVar 8)) (dVar 8))) (dOr (dTst (dOp (fNeO (tab [(2, f_Grid_eq)])) (dOpO fMul (tab [(2, f_Grid_mul)]) (dVar 8) (dCall 1 f_unit [] (cVal (dVar 3) cNil))) (dVar 8))) (dTst (dOp (fNeO (tab [(2, f_Grid_eq)])) (dOpO fMul (tab [(2, f_Grid_mul)]) (dCall 1 f_diagonal [] (cVal (dVar 17) cNil)) (dVar 8)) (dMake 2 2 3 f_Grid_init [] (dCons (dLc (dRng (dCons (dVar 2) dNil)) (gN 19) dYes (dLc (dItems (dIdxN 5 (dVar 19))) (gN 20) dYes (dOp fMul (dIdxN 17 (dVar 19)) (dVar 20)) [20]) [19]) (dCons (dVar 3) dNil))))))) (dRet (dC (.bl false))) dNx) (dSeq (dSet 18 (dCall 2 f_blocks [] (cVal (dVar 8) (cVal (dVar 10) cNil)))) (dSeq (dIfS (dOr (dTst (dOp fNe (dFld (tab [(2, 1)]) (dVar 18)) (dOp fAdd (dVar 3) (dVar 4)))) (dOr (dTst (dOp fNe (dCB (fLenO (tab [(2, f_Grid_len)])) (dCons (dVar 18) dNil)) (dOp fAdd (dVar 2) (dVar 3)))) (dTst (dOp fNe (dSl (dFld (tab [(2, 0)]) (dVar 18)) dNoPart (dPart (dVar 2))) (dCB fTuple (dCons (dLc (dItems (dVar 5)) (gN 20) dYes (dOp fAdd (dVar 20) (dCB fTuple (dCons (dLc (dRng (dCons (dVar 4) dNil)) (gN 22) dYes (dC (.int 0)) [22]) dNil))) [20]) dNil)))))) (dRet (dC (.bl false))) dNx) (dSeq (dIfS (dTst (dOp fNe (dSl (dFld (tab [(2, 0)]) (dVar 18)) (dPart (dVar 2)) dNoPart) (dCB fTuple (dCons (dLc (dItems (dVar 7)) (gN 20) dYes (dOp fAdd (dCB fTuple (dCons (dLc (dRng (dCons (dVar 3) dNil)) (gN 22) dYes (dC (.int 0)) [22]) dNil)) (dVar 20)) [20]) dNil)))) (dRet (dC (.bl false))) dNx) (dSeq (dIfS (dOr (dTst (dOp fNe (dOp (fEqO (tab [(2, f_Grid_eq)])) (dVar 8) (dVar 9)) (dOp fEq (dVar 5) (dVar 6)))) (dOr (dTst (dOp (fEqO (tab [(2, f_Grid_eq)])) (dVar 8) (dVar 5))) (dOr (dTst (dOp fNe (dLc (dItemsO (tab [(2, 0)]) (dVar 8)) (gN 20) dYes (dVar 20) [20]) (dCB fList (dCons (dVar 5) dNil)))) (dOr (dTst (dOp fNe (dCB (fLenO (tab [(2, f_Grid_len)])) (dCons (dVar 8) dNil)) (dVar 2))) (dTst (dOp fNe (dMeth (tab [(2, ⟨1, f_Grid_is_square, []⟩)]) (dVar 8) cNil) (dOp fEq (dVar 2) (dVar 3)))))))) (dRet (dC (.bl false))) dNx) (dSeq (dIfS (dAnd (dTst (dOp fGt (dVar 2) (dC (.int 0)))) (dTst (dOp (fNeO (tab [(2, f_Grid_eq)])) (dMake 2 2 3 f_Grid_init [.non] (dCons (dVar 5) dNil)) (dVar 8)))) (dRet (dC (.bl false))) dNx) (dRet (dOp fEq (dCall 2 f_law_malformed [] (cVal (dMake 2 2 3 f_Grid_init [.non] (dCons (dTup (dCons (dTup (dCons (dC (.int 1)) (dCons (dC (.int 2)) dNil))) (dCons (dTup (dCons (dC (.int 3)) (dCons (dC (.int 4)) dNil))) dNil))) dNil)) (cVal (dCall 2 f_law_take [] (cLend 1 (cVal (dC (.int 4)) cNil))) cNil))) (dC (.int 3))))))))))))))))))))))))))))))
def f_law : DF := fnD 23 b_law
theorem sc_is_integer : FnScope ["value"] ["value"] (defScope s_is_integer) := ⟨rfl, rfl, rfl, by decide +kernel, rfl, by decide +kernel, by decide +kernel⟩
theorem sc_dot : FnScope ["a", "b", "x", "y"] ["a", "b"] (defScope s_dot) := ⟨rfl, rfl, rfl, by decide +kernel, rfl, by decide +kernel, by decide +kernel⟩
theorem sc_checked : FnScope ["rows", "width", "out", "row", "item"] ["rows", "width"] (defScope s_checked) := ⟨rfl, rfl, rfl, by decide +kernel, rfl, by decide +kernel, by decide +kernel⟩
theorem sc_unit_rows : FnScope ["n", "i", "k"] ["n"] (defScope s_unit_rows) := ⟨rfl, rfl, rfl, by decide +kernel, rfl, by decide +kernel, by decide +kernel⟩
theorem sc_Grid_init : FnScope ["self", "rows", "width"] ["self", "rows", "width"] (defScope s_Grid_init) := ⟨rfl, rfl, rfl, by decide +kernel, rfl, by decide +kernel, by decide +kernel⟩
theorem sc_Grid_len : FnScope ["self"] ["self"] (defScope s_Grid_len) := ⟨rfl, rfl, rfl, by decide +kernel, rfl, by decide +kernel, by decide +kernel⟩
theorem sc_Grid_eq : FnScope ["self", "other"] ["self", "other"] (defScope s_Grid_eq) := ⟨rfl, rfl, rfl, by decide +kernel, rfl, by decide +kernel, by decide +kernel⟩
theorem sc_Grid_add : FnScope ["self", "other", "a", "b", "x", "y"] ["self", "other"] (defScope s_Grid_add) := ⟨rfl, rfl, rfl, by decide +kernel, rfl, by decide +kernel, by decide +kernel⟩
theorem sc_Grid_sub : FnScope ["self", "other", "a", "b", "x", "y"] ["self", "other"] (defScope s_Grid_sub) := ⟨rfl, rfl, rfl, by decide +kernel, rfl, by decide +kernel, by decide +kernel⟩
theorem sc_Grid_mul : FnScope ["self", "other", "columns", "k", "row", "column"] ["self", "other"] (defScope s_Grid_mul) := ⟨rfl, rfl, rfl, by decide +kernel, rfl, by decide +kernel, by decide +kernel⟩
theorem sc_Grid_neg : FnScope ["self", "row", "x"] ["self"] (defScope s_Grid_neg) := ⟨rfl, rfl, rfl, by decide +kernel, rfl, by decide +kernel, by decide +kernel⟩
theorem sc_Grid_scaled : FnScope ["self", "k", "row", "x"] ["self", "k"] (defScope s_Grid_scaled) := ⟨rfl, rfl, rfl, by decide +kernel, rfl, by decide +kernel, by decide +kernel⟩
theorem sc_Grid_transposed : FnScope ["self", "k", "row"] ["self"] (defScope s_Grid_transposed) := ⟨rfl, rfl, rfl, by decide +kernel, rfl, by decide +kernel, by decide +kernel⟩
theorem sc_Grid_times : FnScope ["self", "row", "line"] ["self", "row"] (defScope s_Grid_times) := ⟨rfl, rfl, rfl, by decide +kernel, rfl, by decide +kernel, by decide +kernel⟩
theorem sc_Grid_before : FnScope ["self", "row", "k", "line"] ["self", "row"] (defScope s_Grid_before) := ⟨rfl, rfl, rfl, by decide +kernel, rfl, by decide +kernel, by decide +kernel⟩
theorem sc_Grid_stacked : FnScope ["self", "other"] ["self", "other"] (defScope s_Grid_stacked) := ⟨rfl, rfl, rfl, by decide +kernel, rfl, by decide +kernel, by decide +kernel⟩
theorem sc_Grid_is_square : FnScope ["self"] ["self"] (defScope s_Grid_is_square) := ⟨rfl, rfl, rfl, by decide +kernel, rfl, by decide +kernel, by decide +kernel⟩
theorem sc_unit : FnScope ["n"] ["n"] (defScope s_unit) := ⟨rfl, rfl, rfl, by decide +kernel, rfl, by decide +kernel, by decide +kernel⟩
theorem sc_diagonal : FnScope ["numbers", "size", "i", "k"] ["numbers"] (defScope s_diagonal) := ⟨rfl, rfl, rfl, by decide +kernel, rfl, by decide +kernel, by decide +kernel⟩
theorem sc_blocks : FnScope ["a", "b", "high", "low", "row", "_"] ["a", "b"] (defScope s_blocks) := ⟨rfl, rfl, rfl, by decide +kernel, rfl, by decide +kernel, by decide +kernel⟩
theorem sc_law_state : FnScope ["_law_script", "_law_seed", "_law_total", "_law_cell"] ["_law_script"] (defScope s_law_state) := ⟨rfl, rfl, rfl, by decide +kernel, rfl, by decide +kernel, by decide +kernel⟩
theorem sc_law_take : FnScope ["_law_state_here", "_law_m", "_law_value"] ["_law_state_here", "_law_m"] (defScope s_law_take) := ⟨rfl, rfl, rfl, by decide +kernel, rfl, by decide +kernel, by decide +kernel⟩
theorem sc_law_rows : FnScope ["_law_state_here", "_law_height", "_law_width", "_law_most", "_law_rows_here", "_law_i", "_law_k"] ["_law_state_here", "_law_height", "_law_width", "_law_most"] (defScope s_law_rows) := ⟨rfl, rfl, rfl, by decide +kernel, rfl, by decide +kernel, by decide +kernel⟩
theorem sc_law_product : FnScope ["_law_a", "_law_b", "_law_width", "_law_out", "_law_row", "_law_line", "_law_k", "_law_total", "_law_j"] ["_law_a", "_law_b", "_law_width"] (defScope s_law_product) := ⟨rfl, rfl, rfl, by decide +kernel, rfl, by decide +kernel, by decide +kernel⟩
theorem sc_law_is_rows : FnScope ["_law_value", "_law_height", "_law_width", "_law_row", "_law_x"] ["_law_value", "_law_height", "_law_width"] (defScope s_law_is_rows) := ⟨rfl, rfl, rfl, by decide +kernel, rfl, by decide +kernel, by decide +kernel⟩
theorem sc_law_malformed : FnScope ["_law_a", "_law_k", "_law_wide", "_law_count", "_law_turn", "_law_j", "_law_row"] ["_law_a", "_law_k"] (defScope s_law_malformed) := ⟨rfl, rfl, rfl, by decide +kernel, rfl, by decide +kernel, by decide +kernel⟩
theorem sc_law : FnScope ["_law_script", "_law_state_here", "_law_height", "_law_width", "_law_other", "_law_a", "_law_b", "_law_c", "_law_x", "_law_y", "_law_z", "_law_k", "_law_due", "_law_told", "_law_at", "_law_turned", "_law_row", "_law_line", "_law_both", "_law_i", "_law_p", "_law_q", "_law_j", "_law_given"] ["_law_script"] (defScope s_law) := ⟨rfl, rfl, rfl, by decide +kernel, rfl, by decide +kernel, by decide +kernel⟩
def cf : Nat → List Str := fun | 2 => ["rows", "width"] | _ => []
structure Tx (K : PySem.W.Frag) (mg : Str → Option Value) where
  a : Nat → Addr
  fd : Nat → FuncData
  ca : Nat → Addr
  F0 : Fun K "is_integer" "is_integer" s_is_integer (a 0) (fd 0)
  b0 : Binds K (fd 0) ["value"] []
  m0 : mg "is_integer" = some (.ref (a 0))
  F1 : Fun K "dot" "dot" s_dot (a 1) (fd 1)
  b1 : Binds K (fd 1) ["a", "b"] []
  m1 : mg "dot" = some (.ref (a 1))
  F2 : Fun K "_checked" "_checked" s_checked (a 2) (fd 2)
  b2 : Binds K (fd 2) ["rows", "width"] []
  m2 : mg "_checked" = some (.ref (a 2))
  F3 : Fun K "_unit_rows" "_unit_rows" s_unit_rows (a 3) (fd 3)
  b3 : Binds K (fd 3) ["n"] []
  m3 : mg "_unit_rows" = some (.ref (a 3))
  F4 : FunD K "__init__" "Grid.__init__" (defArgs s_Grid_init) (defBody s_Grid_init) (defScope s_Grid_init) [V.non] [] (a 4) (fd 4)
  bd4us : List Value
  bd4 : Vals [V.non] bd4us ∧ Binds K (fd 4) ["self", "rows", "width"] bd4us
  b4 : Binds K (fd 4) ["self", "rows", "width"] []
  mk2 : Mk K (ca 2) (a 4)
  F5 : Fun K "__len__" "Grid.__len__" s_Grid_len (a 5) (fd 5)
  b5 : Binds K (fd 5) ["self"] []
  h5 : PySem.W.findIn K (.ref (ca 2)) "__len__" = some (some (.ref (a 5)))
  g5 : PySem.W.isFn K (.ref (a 5)) = true
  F7 : Fun K "__eq__" "Grid.__eq__" s_Grid_eq (a 7) (fd 7)
  b7 : Binds K (fd 7) ["self", "other"] []
  h7 : PySem.W.findIn K (.ref (ca 2)) "__eq__" = some (some (.ref (a 7)))
  g7 : PySem.W.isFn K (.ref (a 7)) = true
  F8 : Fun K "__add__" "Grid.__add__" s_Grid_add (a 8) (fd 8)
  b8 : Binds K (fd 8) ["self", "other"] []
  h8 : PySem.W.findIn K (.ref (ca 2)) "__add__" = some (some (.ref (a 8)))
  g8 : PySem.W.isFn K (.ref (a 8)) = true
  F9 : Fun K "__sub__" "Grid.__sub__" s_Grid_sub (a 9) (fd 9)
  b9 : Binds K (fd 9) ["self", "other"] []
  h9 : PySem.W.findIn K (.ref (ca 2)) "__sub__" = some (some (.ref (a 9)))
  g9 : PySem.W.isFn K (.ref (a 9)) = true
  F10 : Fun K "__mul__" "Grid.__mul__" s_Grid_mul (a 10) (fd 10)
  b10 : Binds K (fd 10) ["self", "other"] []
  h10 : PySem.W.findIn K (.ref (ca 2)) "__mul__" = some (some (.ref (a 10)))
  g10 : PySem.W.isFn K (.ref (a 10)) = true
  F11 : Fun K "__neg__" "Grid.__neg__" s_Grid_neg (a 11) (fd 11)
  b11 : Binds K (fd 11) ["self"] []
  h11 : PySem.W.findIn K (.ref (ca 2)) "__neg__" = some (some (.ref (a 11)))
  g11 : PySem.W.isFn K (.ref (a 11)) = true
  F12 : Fun K "scaled" "Grid.scaled" s_Grid_scaled (a 12) (fd 12)
  b12 : Binds K (fd 12) ["self", "k"] []
  h12 : PySem.W.findIn K (.ref (ca 2)) "scaled" = some (some (.ref (a 12)))
  g12 : PySem.W.isFn K (.ref (a 12)) = true
  F13 : Fun K "transposed" "Grid.transposed" s_Grid_transposed (a 13) (fd 13)
  b13 : Binds K (fd 13) ["self"] []
  h13 : PySem.W.findIn K (.ref (ca 2)) "transposed" = some (some (.ref (a 13)))
  g13 : PySem.W.isFn K (.ref (a 13)) = true
  F14 : Fun K "times" "Grid.times" s_Grid_times (a 14) (fd 14)
  b14 : Binds K (fd 14) ["self", "row"] []
  h14 : PySem.W.findIn K (.ref (ca 2)) "times" = some (some (.ref (a 14)))
  g14 : PySem.W.isFn K (.ref (a 14)) = true
  F15 : Fun K "before" "Grid.before" s_Grid_before (a 15) (fd 15)
  b15 : Binds K (fd 15) ["self", "row"] []
  h15 : PySem.W.findIn K (.ref (ca 2)) "before" = some (some (.ref (a 15)))
  g15 : PySem.W.isFn K (.ref (a 15)) = true
  F16 : Fun K "stacked" "Grid.stacked" s_Grid_stacked (a 16) (fd 16)
  b16 : Binds K (fd 16) ["self", "other"] []
  h16 : PySem.W.findIn K (.ref (ca 2)) "stacked" = some (some (.ref (a 16)))
  g16 : PySem.W.isFn K (.ref (a 16)) = true
  F17 : Fun K "is_square" "Grid.is_square" s_Grid_is_square (a 17) (fd 17)
  b17 : Binds K (fd 17) ["self"] []
  h17 : PySem.W.findIn K (.ref (ca 2)) "is_square" = some (some (.ref (a 17)))
  g17 : PySem.W.isFn K (.ref (a 17)) = true
  F18 : Fun K "unit" "unit" s_unit (a 18) (fd 18)
  b18 : Binds K (fd 18) ["n"] []
  m18 : mg "unit" = some (.ref (a 18))
  F19 : Fun K "diagonal" "diagonal" s_diagonal (a 19) (fd 19)
  b19 : Binds K (fd 19) ["numbers"] []
  m19 : mg "diagonal" = some (.ref (a 19))
  F20 : Fun K "blocks" "blocks" s_blocks (a 20) (fd 20)
  b20 : Binds K (fd 20) ["a", "b"] []
  m20 : mg "blocks" = some (.ref (a 20))
  F21 : Fun K "_law_state" "_law_state" s_law_state (a 21) (fd 21)
  b21 : Binds K (fd 21) ["_law_script"] []
  m21 : mg "_law_state" = some (.ref (a 21))
  F22 : Fun K "_law_take" "_law_take" s_law_take (a 22) (fd 22)
  b22 : Binds K (fd 22) ["_law_state_here", "_law_m"] []
  m22 : mg "_law_take" = some (.ref (a 22))
  F23 : Fun K "_law_rows" "_law_rows" s_law_rows (a 23) (fd 23)
  b23 : Binds K (fd 23) ["_law_state_here", "_law_height", "_law_width", "_law_most"] []
  m23 : mg "_law_rows" = some (.ref (a 23))
  F24 : Fun K "_law_product" "_law_product" s_law_product (a 24) (fd 24)
  b24 : Binds K (fd 24) ["_law_a", "_law_b", "_law_width"] []
  m24 : mg "_law_product" = some (.ref (a 24))
  F25 : Fun K "_law_is_rows" "_law_is_rows" s_law_is_rows (a 25) (fd 25)
  b25 : Binds K (fd 25) ["_law_value", "_law_height", "_law_width"] []
  m25 : mg "_law_is_rows" = some (.ref (a 25))
  F26 : Fun K "_law_malformed" "_law_malformed" s_law_malformed (a 26) (fd 26)
  b26 : Binds K (fd 26) ["_law_a", "_law_k"] []
  m26 : mg "_law_malformed" = some (.ref (a 26))
  F27 : Fun K "law" "law" s_law (a 27) (fd 27)
  b27 : Binds K (fd 27) ["_law_script"] []
  m27 : mg "law" = some (.ref (a 27))
  F6 : Fun K "__iter__" "Grid.__iter__" s_Grid_iter (a 6) (fd 6)
  b6 : Binds K (fd 6) ["self"] []
  h6 : PySem.W.findIn K (.ref (ca 2)) "__iter__" = some (some (.ref (a 6)))
  g6 : PySem.W.isFn K (.ref (a 6)) = true
  mc1 : mg "Malformed" = some (.ref (ca 1))
  mc2 : mg "Grid" = some (.ref (ca 2))
  cl2 : Cls K (ca 2)
  ins2 : InsTy K (ca 2)
  sf2 : PySem.W.selfFirst K (ca 2) = true
  eq2 : EqFacts K ⟨K, ca, cf⟩ 2
  kd2 : ∀ d, 2 ≠ d → PySem.W.subIn K (.ref (ca d)) (.ref (ca 2)) = some false ∨ ca d = ca 2
  na2_rows : NoAttr K (ca 2) "rows"
  na2_width : NoAttr K (ca 2) "width"
  ex1 : PySem.W.excIn K (ca 1) [.type "ValueError", .type "Exception", .type "BaseException", .type "object"] "ValueError.__new__" = true
  kp1 : PySem.W.keepIn K (.ref (ca 1)) = true
  ra1 : PySem.W.subIn K (.ref (ca 1)) (.type "BaseException") = some true
  rb1 : PySem.W.typeIn K (.ref (ca 1)) = some (.type "type")
  em1_1 : PySem.W.exmOne K (.ref (ca 1)) (.ref (ca 1)) = some true
  z_abs : mg "abs" = none
  z_bool : mg "bool" = none
  z_int : mg "int" = none
  z_isinstance : mg "isinstance" = none
  z_iter : mg "iter" = none
  z_len : mg "len" = none
  z_list : mg "list" = none
  z_range : mg "range" = none
  z_sum : mg "sum" = none
  z_tuple : mg "tuple" = none
  z_zip : mg "zip" = none
  q_Grid_0 : PySem.W.kitOne K (.type "NoneType") (.ref (ca 2)) = some false
  q_Grid_1 : PySem.W.kitOne K (.type "bool") (.ref (ca 2)) = some false
  q_Grid_2 : PySem.W.kitOne K (.type "int") (.ref (ca 2)) = some false
  q_Grid_3 : PySem.W.kitOne K (.type "str") (.ref (ca 2)) = some false
  q_Grid_4 : PySem.W.kitOne K (.type "tuple") (.ref (ca 2)) = some false
  q_Grid_5 : PySem.W.kitOne K (.type "list") (.ref (ca 2)) = some false
  q_Grid_8 : PySem.W.kitOne K (.ref (ca 2)) (.ref (ca 2)) = some true
  q_bool_0 : PySem.W.kitOne K (.type "NoneType") (.type "bool") = some false
  q_bool_1 : PySem.W.kitOne K (.type "bool") (.type "bool") = some true
  q_bool_2 : PySem.W.kitOne K (.type "int") (.type "bool") = some false
  q_bool_3 : PySem.W.kitOne K (.type "str") (.type "bool") = some false
  q_bool_4 : PySem.W.kitOne K (.type "tuple") (.type "bool") = some false
  q_bool_5 : PySem.W.kitOne K (.type "list") (.type "bool") = some false
  q_bool_8 : PySem.W.kitOne K (.ref (ca 2)) (.type "bool") = some false
  q_int_0 : PySem.W.kitOne K (.type "NoneType") (.type "int") = some false
  q_int_1 : PySem.W.kitOne K (.type "bool") (.type "int") = some true
  q_int_2 : PySem.W.kitOne K (.type "int") (.type "int") = some true
  q_int_3 : PySem.W.kitOne K (.type "str") (.type "int") = some false
  q_int_4 : PySem.W.kitOne K (.type "tuple") (.type "int") = some false
  q_int_5 : PySem.W.kitOne K (.type "list") (.type "int") = some false
  q_int_8 : PySem.W.kitOne K (.ref (ca 2)) (.type "int") = some false
  q_list_tuple_0 : PySem.W.kitAny K (.type "NoneType") [(.type "list"), (.type "tuple")] = some false
  q_list_tuple_1 : PySem.W.kitAny K (.type "bool") [(.type "list"), (.type "tuple")] = some false
  q_list_tuple_2 : PySem.W.kitAny K (.type "int") [(.type "list"), (.type "tuple")] = some false
  q_list_tuple_3 : PySem.W.kitAny K (.type "str") [(.type "list"), (.type "tuple")] = some false
  q_list_tuple_4 : PySem.W.kitAny K (.type "tuple") [(.type "list"), (.type "tuple")] = some true
  q_list_tuple_5 : PySem.W.kitAny K (.type "list") [(.type "list"), (.type "tuple")] = some true
  q_list_tuple_8 : PySem.W.kitAny K (.ref (ca 2)) [(.type "list"), (.type "tuple")] = some false
  q_tuple_0 : PySem.W.kitOne K (.type "NoneType") (.type "tuple") = some false
  q_tuple_1 : PySem.W.kitOne K (.type "bool") (.type "tuple") = some false
  q_tuple_2 : PySem.W.kitOne K (.type "int") (.type "tuple") = some false
  q_tuple_3 : PySem.W.kitOne K (.type "str") (.type "tuple") = some false
  q_tuple_4 : PySem.W.kitOne K (.type "tuple") (.type "tuple") = some true
  q_tuple_5 : PySem.W.kitOne K (.type "list") (.type "tuple") = some false
  q_tuple_8 : PySem.W.kitOne K (.ref (ca 2)) (.type "tuple") = some false
abbrev Tx.C {K : PySem.W.Frag} {mg : Str → Option Value} (T : Tx K mg) : VX := ⟨K, T.ca, cf⟩
section
variable {P : Program} {w : World} {K : PySem.W.Frag} {mg : Str → Option Value} {base : Heap}
theorem iterOk_Grid_iter (T : Tx K mg) {X : Cx} {k : Nat} (hr : Room (k + 1) X.A) (e1 : X.prog = P := by rfl) (e2 : X.w = w := by rfl) (e3 : X.K = K := by rfl) (e4 : X.mg = mg := by rfl) (e5 : X.base = base := by rfl) : IterOk X T.C 2 0 := by
  subst e1 e2 e3 e4 e5
  exact ⟨⟨_, _, _, T.h6, T.g6, hr, T.b6, iter_ok T.F6 ⟨rfl, rfl, rfl, by decide +kernel, rfl, by decide +kernel, by decide +kernel⟩ rfl rfl rfl T.z_iter rfl T.cl2 T.na2_rows rfl (show ("rows" : Str) ∉ (["rows", "width"] : List Str).take 0 from by decide)⟩⟩
theorem ok_is_integer (T : Tx K mg) : FnOk P w K mg base (L2.CX P w) 1 (T.a 0) (T.fd 0) ["value"] (spD T.C 1 f_is_integer) := fn_D T.F0 sc_is_integer rfl (fun cdv A outer s H E hr => (s_one (s_ret (e_andV (e_isi (by rfl) T.z_isinstance (e_var 0) (pe_bltn (v := .ty "int") (by rfl) T.z_int boot_int' rfl) (.ty "int") (isi_mk (tab_cons ⟨T.q_int_0, lowk (by decide)⟩ (tab_cons ⟨T.q_int_1, lowk (by decide)⟩ (tab_cons ⟨T.q_int_2, lowk (by decide)⟩ (tab_cons ⟨T.q_int_3, lowk (by decide)⟩ (tab_cons ⟨T.q_int_4, lowk (by decide)⟩ (tab_cons ⟨T.q_int_5, lowk (by decide)⟩ (tab_cons ⟨T.q_int_8, insk T.ins2⟩ tab_nil))))))))) (e_one (e_notV (e_isi (by rfl) T.z_isinstance (e_var 0) (pe_bltn (v := .ty "bool") (by rfl) T.z_bool boot_bool' rfl) (.ty "bool") (isi_mk (tab_cons ⟨T.q_bool_0, lowk (by decide)⟩ (tab_cons ⟨T.q_bool_1, lowk (by decide)⟩ (tab_cons ⟨T.q_bool_2, lowk (by decide)⟩ (tab_cons ⟨T.q_bool_3, lowk (by decide)⟩ (tab_cons ⟨T.q_bool_4, lowk (by decide)⟩ (tab_cons ⟨T.q_bool_5, lowk (by decide)⟩ (tab_cons ⟨T.q_bool_8, insk T.ins2⟩ tab_nil)))))))))))))))
theorem ok_dot (T : Tx K mg) : FnOk P w K mg base (L2.CX P w) 1 (T.a 1) (T.fd 1) ["a", "b"] (spD T.C 2 f_dot) := fn_D T.F1 sc_dot rfl (fun cdv A outer s H E hr => (s_one (s_ret (e_callB (cr_sum (by rfl)) cs_sum (by rfl) T.z_sum boot_sum' (a_cons (e_lc (own := [("x", 2), ("y", 3)]) rfl sc_dot.nd (blkOk_by (by kernel_rfl)) (i_zip T.z_zip (a_cons (e_var 0) (a_cons (e_var 1) a_nil))) (fun _ _ _ _ _ => (g_tup rfl (gs_cons (g_name 2 sc_dot.nd) (gs_cons (g_name 3 sc_dot.nd) gs_nil)))) (fun _ _ _ _ _ => ts_nil) (fun _ _ _ _ _ => (e_mul (e_var 2) (e_var 3)))) a_nil)))))
theorem ok_checked (T : Tx K mg) : FnOk P w K mg base (L2.CX P w) 4 (T.a 2) (T.fd 2) ["rows", "width"] (spD T.C 2 f_checked) := fn_D T.F2 sc_checked rfl (fun cdv A outer s H E hr => (s_cons (s_set 2 sc_checked.nd (e_lst a_nil)) (s_cons (s_for (passes_of rfl) rfl (i_seq (e_var 0)) (g_name 3 sc_checked.nd) (s_cons (s_if ((w_or (t_not (t_tru (e_isiT (by rfl) T.z_isinstance (e_var 3) (pa_cons (pe_bltn (v := .ty "list") (by rfl) T.z_list boot_list' rfl) (pa_cons (pe_bltn (v := .ty "tuple") (by rfl) T.z_tuple boot_tuple' rfl) pa_nil)) (.cons (.ty "list") (.cons (.ty "tuple") .nil)) (by decide) (isis_mk (tab_cons ⟨T.q_list_tuple_0, lowk (by decide)⟩ (tab_cons ⟨T.q_list_tuple_1, lowk (by decide)⟩ (tab_cons ⟨T.q_list_tuple_2, lowk (by decide)⟩ (tab_cons ⟨T.q_list_tuple_3, lowk (by decide)⟩ (tab_cons ⟨T.q_list_tuple_4, lowk (by decide)⟩ (tab_cons ⟨T.q_list_tuple_5, lowk (by decide)⟩ (tab_cons ⟨T.q_list_tuple_8, insk T.ins2⟩ tab_nil))))))))))) (w_or1 (t_cmp (op_neD hr.units) (os_ne (by rfl)) (e_lenN 3 (by rfl) T.z_len) (e_var 1) (nomark _))))).pt (s_one (s_raise rfl (takes_of rfl rfl rfl rfl) PySem.F.excBase_ValueError T.ex1 T.mc1 T.kp1 (raises_own T.ra1 T.rb1))) s_nil) (s_cons (s_for (passes_of rfl) rfl (i_seq (e_var 3)) (g_name 4 sc_checked.nd) (s_one (s_if (t_not (t_tru (e_call (ok_is_integer T) (hr.mono (by decide)) T.m0 T.F0.kp T.b0 .nil (passAt (takes_of rfl rfl rfl rfl)) (c_cons (e_var 4) c_nil)))) (s_one (s_raise rfl (takes_of rfl rfl rfl rfl) PySem.F.excBase_ValueError T.ex1 T.mc1 T.kp1 (raises_own T.ra1 T.rb1))) s_nil))) (s_one (s_app 2 (e_callTy call_tuple_of (cs_tuple (by rfl)) (by rfl) T.z_tuple boot_tuple' (a_cons (e_var 3) a_nil))))))) (s_one (s_ret (e_callTy call_tuple_of (cs_tuple (by rfl)) (by rfl) T.z_tuple boot_tuple' (a_cons (e_var 2) a_nil)))))))
theorem ok_unit_rows (T : Tx K mg) : FnOk P w K mg base (L2.CX P w) 1 (T.a 3) (T.fd 3) ["n"] (spD T.C 1 f_unit_rows) := fn_D T.F3 sc_unit_rows rfl (fun cdv A outer s H E hr => (s_one (s_ret (e_lc (own := [("i", 1)]) rfl sc_unit_rows.nd (blkOk_by (by kernel_rfl)) (i_rng1 (by rfl) T.z_range (a_cons (e_var 0) a_nil) (len_cons len_nil)) (fun _ _ _ _ _ => (g_name 1 sc_unit_rows.nd)) (fun _ _ _ _ _ => ts_nil) (fun _ _ _ _ _ => (e_lc (own := [("k", 2)]) rfl sc_unit_rows.nd (blkOk_by (by kernel_rfl)) (i_rng1 (by rfl) T.z_range (a_cons (e_var 0) a_nil) (len_cons len_nil)) (fun _ _ _ _ _ => (g_name 2 sc_unit_rows.nd)) (fun _ _ _ _ _ => ts_nil) (fun _ _ _ _ _ => (e_callTy call_int1 cs_int (by rfl) T.z_int boot_int' (a_cons (e_eq hr (e_var 1) (e_var 2)) a_nil)))))))))
theorem ok_Grid_init (T : Tx K mg) : FnOk P w K mg base (L2.CX P w) 7 (T.a 4) (T.fd 4) ["self", "rows", "width"] (spD T.C 3 f_Grid_init) := fn_DD T.F4 sc_Grid_init rfl (fun cdv A outer s H E hr => (s_cons (s_if (t_not (t_tru (e_isiT (by rfl) T.z_isinstance (e_var 1) (pa_cons (pe_bltn (v := .ty "list") (by rfl) T.z_list boot_list' rfl) (pa_cons (pe_bltn (v := .ty "tuple") (by rfl) T.z_tuple boot_tuple' rfl) pa_nil)) (.cons (.ty "list") (.cons (.ty "tuple") .nil)) (by decide) (isis_mk (tab_cons ⟨T.q_list_tuple_0, lowk (by decide)⟩ (tab_cons ⟨T.q_list_tuple_1, lowk (by decide)⟩ (tab_cons ⟨T.q_list_tuple_2, lowk (by decide)⟩ (tab_cons ⟨T.q_list_tuple_3, lowk (by decide)⟩ (tab_cons ⟨T.q_list_tuple_4, lowk (by decide)⟩ (tab_cons ⟨T.q_list_tuple_5, lowk (by decide)⟩ (tab_cons ⟨T.q_list_tuple_8, insk T.ins2⟩ tab_nil))))))))))) (s_one (s_raise rfl (takes_of rfl rfl rfl rfl) PySem.F.excBase_ValueError T.ex1 T.mc1 T.kp1 (raises_own T.ra1 T.rb1))) s_nil) (s_cons (s_if (t_cmp op_isV os_isN (e_var 2) e_non (nomark _)) (s_cons (s_set 2 sc_Grid_init.nd e_int) (s_one (s_if ((w_and (t_cmp op_gtV os_gt (e_lenN 1 (by rfl) T.z_len) e_int (nomark _)) (w_and1 (t_tru (e_isiT (by rfl) T.z_isinstance (e_idxN 1 e_int) (pa_cons (pe_bltn (v := .ty "list") (by rfl) T.z_list boot_list' rfl) (pa_cons (pe_bltn (v := .ty "tuple") (by rfl) T.z_tuple boot_tuple' rfl) pa_nil)) (.cons (.ty "list") (.cons (.ty "tuple") .nil)) (by decide) (isis_mk (tab_cons ⟨T.q_list_tuple_0, lowk (by decide)⟩ (tab_cons ⟨T.q_list_tuple_1, lowk (by decide)⟩ (tab_cons ⟨T.q_list_tuple_2, lowk (by decide)⟩ (tab_cons ⟨T.q_list_tuple_3, lowk (by decide)⟩ (tab_cons ⟨T.q_list_tuple_4, lowk (by decide)⟩ (tab_cons ⟨T.q_list_tuple_5, lowk (by decide)⟩ (tab_cons ⟨T.q_list_tuple_8, insk T.ins2⟩ tab_nil))))))))))))).pt (s_one (s_set 2 sc_Grid_init.nd (e_callB call_len (cs_len (by rfl)) (by rfl) T.z_len boot_len' (a_cons (e_idxN 1 e_int) a_nil)))) s_nil))) s_nil) (s_cons (s_setF 0 (e_call (ok_checked T) (hr.mono (by decide)) T.m2 T.F2.kp T.b2 .nil (passAt (takes_of rfl rfl rfl rfl)) (c_cons (e_var 1) (c_cons (e_var 2) c_nil))) (fld_mk (tab_cons ⟨T.cl2, T.na2_rows, rfl, (show ("rows" : Str) ∉ (["rows", "width"] : List Str).take 0 from by decide)⟩ tab_nil))) (s_one (s_setF 0 (e_var 2) (fld_mk (tab_cons ⟨T.cl2, T.na2_width, rfl, (show ("width" : Str) ∉ (["rows", "width"] : List Str).take 1 from by decide)⟩ tab_nil))))))))
theorem ok_Grid_len (T : Tx K mg) : FnOk P w K mg base (L2.CX P w) 1 (T.a 5) (T.fd 5) ["self"] (spD T.C 1 f_Grid_len) := fn_D T.F5 sc_Grid_len rfl (fun cdv A outer s H E hr => (s_one (s_ret (e_callB call_len (cs_len (by rfl)) (by rfl) T.z_len boot_len' (a_cons (e_fld (e_var 0) (fld_mk (tab_cons ⟨T.cl2, T.na2_rows, rfl, (show ("rows" : Str) ∉ (["rows", "width"] : List Str).take 0 from by decide)⟩ tab_nil))) a_nil)))))
theorem ok_Grid_eq (T : Tx K mg) : FnOk P w K mg base (L2.CX P w) 1 (T.a 7) (T.fd 7) ["self", "other"] (spD T.C 2 f_Grid_eq) := fn_D T.F7 sc_Grid_eq rfl (fun cdv A outer s H E hr => (s_one (s_ret (e_andV (e_isi (by rfl) T.z_isinstance (e_var 1) (pe_glob (v := .ref (T.ca 2)) (by rfl) T.mc2 rfl) (.own _) (isi_mk (tab_cons ⟨T.q_Grid_0, lowk (by decide)⟩ (tab_cons ⟨T.q_Grid_1, lowk (by decide)⟩ (tab_cons ⟨T.q_Grid_2, lowk (by decide)⟩ (tab_cons ⟨T.q_Grid_3, lowk (by decide)⟩ (tab_cons ⟨T.q_Grid_4, lowk (by decide)⟩ (tab_cons ⟨T.q_Grid_5, lowk (by decide)⟩ (tab_cons ⟨T.q_Grid_8, insk T.ins2⟩ tab_nil))))))))) (e_andV (e_eq hr (e_fld (e_var 0) (fld_mk (tab_cons ⟨T.cl2, T.na2_rows, rfl, (show ("rows" : Str) ∉ (["rows", "width"] : List Str).take 0 from by decide)⟩ tab_nil))) (e_fld (e_var 1) (fld_mk (tab_cons ⟨T.cl2, T.na2_rows, rfl, (show ("rows" : Str) ∉ (["rows", "width"] : List Str).take 0 from by decide)⟩ tab_nil)))) (e_one (e_eq hr (e_fld (e_var 0) (fld_mk (tab_cons ⟨T.cl2, T.na2_width, rfl, (show ("width" : Str) ∉ (["rows", "width"] : List Str).take 1 from by decide)⟩ tab_nil))) (e_fld (e_var 1) (fld_mk (tab_cons ⟨T.cl2, T.na2_width, rfl, (show ("width" : Str) ∉ (["rows", "width"] : List Str).take 1 from by decide)⟩ tab_nil))))))))))
theorem ok_Grid_add (T : Tx K mg) : FnOk P w K mg base (L2.CX P w) 10 (T.a 8) (T.fd 8) ["self", "other"] (spD T.C 2 f_Grid_add) := fn_D T.F8 sc_Grid_add rfl (fun cdv A outer s H E hr => (s_cons (s_if ((w_or (t_cmp (op_neD hr.units) (os_ne (by rfl)) (e_callB call_len (cs_len (by rfl)) (by rfl) T.z_len boot_len' (a_cons (e_fld (e_var 0) (fld_mk (tab_cons ⟨T.cl2, T.na2_rows, rfl, (show ("rows" : Str) ∉ (["rows", "width"] : List Str).take 0 from by decide)⟩ tab_nil))) a_nil)) (e_callB call_len (cs_len (by rfl)) (by rfl) T.z_len boot_len' (a_cons (e_fld (e_var 1) (fld_mk (tab_cons ⟨T.cl2, T.na2_rows, rfl, (show ("rows" : Str) ∉ (["rows", "width"] : List Str).take 0 from by decide)⟩ tab_nil))) a_nil)) (nomark _)) (w_or1 (t_cmp (op_neD hr.units) (os_ne (by rfl)) (e_fld (e_var 0) (fld_mk (tab_cons ⟨T.cl2, T.na2_width, rfl, (show ("width" : Str) ∉ (["rows", "width"] : List Str).take 1 from by decide)⟩ tab_nil))) (e_fld (e_var 1) (fld_mk (tab_cons ⟨T.cl2, T.na2_width, rfl, (show ("width" : Str) ∉ (["rows", "width"] : List Str).take 1 from by decide)⟩ tab_nil))) (nomark _))))).pt (s_one (s_raise rfl (takes_of rfl rfl rfl rfl) PySem.F.excBase_ValueError T.ex1 T.mc1 T.kp1 (raises_own T.ra1 T.rb1))) s_nil) (s_one (s_ret (e_make T.mk2 (ok_Grid_init T) (hr.mono (by decide)) T.mc2 T.b4 .nil rfl (passAt (takes_of rfl rfl rfl rfl)) (a_cons (e_lc (own := [("a", 2), ("b", 3)]) rfl sc_Grid_add.nd (blkOk_by (by kernel_rfl)) (i_zip T.z_zip (a_cons (e_fld (e_var 0) (fld_mk (tab_cons ⟨T.cl2, T.na2_rows, rfl, (show ("rows" : Str) ∉ (["rows", "width"] : List Str).take 0 from by decide)⟩ tab_nil))) (a_cons (e_fld (e_var 1) (fld_mk (tab_cons ⟨T.cl2, T.na2_rows, rfl, (show ("rows" : Str) ∉ (["rows", "width"] : List Str).take 0 from by decide)⟩ tab_nil))) a_nil))) (fun _ _ _ _ _ => (g_tup rfl (gs_cons (g_name 2 sc_Grid_add.nd) (gs_cons (g_name 3 sc_Grid_add.nd) gs_nil)))) (fun _ _ _ _ _ => ts_nil) (fun _ _ _ _ _ => (e_lc (own := [("x", 4), ("y", 5)]) rfl sc_Grid_add.nd (blkOk_by (by kernel_rfl)) (i_zip T.z_zip (a_cons (e_var 2) (a_cons (e_var 3) a_nil))) (fun _ _ _ _ _ => (g_tup rfl (gs_cons (g_name 4 sc_Grid_add.nd) (gs_cons (g_name 5 sc_Grid_add.nd) gs_nil)))) (fun _ _ _ _ _ => ts_nil) (fun _ _ _ _ _ => (e_add (e_var 4) (e_var 5)))))) (a_cons (e_fld (e_var 0) (fld_mk (tab_cons ⟨T.cl2, T.na2_width, rfl, (show ("width" : Str) ∉ (["rows", "width"] : List Str).take 1 from by decide)⟩ tab_nil))) a_nil)))))))
theorem ok_Grid_sub (T : Tx K mg) : FnOk P w K mg base (L2.CX P w) 10 (T.a 9) (T.fd 9) ["self", "other"] (spD T.C 2 f_Grid_sub) := fn_D T.F9 sc_Grid_sub rfl (fun cdv A outer s H E hr => (s_cons (s_if ((w_or (t_cmp (op_neD hr.units) (os_ne (by rfl)) (e_callB call_len (cs_len (by rfl)) (by rfl) T.z_len boot_len' (a_cons (e_fld (e_var 0) (fld_mk (tab_cons ⟨T.cl2, T.na2_rows, rfl, (show ("rows" : Str) ∉ (["rows", "width"] : List Str).take 0 from by decide)⟩ tab_nil))) a_nil)) (e_callB call_len (cs_len (by rfl)) (by rfl) T.z_len boot_len' (a_cons (e_fld (e_var 1) (fld_mk (tab_cons ⟨T.cl2, T.na2_rows, rfl, (show ("rows" : Str) ∉ (["rows", "width"] : List Str).take 0 from by decide)⟩ tab_nil))) a_nil)) (nomark _)) (w_or1 (t_cmp (op_neD hr.units) (os_ne (by rfl)) (e_fld (e_var 0) (fld_mk (tab_cons ⟨T.cl2, T.na2_width, rfl, (show ("width" : Str) ∉ (["rows", "width"] : List Str).take 1 from by decide)⟩ tab_nil))) (e_fld (e_var 1) (fld_mk (tab_cons ⟨T.cl2, T.na2_width, rfl, (show ("width" : Str) ∉ (["rows", "width"] : List Str).take 1 from by decide)⟩ tab_nil))) (nomark _))))).pt (s_one (s_raise rfl (takes_of rfl rfl rfl rfl) PySem.F.excBase_ValueError T.ex1 T.mc1 T.kp1 (raises_own T.ra1 T.rb1))) s_nil) (s_one (s_ret (e_make T.mk2 (ok_Grid_init T) (hr.mono (by decide)) T.mc2 T.b4 .nil rfl (passAt (takes_of rfl rfl rfl rfl)) (a_cons (e_lc (own := [("a", 2), ("b", 3)]) rfl sc_Grid_sub.nd (blkOk_by (by kernel_rfl)) (i_zip T.z_zip (a_cons (e_fld (e_var 0) (fld_mk (tab_cons ⟨T.cl2, T.na2_rows, rfl, (show ("rows" : Str) ∉ (["rows", "width"] : List Str).take 0 from by decide)⟩ tab_nil))) (a_cons (e_fld (e_var 1) (fld_mk (tab_cons ⟨T.cl2, T.na2_rows, rfl, (show ("rows" : Str) ∉ (["rows", "width"] : List Str).take 0 from by decide)⟩ tab_nil))) a_nil))) (fun _ _ _ _ _ => (g_tup rfl (gs_cons (g_name 2 sc_Grid_sub.nd) (gs_cons (g_name 3 sc_Grid_sub.nd) gs_nil)))) (fun _ _ _ _ _ => ts_nil) (fun _ _ _ _ _ => (e_lc (own := [("x", 4), ("y", 5)]) rfl sc_Grid_sub.nd (blkOk_by (by kernel_rfl)) (i_zip T.z_zip (a_cons (e_var 2) (a_cons (e_var 3) a_nil))) (fun _ _ _ _ _ => (g_tup rfl (gs_cons (g_name 4 sc_Grid_sub.nd) (gs_cons (g_name 5 sc_Grid_sub.nd) gs_nil)))) (fun _ _ _ _ _ => ts_nil) (fun _ _ _ _ _ => (e_sub (e_var 4) (e_var 5)))))) (a_cons (e_fld (e_var 0) (fld_mk (tab_cons ⟨T.cl2, T.na2_width, rfl, (show ("width" : Str) ∉ (["rows", "width"] : List Str).take 1 from by decide)⟩ tab_nil))) a_nil)))))))
theorem ok_Grid_mul (T : Tx K mg) : FnOk P w K mg base (L2.CX P w) 10 (T.a 10) (T.fd 10) ["self", "other"] (spD T.C 2 f_Grid_mul) := fn_D T.F10 sc_Grid_mul rfl (fun cdv A outer s H E hr => (s_cons (s_if (t_cmp (op_neD hr.units) (os_ne (by rfl)) (e_fld (e_var 0) (fld_mk (tab_cons ⟨T.cl2, T.na2_width, rfl, (show ("width" : Str) ∉ (["rows", "width"] : List Str).take 1 from by decide)⟩ tab_nil))) (e_callB call_len (cs_len (by rfl)) (by rfl) T.z_len boot_len' (a_cons (e_fld (e_var 1) (fld_mk (tab_cons ⟨T.cl2, T.na2_rows, rfl, (show ("rows" : Str) ∉ (["rows", "width"] : List Str).take 0 from by decide)⟩ tab_nil))) a_nil)) (nomark _)) (s_one (s_raise rfl (takes_of rfl rfl rfl rfl) PySem.F.excBase_ValueError T.ex1 T.mc1 T.kp1 (raises_own T.ra1 T.rb1))) s_nil) (s_cons (s_set 2 sc_Grid_mul.nd (e_lc (own := [("k", 3)]) rfl sc_Grid_mul.nd (blkOk_by (by kernel_rfl)) (i_rng1 (by rfl) T.z_range (a_cons (e_fld (e_var 1) (fld_mk (tab_cons ⟨T.cl2, T.na2_width, rfl, (show ("width" : Str) ∉ (["rows", "width"] : List Str).take 1 from by decide)⟩ tab_nil))) a_nil) (len_cons len_nil)) (fun _ _ _ _ _ => (g_name 3 sc_Grid_mul.nd)) (fun _ _ _ _ _ => ts_nil) (fun _ _ _ _ _ => (e_lc (own := [("row", 4)]) rfl sc_Grid_mul.nd (blkOk_by (by kernel_rfl)) (i_seq (e_fld (e_var 1) (fld_mk (tab_cons ⟨T.cl2, T.na2_rows, rfl, (show ("rows" : Str) ∉ (["rows", "width"] : List Str).take 0 from by decide)⟩ tab_nil)))) (fun _ _ _ _ _ => (g_name 4 sc_Grid_mul.nd)) (fun _ _ _ _ _ => ts_nil) (fun _ _ _ _ _ => (e_idxN 4 (e_var 3))))))) (s_one (s_ret (e_make T.mk2 (ok_Grid_init T) (hr.mono (by decide)) T.mc2 T.b4 .nil rfl (passAt (takes_of rfl rfl rfl rfl)) (a_cons (e_lc (own := [("row", 4)]) rfl sc_Grid_mul.nd (blkOk_by (by kernel_rfl)) (i_seq (e_fld (e_var 0) (fld_mk (tab_cons ⟨T.cl2, T.na2_rows, rfl, (show ("rows" : Str) ∉ (["rows", "width"] : List Str).take 0 from by decide)⟩ tab_nil)))) (fun _ _ _ _ _ => (g_name 4 sc_Grid_mul.nd)) (fun _ _ _ _ _ => ts_nil) (fun _ _ _ _ _ => (e_lc (own := [("column", 5)]) rfl sc_Grid_mul.nd (blkOk_by (by kernel_rfl)) (i_seq (e_var 2)) (fun _ _ _ _ _ => (g_name 5 sc_Grid_mul.nd)) (fun _ _ _ _ _ => ts_nil) (fun _ _ _ _ _ => (e_call (ok_dot T) (hr.mono (by decide)) T.m1 T.F1.kp T.b1 .nil (fun _ => passes0) (c_cons (e_var 4) (c_cons (e_var 5) c_nil))))))) (a_cons (e_fld (e_var 1) (fld_mk (tab_cons ⟨T.cl2, T.na2_width, rfl, (show ("width" : Str) ∉ (["rows", "width"] : List Str).take 1 from by decide)⟩ tab_nil))) a_nil))))))))
theorem ok_Grid_neg (T : Tx K mg) : FnOk P w K mg base (L2.CX P w) 10 (T.a 11) (T.fd 11) ["self"] (spD T.C 1 f_Grid_neg) := fn_D T.F11 sc_Grid_neg rfl (fun cdv A outer s H E hr => (s_one (s_ret (e_make T.mk2 (ok_Grid_init T) (hr.mono (by decide)) T.mc2 T.b4 .nil rfl (passAt (takes_of rfl rfl rfl rfl)) (a_cons (e_lc (own := [("row", 1)]) rfl sc_Grid_neg.nd (blkOk_by (by kernel_rfl)) (i_seq (e_fld (e_var 0) (fld_mk (tab_cons ⟨T.cl2, T.na2_rows, rfl, (show ("rows" : Str) ∉ (["rows", "width"] : List Str).take 0 from by decide)⟩ tab_nil)))) (fun _ _ _ _ _ => (g_name 1 sc_Grid_neg.nd)) (fun _ _ _ _ _ => ts_nil) (fun _ _ _ _ _ => (e_lc (own := [("x", 2)]) rfl sc_Grid_neg.nd (blkOk_by (by kernel_rfl)) (i_seq (e_var 1)) (fun _ _ _ _ _ => (g_name 2 sc_Grid_neg.nd)) (fun _ _ _ _ _ => ts_nil) (fun _ _ _ _ _ => (e_neg (e_var 2)))))) (a_cons (e_fld (e_var 0) (fld_mk (tab_cons ⟨T.cl2, T.na2_width, rfl, (show ("width" : Str) ∉ (["rows", "width"] : List Str).take 1 from by decide)⟩ tab_nil))) a_nil))))))
theorem ok_Grid_scaled (T : Tx K mg) : FnOk P w K mg base (L2.CX P w) 10 (T.a 12) (T.fd 12) ["self", "k"] (spD T.C 2 f_Grid_scaled) := fn_D T.F12 sc_Grid_scaled rfl (fun cdv A outer s H E hr => (s_one (s_ret (e_make T.mk2 (ok_Grid_init T) (hr.mono (by decide)) T.mc2 T.b4 .nil rfl (passAt (takes_of rfl rfl rfl rfl)) (a_cons (e_lc (own := [("row", 2)]) rfl sc_Grid_scaled.nd (blkOk_by (by kernel_rfl)) (i_seq (e_fld (e_var 0) (fld_mk (tab_cons ⟨T.cl2, T.na2_rows, rfl, (show ("rows" : Str) ∉ (["rows", "width"] : List Str).take 0 from by decide)⟩ tab_nil)))) (fun _ _ _ _ _ => (g_name 2 sc_Grid_scaled.nd)) (fun _ _ _ _ _ => ts_nil) (fun _ _ _ _ _ => (e_lc (own := [("x", 3)]) rfl sc_Grid_scaled.nd (blkOk_by (by kernel_rfl)) (i_seq (e_var 2)) (fun _ _ _ _ _ => (g_name 3 sc_Grid_scaled.nd)) (fun _ _ _ _ _ => ts_nil) (fun _ _ _ _ _ => (e_mul (e_var 1) (e_var 3)))))) (a_cons (e_fld (e_var 0) (fld_mk (tab_cons ⟨T.cl2, T.na2_width, rfl, (show ("width" : Str) ∉ (["rows", "width"] : List Str).take 1 from by decide)⟩ tab_nil))) a_nil))))))
theorem ok_Grid_transposed (T : Tx K mg) : FnOk P w K mg base (L2.CX P w) 10 (T.a 13) (T.fd 13) ["self"] (spD T.C 1 f_Grid_transposed) := fn_D T.F13 sc_Grid_transposed rfl (fun cdv A outer s H E hr => (s_one (s_ret (e_make T.mk2 (ok_Grid_init T) (hr.mono (by decide)) T.mc2 T.b4 .nil rfl (passAt (takes_of rfl rfl rfl rfl)) (a_cons (e_lc (own := [("k", 1)]) rfl sc_Grid_transposed.nd (blkOk_by (by kernel_rfl)) (i_rng1 (by rfl) T.z_range (a_cons (e_fld (e_var 0) (fld_mk (tab_cons ⟨T.cl2, T.na2_width, rfl, (show ("width" : Str) ∉ (["rows", "width"] : List Str).take 1 from by decide)⟩ tab_nil))) a_nil) (len_cons len_nil)) (fun _ _ _ _ _ => (g_name 1 sc_Grid_transposed.nd)) (fun _ _ _ _ _ => ts_nil) (fun _ _ _ _ _ => (e_lc (own := [("row", 2)]) rfl sc_Grid_transposed.nd (blkOk_by (by kernel_rfl)) (i_seq (e_fld (e_var 0) (fld_mk (tab_cons ⟨T.cl2, T.na2_rows, rfl, (show ("rows" : Str) ∉ (["rows", "width"] : List Str).take 0 from by decide)⟩ tab_nil)))) (fun _ _ _ _ _ => (g_name 2 sc_Grid_transposed.nd)) (fun _ _ _ _ _ => ts_nil) (fun _ _ _ _ _ => (e_idxN 2 (e_var 1)))))) (a_cons (e_callB call_len (cs_len (by rfl)) (by rfl) T.z_len boot_len' (a_cons (e_fld (e_var 0) (fld_mk (tab_cons ⟨T.cl2, T.na2_rows, rfl, (show ("rows" : Str) ∉ (["rows", "width"] : List Str).take 0 from by decide)⟩ tab_nil))) a_nil)) a_nil))))))
theorem ok_Grid_times (T : Tx K mg) : FnOk P w K mg base (L2.CX P w) 4 (T.a 14) (T.fd 14) ["self", "row"] (spD T.C 2 f_Grid_times) := fn_D T.F14 sc_Grid_times rfl (fun cdv A outer s H E hr => (s_cons (s_if (t_cmp (op_neD hr.units) (os_ne (by rfl)) (e_lenN 1 (by rfl) T.z_len) (e_fld (e_var 0) (fld_mk (tab_cons ⟨T.cl2, T.na2_width, rfl, (show ("width" : Str) ∉ (["rows", "width"] : List Str).take 1 from by decide)⟩ tab_nil))) (nomark _)) (s_one (s_raise rfl (takes_of rfl rfl rfl rfl) PySem.F.excBase_ValueError T.ex1 T.mc1 T.kp1 (raises_own T.ra1 T.rb1))) s_nil) (s_one (s_ret (e_callTy call_tuple_of (cs_tuple (by rfl)) (by rfl) T.z_tuple boot_tuple' (a_cons (e_lc (own := [("line", 2)]) rfl sc_Grid_times.nd (blkOk_by (by kernel_rfl)) (i_seq (e_fld (e_var 0) (fld_mk (tab_cons ⟨T.cl2, T.na2_rows, rfl, (show ("rows" : Str) ∉ (["rows", "width"] : List Str).take 0 from by decide)⟩ tab_nil)))) (fun _ _ _ _ _ => (g_name 2 sc_Grid_times.nd)) (fun _ _ _ _ _ => ts_nil) (fun _ _ _ _ _ => (e_call (ok_dot T) (hr.mono (by decide)) T.m1 T.F1.kp T.b1 .nil (fun _ => passes0) (c_cons (e_var 2) (c_cons (e_var 1) c_nil))))) a_nil))))))
theorem ok_Grid_before (T : Tx K mg) : FnOk P w K mg base (L2.CX P w) 4 (T.a 15) (T.fd 15) ["self", "row"] (spD T.C 2 f_Grid_before) := fn_D T.F15 sc_Grid_before rfl (fun cdv A outer s H E hr => (s_cons (s_if (t_cmp (op_neD hr.units) (os_ne (by rfl)) (e_lenN 1 (by rfl) T.z_len) (e_callB call_len (cs_len (by rfl)) (by rfl) T.z_len boot_len' (a_cons (e_fld (e_var 0) (fld_mk (tab_cons ⟨T.cl2, T.na2_rows, rfl, (show ("rows" : Str) ∉ (["rows", "width"] : List Str).take 0 from by decide)⟩ tab_nil))) a_nil)) (nomark _)) (s_one (s_raise rfl (takes_of rfl rfl rfl rfl) PySem.F.excBase_ValueError T.ex1 T.mc1 T.kp1 (raises_own T.ra1 T.rb1))) s_nil) (s_one (s_ret (e_callTy call_tuple_of (cs_tuple (by rfl)) (by rfl) T.z_tuple boot_tuple' (a_cons (e_lc (own := [("k", 2)]) rfl sc_Grid_before.nd (blkOk_by (by kernel_rfl)) (i_rng1 (by rfl) T.z_range (a_cons (e_fld (e_var 0) (fld_mk (tab_cons ⟨T.cl2, T.na2_width, rfl, (show ("width" : Str) ∉ (["rows", "width"] : List Str).take 1 from by decide)⟩ tab_nil))) a_nil) (len_cons len_nil)) (fun _ _ _ _ _ => (g_name 2 sc_Grid_before.nd)) (fun _ _ _ _ _ => ts_nil) (fun _ _ _ _ _ => (e_call (ok_dot T) (hr.mono (by decide)) T.m1 T.F1.kp T.b1 .nil (fun _ => passes0) (c_cons (e_var 1) (c_cons (e_lc (own := [("line", 3)]) rfl sc_Grid_before.nd (blkOk_by (by kernel_rfl)) (i_seq (e_fld (e_var 0) (fld_mk (tab_cons ⟨T.cl2, T.na2_rows, rfl, (show ("rows" : Str) ∉ (["rows", "width"] : List Str).take 0 from by decide)⟩ tab_nil)))) (fun _ _ _ _ _ => (g_name 3 sc_Grid_before.nd)) (fun _ _ _ _ _ => ts_nil) (fun _ _ _ _ _ => (e_idxN 3 (e_var 2)))) c_nil))))) a_nil))))))
theorem ok_Grid_stacked (T : Tx K mg) : FnOk P w K mg base (L2.CX P w) 10 (T.a 16) (T.fd 16) ["self", "other"] (spD T.C 2 f_Grid_stacked) := fn_D T.F16 sc_Grid_stacked rfl (fun cdv A outer s H E hr => (s_cons (s_if (t_cmp (op_neD hr.units) (os_ne (by rfl)) (e_fld (e_var 0) (fld_mk (tab_cons ⟨T.cl2, T.na2_width, rfl, (show ("width" : Str) ∉ (["rows", "width"] : List Str).take 1 from by decide)⟩ tab_nil))) (e_fld (e_var 1) (fld_mk (tab_cons ⟨T.cl2, T.na2_width, rfl, (show ("width" : Str) ∉ (["rows", "width"] : List Str).take 1 from by decide)⟩ tab_nil))) (nomark _)) (s_one (s_raise rfl (takes_of rfl rfl rfl rfl) PySem.F.excBase_ValueError T.ex1 T.mc1 T.kp1 (raises_own T.ra1 T.rb1))) s_nil) (s_one (s_ret (e_make T.mk2 (ok_Grid_init T) (hr.mono (by decide)) T.mc2 T.b4 .nil rfl (passAt (takes_of rfl rfl rfl rfl)) (a_cons (e_add (e_fld (e_var 0) (fld_mk (tab_cons ⟨T.cl2, T.na2_rows, rfl, (show ("rows" : Str) ∉ (["rows", "width"] : List Str).take 0 from by decide)⟩ tab_nil))) (e_fld (e_var 1) (fld_mk (tab_cons ⟨T.cl2, T.na2_rows, rfl, (show ("rows" : Str) ∉ (["rows", "width"] : List Str).take 0 from by decide)⟩ tab_nil)))) (a_cons (e_fld (e_var 0) (fld_mk (tab_cons ⟨T.cl2, T.na2_width, rfl, (show ("width" : Str) ∉ (["rows", "width"] : List Str).take 1 from by decide)⟩ tab_nil))) a_nil)))))))
theorem ok_Grid_is_square (T : Tx K mg) : FnOk P w K mg base (L2.CX P w) 1 (T.a 17) (T.fd 17) ["self"] (spD T.C 1 f_Grid_is_square) := fn_D T.F17 sc_Grid_is_square rfl (fun cdv A outer s H E hr => (s_one (s_ret (e_eq hr (e_callB call_len (cs_len (by rfl)) (by rfl) T.z_len boot_len' (a_cons (e_fld (e_var 0) (fld_mk (tab_cons ⟨T.cl2, T.na2_rows, rfl, (show ("rows" : Str) ∉ (["rows", "width"] : List Str).take 0 from by decide)⟩ tab_nil))) a_nil)) (e_fld (e_var 0) (fld_mk (tab_cons ⟨T.cl2, T.na2_width, rfl, (show ("width" : Str) ∉ (["rows", "width"] : List Str).take 1 from by decide)⟩ tab_nil)))))))
theorem ok_unit (T : Tx K mg) : FnOk P w K mg base (L2.CX P w) 10 (T.a 18) (T.fd 18) ["n"] (spD T.C 1 f_unit) := fn_D T.F18 sc_unit rfl (fun cdv A outer s H E hr => (s_one (s_ret (e_make T.mk2 (ok_Grid_init T) (hr.mono (by decide)) T.mc2 T.b4 .nil rfl (passAt (takes_of rfl rfl rfl rfl)) (a_cons (e_call (ok_unit_rows T) (hr.mono (by decide)) T.m3 T.F3.kp T.b3 .nil (passAt (takes_of rfl rfl rfl rfl)) (c_cons (e_var 0) c_nil)) (a_cons (e_var 0) a_nil))))))
theorem ok_diagonal (T : Tx K mg) : FnOk P w K mg base (L2.CX P w) 10 (T.a 19) (T.fd 19) ["numbers"] (spD T.C 1 f_diagonal) := fn_D T.F19 sc_diagonal rfl (fun cdv A outer s H E hr => (s_cons (s_set 1 sc_diagonal.nd (e_lenN 0 (by rfl) T.z_len)) (s_one (s_ret (e_make T.mk2 (ok_Grid_init T) (hr.mono (by decide)) T.mc2 T.b4 .nil rfl (passAt (takes_of rfl rfl rfl rfl)) (a_cons (e_lc (own := [("i", 2)]) rfl sc_diagonal.nd (blkOk_by (by kernel_rfl)) (i_rng1 (by rfl) T.z_range (a_cons (e_var 1) a_nil) (len_cons len_nil)) (fun _ _ _ _ _ => (g_name 2 sc_diagonal.nd)) (fun _ _ _ _ _ => ts_nil) (fun _ _ _ _ _ => (e_lc (own := [("k", 3)]) rfl sc_diagonal.nd (blkOk_by (by kernel_rfl)) (i_rng1 (by rfl) T.z_range (a_cons (e_var 1) a_nil) (len_cons len_nil)) (fun _ _ _ _ _ => (g_name 3 sc_diagonal.nd)) (fun _ _ _ _ _ => ts_nil) (fun _ _ _ _ _ => (e_ifExp (t_cmp (op_eqD hr.units) (os_eq (by rfl)) (e_var 2) (e_var 3) (nomark _)) (e_idxN 0 (e_var 2)) e_int))))) (a_cons (e_var 1) a_nil)))))))
theorem ok_blocks (T : Tx K mg) : FnOk P w K mg base (L2.CX P w) 10 (T.a 20) (T.fd 20) ["a", "b"] (spD T.C 2 f_blocks) := fn_D T.F20 sc_blocks rfl (fun cdv A outer s H E hr => (s_cons (s_setLc 2 (hsw := rfl) (own := [("row", 4)]) rfl sc_blocks.nd (blkOk_by (by kernel_rfl)) (i_seq (e_fld (e_var 0) (fld_mk (tab_cons ⟨T.cl2, T.na2_rows, rfl, (show ("rows" : Str) ∉ (["rows", "width"] : List Str).take 0 from by decide)⟩ tab_nil)))) (fun _ _ _ _ _ => (g_name 4 sc_blocks.nd)) (fun _ _ _ _ _ => ts_nil) (fun _ _ _ _ _ => (e_add (e_callTy call_list_of (cs_list (by rfl)) (by rfl) T.z_list boot_list' (a_cons (e_var 4) a_nil)) (e_lc (own := [("_", 5)]) rfl sc_blocks.nd (blkOk_by (by kernel_rfl)) (i_rng1 (by rfl) T.z_range (a_cons (e_fld (e_var 1) (fld_mk (tab_cons ⟨T.cl2, T.na2_width, rfl, (show ("width" : Str) ∉ (["rows", "width"] : List Str).take 1 from by decide)⟩ tab_nil))) a_nil) (len_cons len_nil)) (fun _ _ _ _ _ => (g_name 5 sc_blocks.nd)) (fun _ _ _ _ _ => ts_nil) (fun _ _ _ _ _ => e_int))))) (s_cons (s_setLc 3 (hsw := rfl) (own := [("row", 4)]) rfl sc_blocks.nd (blkOk_by (by kernel_rfl)) (i_seq (e_fld (e_var 1) (fld_mk (tab_cons ⟨T.cl2, T.na2_rows, rfl, (show ("rows" : Str) ∉ (["rows", "width"] : List Str).take 0 from by decide)⟩ tab_nil)))) (fun _ _ _ _ _ => (g_name 4 sc_blocks.nd)) (fun _ _ _ _ _ => ts_nil) (fun _ _ _ _ _ => (e_add (e_lc (own := [("_", 5)]) rfl sc_blocks.nd (blkOk_by (by kernel_rfl)) (i_rng1 (by rfl) T.z_range (a_cons (e_fld (e_var 0) (fld_mk (tab_cons ⟨T.cl2, T.na2_width, rfl, (show ("width" : Str) ∉ (["rows", "width"] : List Str).take 1 from by decide)⟩ tab_nil))) a_nil) (len_cons len_nil)) (fun _ _ _ _ _ => (g_name 5 sc_blocks.nd)) (fun _ _ _ _ _ => ts_nil) (fun _ _ _ _ _ => e_int)) (e_callTy call_list_of (cs_list (by rfl)) (by rfl) T.z_list boot_list' (a_cons (e_var 4) a_nil))))) (s_one (s_ret (e_make T.mk2 (ok_Grid_init T) (hr.mono (by decide)) T.mc2 T.b4 .nil rfl (passAt (takes_of rfl rfl rfl rfl)) (a_cons (e_add (e_var 2) (e_var 3)) (a_cons (e_add (e_fld (e_var 0) (fld_mk (tab_cons ⟨T.cl2, T.na2_width, rfl, (show ("width" : Str) ∉ (["rows", "width"] : List Str).take 1 from by decide)⟩ tab_nil))) (e_fld (e_var 1) (fld_mk (tab_cons ⟨T.cl2, T.na2_width, rfl, (show ("width" : Str) ∉ (["rows", "width"] : List Str).take 1 from by decide)⟩ tab_nil)))) a_nil))))))))
theorem ok_law_state (T : Tx K mg) : FnOk P w K mg base (L2.CX P w) 1 (T.a 21) (T.fd 21) ["_law_script"] (spD T.C 1 f_law_state) := fn_D T.F21 sc_law_state rfl (fun cdv A outer s H E hr => (s_cons (s_set 1 sc_law_state.nd e_int) (s_cons (s_set 2 sc_law_state.nd e_int) (s_cons (s_for (passes_of rfl) rfl (i_seq (e_sl (e_var 0) o_none (o_some e_int))) (g_name 3 sc_law_state.nd) (s_cons (s_set 1 sc_law_state.nd (e_add (e_mul (e_var 1) e_int) (e_callB call_abs cs_abs (by rfl) T.z_abs boot_abs' (a_cons (e_var 3) a_nil)))) (s_one (s_set 2 sc_law_state.nd (e_mod (e_callTy call_int1 cs_int (by rfl) T.z_int boot_int' (a_cons (e_add (e_mul (e_var 2) e_int) (e_var 3)) a_nil)) e_int))))) (s_one (s_ret (e_lst (a_cons (e_var 1) (a_cons (e_var 2) a_nil)))))))))
theorem ok_law_take (T : Tx K mg) : FnOk P w K mg base (L2.CX P w) 1 (T.a 22) (T.fd 22) ["_law_state_here", "_law_m"] (spD T.C 2 f_law_take) := fn_D T.F22 sc_law_take rfl (fun cdv A outer s H E hr => (s_cons (s_if (t_cmp op_gtV os_gt (e_idxN 0 e_int) e_int (nomark _)) (s_cons (s_set 2 sc_law_take.nd (e_mod (e_callTy call_int1 cs_int (by rfl) T.z_int boot_int' (a_cons (e_idxN 0 e_int) a_nil)) (e_var 1))) (s_cons (s_setI 0 (e_div (e_idxN 0 e_int) (e_var 1)) e_int) (s_one (s_ret (e_var 2))))) s_nil) (s_cons (s_setI 0 (e_mod (e_callTy call_int1 cs_int (by rfl) T.z_int boot_int' (a_cons (e_add (e_mul (e_idxN 0 e_int) e_int) e_int) a_nil)) e_int) e_int) (s_one (s_ret (e_mod (e_callTy call_int1 cs_int (by rfl) T.z_int boot_int' (a_cons (e_div (e_idxN 0 e_int) e_int) a_nil)) (e_var 1)))))))
theorem ok_law_rows (T : Tx K mg) : FnOk P w K mg base (L2.CX P w) 4 (T.a 23) (T.fd 23) ["_law_state_here", "_law_height", "_law_width", "_law_most"] (spD T.C 4 f_law_rows) := fn_D T.F23 sc_law_rows rfl (fun cdv A outer s H E hr => (s_cons (s_set 4 sc_law_rows.nd (e_lst a_nil)) (s_cons (s_for (passes_of rfl) rfl (i_rng1 (by rfl) T.z_range (a_cons (e_var 1) a_nil) (len_cons len_nil)) (g_name 5 sc_law_rows.nd) (s_one (s_app 4 (e_callTy call_tuple_of (cs_tuple (by rfl)) (by rfl) T.z_tuple boot_tuple' (a_cons (e_lc (own := [("_law_k", 6)]) rfl sc_law_rows.nd (blkOk_by (by kernel_rfl)) (i_rng1 (by rfl) T.z_range (a_cons (e_var 2) a_nil) (len_cons len_nil)) (fun _ _ _ _ _ => (g_name 6 sc_law_rows.nd)) (fun _ _ _ _ _ => ts_nil) (fun _ _ _ _ _ => (e_sub (e_call (ok_law_take T) (hr.mono (by decide)) T.m22 T.F22.kp T.b22 .nil (fun _ => passes0) (c_lend 0 (c_cons (e_add (e_mul e_int (e_var 3)) e_int) c_nil))) (e_var 3)))) a_nil))))) (s_cons (s_if ((w_and (t_cmp op_gtV os_gt (e_var 1) e_int (nomark _)) (w_and1 (t_cmp (op_eqD hr.units) (os_eq (by rfl)) (e_call (ok_law_take T) (hr.mono (by decide)) T.m22 T.F22.kp T.b22 .nil (passAt (takes_of rfl rfl rfl rfl)) (c_lend 0 (c_cons e_int c_nil))) e_int (nomark _))))).pt (s_one (s_setI 4 (e_callTy call_tuple_of (cs_tuple (by rfl)) (by rfl) T.z_tuple boot_tuple' (a_cons (e_lc (own := [("_law_k", 6)]) rfl sc_law_rows.nd (blkOk_by (by kernel_rfl)) (i_rng1 (by rfl) T.z_range (a_cons (e_var 2) a_nil) (len_cons len_nil)) (fun _ _ _ _ _ => (g_name 6 sc_law_rows.nd)) (fun _ _ _ _ _ => ts_nil) (fun _ _ _ _ _ => (e_mul (e_idx (e_idxN 4 e_int) (e_var 6)) e_int))) a_nil)) (e_sub (e_var 1) e_int))) s_nil) (s_one (s_ret (e_callTy call_tuple_of (cs_tuple (by rfl)) (by rfl) T.z_tuple boot_tuple' (a_cons (e_var 4) a_nil))))))))
theorem ok_law_product (T : Tx K mg) : FnOk P w K mg base (L2.CX P w) 1 (T.a 24) (T.fd 24) ["_law_a", "_law_b", "_law_width"] (spD T.C 3 f_law_product) := fn_D T.F24 sc_law_product rfl (fun cdv A outer s H E hr => (s_cons (s_set 3 sc_law_product.nd (e_lst a_nil)) (s_cons (s_for (passes_of rfl) rfl (i_seq (e_var 0)) (g_name 4 sc_law_product.nd) (s_cons (s_set 5 sc_law_product.nd (e_lst a_nil)) (s_cons (s_for (passes_of rfl) rfl (i_rng1 (by rfl) T.z_range (a_cons (e_var 2) a_nil) (len_cons len_nil)) (g_name 6 sc_law_product.nd) (s_cons (s_set 7 sc_law_product.nd e_int) (s_cons (s_for (passes_of rfl) rfl (i_rng1 (by rfl) T.z_range (a_cons (e_lenN 1 (by rfl) T.z_len) a_nil) (len_cons len_nil)) (g_name 8 sc_law_product.nd) (s_one (s_set 7 sc_law_product.nd (e_add (e_var 7) (e_mul (e_idxN 4 (e_var 8)) (e_idx (e_idxN 1 (e_var 8)) (e_var 6))))))) (s_one (s_app 5 (e_var 7)))))) (s_one (s_app 3 (e_callTy call_tuple_of (cs_tuple (by rfl)) (by rfl) T.z_tuple boot_tuple' (a_cons (e_var 5) a_nil))))))) (s_one (s_ret (e_callTy call_tuple_of (cs_tuple (by rfl)) (by rfl) T.z_tuple boot_tuple' (a_cons (e_var 3) a_nil)))))))
theorem ok_law_is_rows (T : Tx K mg) : FnOk P w K mg base (L2.CX P w) 4 (T.a 25) (T.fd 25) ["_law_value", "_law_height", "_law_width"] (spD T.C 3 f_law_is_rows) := fn_D T.F25 sc_law_is_rows rfl (fun cdv A outer s H E hr => (s_cons (s_if ((w_or (t_not (t_tru (e_isi (by rfl) T.z_isinstance (e_var 0) (pe_glob (v := .ref (T.ca 2)) (by rfl) T.mc2 rfl) (.own _) (isi_mk (tab_cons ⟨T.q_Grid_0, lowk (by decide)⟩ (tab_cons ⟨T.q_Grid_1, lowk (by decide)⟩ (tab_cons ⟨T.q_Grid_2, lowk (by decide)⟩ (tab_cons ⟨T.q_Grid_3, lowk (by decide)⟩ (tab_cons ⟨T.q_Grid_4, lowk (by decide)⟩ (tab_cons ⟨T.q_Grid_5, lowk (by decide)⟩ (tab_cons ⟨T.q_Grid_8, insk T.ins2⟩ tab_nil))))))))))) (w_or (t_not (t_tru (e_isi (by rfl) T.z_isinstance (e_fld (e_var 0) (fld_mk (tab_cons ⟨T.cl2, T.na2_rows, rfl, (show ("rows" : Str) ∉ (["rows", "width"] : List Str).take 0 from by decide)⟩ tab_nil))) (pe_bltn (v := .ty "tuple") (by rfl) T.z_tuple boot_tuple' rfl) (.ty "tuple") (isi_mk (tab_cons ⟨T.q_tuple_0, lowk (by decide)⟩ (tab_cons ⟨T.q_tuple_1, lowk (by decide)⟩ (tab_cons ⟨T.q_tuple_2, lowk (by decide)⟩ (tab_cons ⟨T.q_tuple_3, lowk (by decide)⟩ (tab_cons ⟨T.q_tuple_4, lowk (by decide)⟩ (tab_cons ⟨T.q_tuple_5, lowk (by decide)⟩ (tab_cons ⟨T.q_tuple_8, insk T.ins2⟩ tab_nil))))))))))) (w_or (t_cmp (op_neD hr.units) (os_ne (by rfl)) (e_fld (e_var 0) (fld_mk (tab_cons ⟨T.cl2, T.na2_width, rfl, (show ("width" : Str) ∉ (["rows", "width"] : List Str).take 1 from by decide)⟩ tab_nil))) (e_var 2) (nomark _)) (w_or1 (t_cmp (op_neD hr.units) (os_ne (by rfl)) (e_callB (call_ownLen (owntbl_mk (tab_cons (own_mk T.h5 T.g5 (ok_Grid_len T) (hr.mono (by decide)) T.b5) tab_nil))) (cs_ownLen (by rfl)) (by rfl) T.z_len boot_len' (a_cons (e_var 0) a_nil)) (e_var 1) (nomark _))))))).pt (s_one (s_ret e_bl)) s_nil) (s_cons (s_for (passes_of rfl) rfl (i_seq (e_fld (e_var 0) (fld_mk (tab_cons ⟨T.cl2, T.na2_rows, rfl, (show ("rows" : Str) ∉ (["rows", "width"] : List Str).take 0 from by decide)⟩ tab_nil)))) (g_name 3 sc_law_is_rows.nd) (s_cons (s_if ((w_or (t_not (t_tru (e_isi (by rfl) T.z_isinstance (e_var 3) (pe_bltn (v := .ty "tuple") (by rfl) T.z_tuple boot_tuple' rfl) (.ty "tuple") (isi_mk (tab_cons ⟨T.q_tuple_0, lowk (by decide)⟩ (tab_cons ⟨T.q_tuple_1, lowk (by decide)⟩ (tab_cons ⟨T.q_tuple_2, lowk (by decide)⟩ (tab_cons ⟨T.q_tuple_3, lowk (by decide)⟩ (tab_cons ⟨T.q_tuple_4, lowk (by decide)⟩ (tab_cons ⟨T.q_tuple_5, lowk (by decide)⟩ (tab_cons ⟨T.q_tuple_8, insk T.ins2⟩ tab_nil))))))))))) (w_or1 (t_cmp (op_neD hr.units) (os_ne (by rfl)) (e_lenN 3 (by rfl) T.z_len) (e_var 2) (nomark _))))).pt (s_one (s_ret e_bl)) s_nil) (s_one (s_for (passes_of rfl) rfl (i_seq (e_var 3)) (g_name 4 sc_law_is_rows.nd) (s_one (s_if ((w_or (t_not (t_tru (e_isi (by rfl) T.z_isinstance (e_var 4) (pe_bltn (v := .ty "int") (by rfl) T.z_int boot_int' rfl) (.ty "int") (isi_mk (tab_cons ⟨T.q_int_0, lowk (by decide)⟩ (tab_cons ⟨T.q_int_1, lowk (by decide)⟩ (tab_cons ⟨T.q_int_2, lowk (by decide)⟩ (tab_cons ⟨T.q_int_3, lowk (by decide)⟩ (tab_cons ⟨T.q_int_4, lowk (by decide)⟩ (tab_cons ⟨T.q_int_5, lowk (by decide)⟩ (tab_cons ⟨T.q_int_8, insk T.ins2⟩ tab_nil))))))))))) (w_or1 (t_tru (e_isi (by rfl) T.z_isinstance (e_var 4) (pe_bltn (v := .ty "bool") (by rfl) T.z_bool boot_bool' rfl) (.ty "bool") (isi_mk (tab_cons ⟨T.q_bool_0, lowk (by decide)⟩ (tab_cons ⟨T.q_bool_1, lowk (by decide)⟩ (tab_cons ⟨T.q_bool_2, lowk (by decide)⟩ (tab_cons ⟨T.q_bool_3, lowk (by decide)⟩ (tab_cons ⟨T.q_bool_4, lowk (by decide)⟩ (tab_cons ⟨T.q_bool_5, lowk (by decide)⟩ (tab_cons ⟨T.q_bool_8, insk T.ins2⟩ tab_nil))))))))))))).pt (s_one (s_ret e_bl)) s_nil)))))) (s_one (s_ret e_bl)))))
theorem ok_law_malformed (T : Tx K mg) : FnOk P w K mg base (L2.CX P w) 13 (T.a 26) (T.fd 26) ["_law_a", "_law_k"] (spD T.C 2 f_law_malformed) := fn_D T.F26 sc_law_malformed rfl (fun cdv A outer s H E hr => (s_cons (s_set 2 sc_law_malformed.nd (e_make T.mk2 (ok_Grid_init T) (hr.mono (by decide)) T.mc2 T.b4 .nil rfl (passAt (takes_of rfl rfl rfl rfl)) (a_cons (e_lst (a_cons (e_lc (own := [("_law_j", 5)]) rfl sc_law_malformed.nd (blkOk_by (by kernel_rfl)) (i_rng1 (by rfl) T.z_range (a_cons (e_add (e_fld (e_var 0) (fld_mk (tab_cons ⟨T.cl2, T.na2_width, rfl, (show ("width" : Str) ∉ (["rows", "width"] : List Str).take 1 from by decide)⟩ tab_nil))) e_int) a_nil) (len_cons len_nil)) (fun _ _ _ _ _ => (g_name 5 sc_law_malformed.nd)) (fun _ _ _ _ _ => ts_nil) (fun _ _ _ _ _ => e_int)) a_nil)) (a_cons (e_add (e_fld (e_var 0) (fld_mk (tab_cons ⟨T.cl2, T.na2_width, rfl, (show ("width" : Str) ∉ (["rows", "width"] : List Str).take 1 from by decide)⟩ tab_nil))) e_int) a_nil)))) (s_cons (s_set 3 sc_law_malformed.nd e_int) (s_cons (s_for (passes_of rfl) rfl (i_rng1 (by rfl) T.z_range (a_cons e_int a_nil) (len_cons len_nil)) (g_name 4 sc_law_malformed.nd) (s_one (s_try rfl rfl ⟨rfl, by decide, .inl T.mc1⟩ (takes_of rfl rfl rfl rfl) (exc_mk (tab_cons T.em1_1 tab_nil)) (fun W pn xe tk po => (s_cons (s_if (t_cmp (op_eqD hr.units) (os_eq (by rfl)) (e_var 4) e_int (nomark _)) (s_one (s_expr (e_make T.mk2 (ok_Grid_init T) (hr.mono (by decide)) T.mc2 T.bd4.2 (defs_non T.bd4.1) rfl (passAt tk) (a_cons (e_ifExp (t_cmp (op_eqD hr.units) (os_eq (by rfl)) (e_var 1) e_int (nomark _)) (e_lst (a_cons (e_lst (a_cons e_int (a_cons e_int a_nil))) (a_cons (e_lst (a_cons e_int a_nil)) a_nil))) (e_ifExp (t_cmp (op_eqD hr.units) (os_eq (by rfl)) (e_var 1) e_int (nomark _)) (e_lst (a_cons (e_lst (a_cons e_int (a_cons e_bl a_nil))) a_nil)) (e_ifExp (t_cmp (op_eqD hr.units) (os_eq (by rfl)) (e_var 1) e_int (nomark _)) (e_lst (a_cons (e_lst (a_cons e_str a_nil)) a_nil)) (e_lst (a_cons (e_tup (a_cons e_int a_nil)) (a_cons (e_tup (a_cons e_int (a_cons e_int a_nil))) a_nil)))))) a_nil)))) s_nil) (s_cons (s_if (t_cmp (op_eqD hr.units) (os_eq (by rfl)) (e_var 4) e_int (nomark _)) (s_one (s_expr (e_meth (e_var 0) (tab_cons (mok_mk T.cl2 T.h16 T.g16 T.F16.kp (ok_Grid_stacked T) (hr.mono (by decide)) T.b16 .nil (show ("stacked" : Str) ∉ (["rows", "width"] : List Str) from by decide)) tab_nil) (passAt tk) (c_cons (e_var 2) c_nil)))) s_nil) (s_one (s_if (t_cmp (op_eqD hr.units) (os_eq (by rfl)) (e_var 4) e_int (nomark _)) (s_one (s_set 2 sc_law_malformed.nd (e_ifExp (t_cmp (op_eqD hr.units) (os_eq (by rfl)) (e_mod (e_var 1) e_int) e_int (nomark _)) (e_opO op_addV (os_add (by rfl)) (optbl_mk (tab_cons ⟨(own_mk T.h8 T.g8 (ok_Grid_add T) (hr.mono (by decide)) T.b8), T.sf2⟩ tab_nil)) (passAt tk) (e_var 0) (e_var 2)) (e_opO op_mulV (os_mul (by rfl)) (optbl_mk (tab_cons ⟨(own_mk T.h10 T.g10 (ok_Grid_mul T) (hr.mono (by decide)) T.b10), T.sf2⟩ tab_nil)) (passAt tk) (e_var 2) (e_meth (e_meth (e_var 0) (tab_cons (mok_mk T.cl2 T.h16 T.g16 T.F16.kp (ok_Grid_stacked T) (hr.mono (by decide)) T.b16 .nil (show ("stacked" : Str) ∉ (["rows", "width"] : List Str) from by decide)) tab_nil) (passAt tk) (c_cons (e_make T.mk2 (ok_Grid_init T) (hr.mono (by decide)) T.mc2 T.b4 .nil rfl (passAt tk) (a_cons (e_lst (a_cons (e_meth (e_var 0) (tab_cons (mok_mk T.cl2 T.h15 T.g15 T.F15.kp (ok_Grid_before T) (hr.mono (by decide)) T.b15 .nil (show ("before" : Str) ∉ (["rows", "width"] : List Str) from by decide)) tab_nil) (passAt tk) (c_cons (e_callTy call_tuple_of (cs_tuple (by rfl)) (by rfl) T.z_tuple boot_tuple' (a_cons (e_lc (own := [("_law_row", 6)]) rfl sc_law_malformed.nd (blkOk_by (by kernel_rfl)) (i_seqO (tab_cons (iterOk_Grid_iter T hr) tab_nil) (e_var 0)) (fun _ _ _ _ _ => (g_name 6 sc_law_malformed.nd)) (fun _ _ _ _ _ => ts_nil) (fun _ _ _ _ _ => e_int)) a_nil)) c_nil)) a_nil)) (a_cons (e_fld (e_var 0) (fld_mk (tab_cons ⟨T.cl2, T.na2_width, rfl, (show ("width" : Str) ∉ (["rows", "width"] : List Str).take 1 from by decide)⟩ tab_nil))) a_nil))) c_nil)) (tab_cons (mok_mk T.cl2 T.h16 T.g16 T.F16.kp (ok_Grid_stacked T) (hr.mono (by decide)) T.b16 .nil (show ("stacked" : Str) ∉ (["rows", "width"] : List Str) from by decide)) tab_nil) (passAt tk) (c_cons (e_var 0) c_nil)))))) s_nil))))) (fun a pn => (s_one (s_set 3 sc_law_malformed.nd (e_add (e_var 3) e_int))))))) (s_one (s_ret (e_var 3)))))))
theorem ok_law (T : Tx K mg) : FnOk P w K mg base (L2.CX P w) 16 (T.a 27) (T.fd 27) ["_law_script"] (spD T.C 1 f_law) := fn_D T.F27 sc_law rfl (fun cdv A outer s H E hr => (s_cons (s_set 1 sc_law.nd (e_call (ok_law_state T) (hr.mono (by decide)) T.m21 T.F21.kp T.b21 .nil (passAt (takes_of rfl rfl rfl rfl)) (c_cons (e_var 0) c_nil))) (s_cons (s_unp (e_tup (a_cons (e_call (ok_law_take T) (hr.mono (by decide)) T.m22 T.F22.kp T.b22 .nil (passAt (takes_of rfl rfl rfl rfl)) (c_lend 1 (c_cons e_int c_nil))) (a_cons (e_call (ok_law_take T) (hr.mono (by decide)) T.m22 T.F22.kp T.b22 .nil (passAt (takes_of rfl rfl rfl rfl)) (c_lend 1 (c_cons e_int c_nil))) (a_cons (e_call (ok_law_take T) (hr.mono (by decide)) T.m22 T.F22.kp T.b22 .nil (passAt (takes_of rfl rfl rfl rfl)) (c_lend 1 (c_cons e_int c_nil))) a_nil)))) (g_tup rfl (gs_cons (g_name 2 sc_law.nd) (gs_cons (g_name 3 sc_law.nd) (gs_cons (g_name 4 sc_law.nd) gs_nil))))) (s_cons (s_unp (e_tup (a_cons (e_call (ok_law_rows T) (hr.mono (by decide)) T.m23 T.F23.kp T.b23 .nil (passAt (takes_of rfl rfl rfl rfl)) (c_lend 1 (c_cons (e_var 2) (c_cons (e_var 3) (c_cons e_int c_nil))))) (a_cons (e_call (ok_law_rows T) (hr.mono (by decide)) T.m23 T.F23.kp T.b23 .nil (passAt (takes_of rfl rfl rfl rfl)) (c_lend 1 (c_cons (e_var 2) (c_cons (e_var 3) (c_cons e_int c_nil))))) a_nil))) (g_tup rfl (gs_cons (g_name 5 sc_law.nd) (gs_cons (g_name 6 sc_law.nd) gs_nil)))) (s_cons (s_set 7 sc_law.nd (e_call (ok_law_rows T) (hr.mono (by decide)) T.m23 T.F23.kp T.b23 .nil (passAt (takes_of rfl rfl rfl rfl)) (c_lend 1 (c_cons (e_var 3) (c_cons (e_var 4) (c_cons e_int c_nil)))))) (s_cons (s_par3 8 9 10 rfl sc_law.nd (a_cons (e_make T.mk2 (ok_Grid_init T) (hr.mono (by decide)) T.mc2 T.b4 .nil rfl (passAt (takes_of rfl rfl rfl rfl)) (a_cons (e_var 5) (a_cons (e_var 3) a_nil))) (a_cons (e_make T.mk2 (ok_Grid_init T) (hr.mono (by decide)) T.mc2 T.b4 .nil rfl (passAt (takes_of rfl rfl rfl rfl)) (a_cons (e_lc (own := [("_law_row", 16)]) rfl sc_law.nd (blkOk_by (by kernel_rfl)) (i_seq (e_var 6)) (fun _ _ _ _ _ => (g_name 16 sc_law.nd)) (fun _ _ _ _ _ => ts_nil) (fun _ _ _ _ _ => (e_callTy call_list_of (cs_list (by rfl)) (by rfl) T.z_list boot_list' (a_cons (e_var 16) a_nil)))) (a_cons (e_var 3) a_nil))) (a_cons (e_make T.mk2 (ok_Grid_init T) (hr.mono (by decide)) T.mc2 T.b4 .nil rfl (passAt (takes_of rfl rfl rfl rfl)) (a_cons (e_var 7) (a_cons (e_var 4) a_nil))) a_nil)))) (s_cons (s_set 11 sc_law.nd (e_sub (e_call (ok_law_take T) (hr.mono (by decide)) T.m22 T.F22.kp T.b22 .nil (passAt (takes_of rfl rfl rfl rfl)) (c_lend 1 (c_cons e_int c_nil))) e_int)) (s_cons (s_set 12 sc_law.nd (e_lst (a_cons (e_callTy call_tuple_of (cs_tuple (by rfl)) (by rfl) T.z_tuple boot_tuple' (a_cons (e_lc (own := [("_law_i", 19)]) rfl sc_law.nd (blkOk_by (by kernel_rfl)) (i_rng1 (by rfl) T.z_range (a_cons (e_var 2) a_nil) (len_cons len_nil)) (fun _ _ _ _ _ => (g_name 19 sc_law.nd)) (fun _ _ _ _ _ => ts_nil) (fun _ _ _ _ _ => (e_callTy call_tuple_of (cs_tuple (by rfl)) (by rfl) T.z_tuple boot_tuple' (a_cons (e_lc (own := [("_law_p", 20), ("_law_q", 21)]) rfl sc_law.nd (blkOk_by (by kernel_rfl)) (i_zip T.z_zip (a_cons (e_idxN 5 (e_var 19)) (a_cons (e_idxN 6 (e_var 19)) a_nil))) (fun _ _ _ _ _ => (g_tup rfl (gs_cons (g_name 20 sc_law.nd) (gs_cons (g_name 21 sc_law.nd) gs_nil)))) (fun _ _ _ _ _ => ts_nil) (fun _ _ _ _ _ => (e_add (e_var 20) (e_var 21)))) a_nil)))) a_nil)) a_nil))) (s_cons (s_app 12 (e_callTy call_tuple_of (cs_tuple (by rfl)) (by rfl) T.z_tuple boot_tuple' (a_cons (e_lc (own := [("_law_i", 19)]) rfl sc_law.nd (blkOk_by (by kernel_rfl)) (i_rng1 (by rfl) T.z_range (a_cons (e_var 2) a_nil) (len_cons len_nil)) (fun _ _ _ _ _ => (g_name 19 sc_law.nd)) (fun _ _ _ _ _ => ts_nil) (fun _ _ _ _ _ => (e_callTy call_tuple_of (cs_tuple (by rfl)) (by rfl) T.z_tuple boot_tuple' (a_cons (e_lc (own := [("_law_p", 20), ("_law_q", 21)]) rfl sc_law.nd (blkOk_by (by kernel_rfl)) (i_zip T.z_zip (a_cons (e_idxN 5 (e_var 19)) (a_cons (e_idxN 6 (e_var 19)) a_nil))) (fun _ _ _ _ _ => (g_tup rfl (gs_cons (g_name 20 sc_law.nd) (gs_cons (g_name 21 sc_law.nd) gs_nil)))) (fun _ _ _ _ _ => ts_nil) (fun _ _ _ _ _ => (e_sub (e_var 20) (e_var 21)))) a_nil)))) a_nil))) (s_cons (s_app 12 (e_callTy call_tuple_of (cs_tuple (by rfl)) (by rfl) T.z_tuple boot_tuple' (a_cons (e_lc (own := [("_law_row", 16)]) rfl sc_law.nd (blkOk_by (by kernel_rfl)) (i_seq (e_var 5)) (fun _ _ _ _ _ => (g_name 16 sc_law.nd)) (fun _ _ _ _ _ => ts_nil) (fun _ _ _ _ _ => (e_callTy call_tuple_of (cs_tuple (by rfl)) (by rfl) T.z_tuple boot_tuple' (a_cons (e_lc (own := [("_law_p", 20)]) rfl sc_law.nd (blkOk_by (by kernel_rfl)) (i_seq (e_var 16)) (fun _ _ _ _ _ => (g_name 20 sc_law.nd)) (fun _ _ _ _ _ => ts_nil) (fun _ _ _ _ _ => (e_neg (e_var 20)))) a_nil)))) a_nil))) (s_cons (s_app 12 (e_callTy call_tuple_of (cs_tuple (by rfl)) (by rfl) T.z_tuple boot_tuple' (a_cons (e_lc (own := [("_law_row", 16)]) rfl sc_law.nd (blkOk_by (by kernel_rfl)) (i_seq (e_var 5)) (fun _ _ _ _ _ => (g_name 16 sc_law.nd)) (fun _ _ _ _ _ => ts_nil) (fun _ _ _ _ _ => (e_callTy call_tuple_of (cs_tuple (by rfl)) (by rfl) T.z_tuple boot_tuple' (a_cons (e_lc (own := [("_law_p", 20)]) rfl sc_law.nd (blkOk_by (by kernel_rfl)) (i_seq (e_var 16)) (fun _ _ _ _ _ => (g_name 20 sc_law.nd)) (fun _ _ _ _ _ => ts_nil) (fun _ _ _ _ _ => (e_mul (e_var 11) (e_var 20)))) a_nil)))) a_nil))) (s_cons (s_app 12 (e_add (e_var 5) (e_var 6))) (s_cons (s_set 13 sc_law.nd (e_lst (a_cons (e_opO op_addV (os_add (by rfl)) (optbl_mk (tab_cons ⟨(own_mk T.h8 T.g8 (ok_Grid_add T) (hr.mono (by decide)) T.b8), T.sf2⟩ tab_nil)) (passAt (takes_of rfl rfl rfl rfl)) (e_var 8) (e_var 9)) (a_cons (e_opO op_sub os_sub (optbl_mk (tab_cons ⟨(own_mk T.h9 T.g9 (ok_Grid_sub T) (hr.mono (by decide)) T.b9), T.sf2⟩ tab_nil)) (passAt (takes_of rfl rfl rfl rfl)) (e_var 8) (e_var 9)) (a_cons (e_negO (owntbl_mk (tab_cons (own_mk T.h11 T.g11 (ok_Grid_neg T) (hr.mono (by decide)) T.b11) tab_nil)) (e_var 8)) (a_cons (e_meth (e_var 8) (tab_cons (mok_mk T.cl2 T.h12 T.g12 T.F12.kp (ok_Grid_scaled T) (hr.mono (by decide)) T.b12 .nil (show ("scaled" : Str) ∉ (["rows", "width"] : List Str) from by decide)) tab_nil) (passAt (takes_of rfl rfl rfl rfl)) (c_cons (e_var 11) c_nil)) (a_cons (e_meth (e_var 8) (tab_cons (mok_mk T.cl2 T.h16 T.g16 T.F16.kp (ok_Grid_stacked T) (hr.mono (by decide)) T.b16 .nil (show ("stacked" : Str) ∉ (["rows", "width"] : List Str) from by decide)) tab_nil) (passAt (takes_of rfl rfl rfl rfl)) (c_cons (e_var 9) c_nil)) a_nil))))))) (s_cons (s_for (passes_of rfl) rfl (i_rng1 (by rfl) T.z_range (a_cons e_int a_nil) (len_cons len_nil)) (g_name 14 sc_law.nd) (s_one (s_if ((w_or (t_cmp (op_neD hr.units) (os_ne (by rfl)) (e_fld (e_idxN 13 (e_var 14)) (fld_mk (tab_cons ⟨T.cl2, T.na2_rows, rfl, (show ("rows" : Str) ∉ (["rows", "width"] : List Str).take 0 from by decide)⟩ tab_nil))) (e_idxN 12 (e_var 14)) (nomark _)) (w_or1 (t_not (t_tru (e_call (ok_law_is_rows T) (hr.mono (by decide)) T.m25 T.F25.kp T.b25 .nil (passAt (takes_of rfl rfl rfl rfl)) (c_cons (e_idxN 13 (e_var 14)) (c_cons (e_callB call_len (cs_len (by rfl)) (by rfl) T.z_len boot_len' (a_cons (e_idxN 12 (e_var 14)) a_nil)) (c_cons (e_var 3) c_nil))))))))).pt (s_one (s_ret e_bl)) s_nil))) (s_cons (s_if ((w_or (t_cmp (op_neD hr.units) (os_ne (by rfl)) (e_fld (e_opO op_mulV (os_mul (by rfl)) (optbl_mk (tab_cons ⟨(own_mk T.h10 T.g10 (ok_Grid_mul T) (hr.mono (by decide)) T.b10), T.sf2⟩ tab_nil)) (passAt (takes_of rfl rfl rfl rfl)) (e_var 8) (e_var 10)) (fld_mk (tab_cons ⟨T.cl2, T.na2_rows, rfl, (show ("rows" : Str) ∉ (["rows", "width"] : List Str).take 0 from by decide)⟩ tab_nil))) (e_call (ok_law_product T) (hr.mono (by decide)) T.m24 T.F24.kp T.b24 .nil (passAt (takes_of rfl rfl rfl rfl)) (c_cons (e_var 5) (c_cons (e_var 7) (c_cons (e_var 4) c_nil)))) (nomark _)) (w_or1 (t_not (t_tru (e_call (ok_law_is_rows T) (hr.mono (by decide)) T.m25 T.F25.kp T.b25 .nil (passAt (takes_of rfl rfl rfl rfl)) (c_cons (e_opO op_mulV (os_mul (by rfl)) (optbl_mk (tab_cons ⟨(own_mk T.h10 T.g10 (ok_Grid_mul T) (hr.mono (by decide)) T.b10), T.sf2⟩ tab_nil)) (passAt (takes_of rfl rfl rfl rfl)) (e_var 8) (e_var 10)) (c_cons (e_var 2) (c_cons (e_var 4) c_nil))))))))).pt (s_one (s_ret e_bl)) s_nil) (s_cons (s_set 15 sc_law.nd (e_meth0 (e_var 8) (tab_cons (mok_mk T.cl2 T.h13 T.g13 T.F13.kp (ok_Grid_transposed T) (hr.mono (by decide)) T.b13 .nil (show ("transposed" : Str) ∉ (["rows", "width"] : List Str) from by decide)) tab_nil) (passAt (takes_of rfl rfl rfl rfl)))) (s_cons (s_if ((w_or (t_cmp (op_neD hr.units) (os_ne (by rfl)) (e_fld (e_var 15) (fld_mk (tab_cons ⟨T.cl2, T.na2_rows, rfl, (show ("rows" : Str) ∉ (["rows", "width"] : List Str).take 0 from by decide)⟩ tab_nil))) (e_callTy call_tuple_of (cs_tuple (by rfl)) (by rfl) T.z_tuple boot_tuple' (a_cons (e_lc (own := [("_law_j", 22)]) rfl sc_law.nd (blkOk_by (by kernel_rfl)) (i_rng1 (by rfl) T.z_range (a_cons (e_var 3) a_nil) (len_cons len_nil)) (fun _ _ _ _ _ => (g_name 22 sc_law.nd)) (fun _ _ _ _ _ => ts_nil) (fun _ _ _ _ _ => (e_callTy call_tuple_of (cs_tuple (by rfl)) (by rfl) T.z_tuple boot_tuple' (a_cons (e_lc (own := [("_law_row", 16)]) rfl sc_law.nd (blkOk_by (by kernel_rfl)) (i_seq (e_var 5)) (fun _ _ _ _ _ => (g_name 16 sc_law.nd)) (fun _ _ _ _ _ => ts_nil) (fun _ _ _ _ _ => (e_idxN 16 (e_var 22)))) a_nil)))) a_nil)) (nomark _)) (w_or1 (t_not (t_tru (e_call (ok_law_is_rows T) (hr.mono (by decide)) T.m25 T.F25.kp T.b25 .nil (passAt (takes_of rfl rfl rfl rfl)) (c_cons (e_var 15) (c_cons (e_var 3) (c_cons (e_var 2) c_nil))))))))).pt (s_one (s_ret e_bl)) s_nil) (s_cons (s_set 16 sc_law.nd (e_callTy call_tuple_of (cs_tuple (by rfl)) (by rfl) T.z_tuple boot_tuple' (a_cons (e_lc (own := [("_law_j", 22)]) rfl sc_law.nd (blkOk_by (by kernel_rfl)) (i_rng1 (by rfl) T.z_range (a_cons (e_var 3) a_nil) (len_cons len_nil)) (fun _ _ _ _ _ => (g_name 22 sc_law.nd)) (fun _ _ _ _ _ => ts_nil) (fun _ _ _ _ _ => (e_sub (e_call (ok_law_take T) (hr.mono (by decide)) T.m22 T.F22.kp T.b22 .nil (fun _ => passes0) (c_lend 1 (c_cons e_int c_nil))) e_int))) a_nil))) (s_cons (s_set 17 sc_law.nd (e_callTy call_tuple_of (cs_tuple (by rfl)) (by rfl) T.z_tuple boot_tuple' (a_cons (e_lc (own := [("_law_j", 22)]) rfl sc_law.nd (blkOk_by (by kernel_rfl)) (i_rng1 (by rfl) T.z_range (a_cons (e_var 2) a_nil) (len_cons len_nil)) (fun _ _ _ _ _ => (g_name 22 sc_law.nd)) (fun _ _ _ _ _ => ts_nil) (fun _ _ _ _ _ => (e_sub (e_call (ok_law_take T) (hr.mono (by decide)) T.m22 T.F22.kp T.b22 .nil (fun _ => passes0) (c_lend 1 (c_cons e_int c_nil))) e_int))) a_nil))) (s_cons (s_if (t_cmp (op_neD hr.units) (os_ne (by rfl)) (e_meth (e_var 8) (tab_cons (mok_mk T.cl2 T.h14 T.g14 T.F14.kp (ok_Grid_times T) (hr.mono (by decide)) T.b14 .nil (show ("times" : Str) ∉ (["rows", "width"] : List Str) from by decide)) tab_nil) (passAt (takes_of rfl rfl rfl rfl)) (c_cons (e_var 16) c_nil)) (e_callTy call_tuple_of (cs_tuple (by rfl)) (by rfl) T.z_tuple boot_tuple' (a_cons (e_lc (own := [("_law_given", 23)]) rfl sc_law.nd (blkOk_by (by kernel_rfl)) (i_seq (e_var 5)) (fun _ _ _ _ _ => (g_name 23 sc_law.nd)) (fun _ _ _ _ _ => ts_nil) (fun _ _ _ _ _ => (e_callB (cr_sum (by rfl)) cs_sum (by rfl) T.z_sum boot_sum' (a_cons (e_lc (own := [("_law_p", 20), ("_law_q", 21)]) rfl sc_law.nd (blkOk_by (by kernel_rfl)) (i_zip T.z_zip (a_cons (e_var 23) (a_cons (e_var 16) a_nil))) (fun _ _ _ _ _ => (g_tup rfl (gs_cons (g_name 20 sc_law.nd) (gs_cons (g_name 21 sc_law.nd) gs_nil)))) (fun _ _ _ _ _ => ts_nil) (fun _ _ _ _ _ => (e_mul (e_var 20) (e_var 21)))) a_nil)))) a_nil)) (nomark _)) (s_one (s_ret e_bl)) s_nil) (s_cons (s_if (t_cmp (op_neD hr.units) (os_ne (by rfl)) (e_meth (e_var 8) (tab_cons (mok_mk T.cl2 T.h15 T.g15 T.F15.kp (ok_Grid_before T) (hr.mono (by decide)) T.b15 .nil (show ("before" : Str) ∉ (["rows", "width"] : List Str) from by decide)) tab_nil) (passAt (takes_of rfl rfl rfl rfl)) (c_cons (e_var 17) c_nil)) (e_callTy call_tuple_of (cs_tuple (by rfl)) (by rfl) T.z_tuple boot_tuple' (a_cons (e_lc (own := [("_law_j", 22)]) rfl sc_law.nd (blkOk_by (by kernel_rfl)) (i_rng1 (by rfl) T.z_range (a_cons (e_var 3) a_nil) (len_cons len_nil)) (fun _ _ _ _ _ => (g_name 22 sc_law.nd)) (fun _ _ _ _ _ => ts_nil) (fun _ _ _ _ _ => (e_callB (cr_sum (by rfl)) cs_sum (by rfl) T.z_sum boot_sum' (a_cons (e_lc (own := [("_law_i", 19)]) rfl sc_law.nd (blkOk_by (by kernel_rfl)) (i_rng1 (by rfl) T.z_range (a_cons (e_var 2) a_nil) (len_cons len_nil)) (fun _ _ _ _ _ => (g_name 19 sc_law.nd)) (fun _ _ _ _ _ => ts_nil) (fun _ _ _ _ _ => (e_mul (e_idxN 17 (e_var 19)) (e_idx (e_idxN 5 (e_var 19)) (e_var 22))))) a_nil)))) a_nil)) (nomark _)) (s_one (s_ret e_bl)) s_nil) (s_cons (s_if ((w_or (t_neO (eqtbl_mk (tab_cons ⟨(own_mk T.h7 T.g7 (ok_Grid_eq T) (hr.mono (by decide)) T.b7), T.eq2⟩ tab_nil) (tab_cons T.kd2 tab_nil)) hr (e_opO op_mulV (os_mul (by rfl)) (optbl_mk (tab_cons ⟨(own_mk T.h10 T.g10 (ok_Grid_mul T) (hr.mono (by decide)) T.b10), T.sf2⟩ tab_nil)) (passAt (takes_of rfl rfl rfl rfl)) (e_call (ok_unit T) (hr.mono (by decide)) T.m18 T.F18.kp T.b18 .nil (passAt (takes_of rfl rfl rfl rfl)) (c_cons (e_var 2) c_nil)) (e_var 8)) (e_var 8)) (w_or (t_neO (eqtbl_mk (tab_cons ⟨(own_mk T.h7 T.g7 (ok_Grid_eq T) (hr.mono (by decide)) T.b7), T.eq2⟩ tab_nil) (tab_cons T.kd2 tab_nil)) hr (e_opO op_mulV (os_mul (by rfl)) (optbl_mk (tab_cons ⟨(own_mk T.h10 T.g10 (ok_Grid_mul T) (hr.mono (by decide)) T.b10), T.sf2⟩ tab_nil)) (passAt (takes_of rfl rfl rfl rfl)) (e_var 8) (e_call (ok_unit T) (hr.mono (by decide)) T.m18 T.F18.kp T.b18 .nil (passAt (takes_of rfl rfl rfl rfl)) (c_cons (e_var 3) c_nil))) (e_var 8)) (w_or1 (t_neO (eqtbl_mk (tab_cons ⟨(own_mk T.h7 T.g7 (ok_Grid_eq T) (hr.mono (by decide)) T.b7), T.eq2⟩ tab_nil) (tab_cons T.kd2 tab_nil)) hr (e_opO op_mulV (os_mul (by rfl)) (optbl_mk (tab_cons ⟨(own_mk T.h10 T.g10 (ok_Grid_mul T) (hr.mono (by decide)) T.b10), T.sf2⟩ tab_nil)) (passAt (takes_of rfl rfl rfl rfl)) (e_call (ok_diagonal T) (hr.mono (by decide)) T.m19 T.F19.kp T.b19 .nil (passAt (takes_of rfl rfl rfl rfl)) (c_cons (e_var 17) c_nil)) (e_var 8)) (e_make T.mk2 (ok_Grid_init T) (hr.mono (by decide)) T.mc2 T.b4 .nil rfl (passAt (takes_of rfl rfl rfl rfl)) (a_cons (e_lc (own := [("_law_i", 19)]) rfl sc_law.nd (blkOk_by (by kernel_rfl)) (i_rng1 (by rfl) T.z_range (a_cons (e_var 2) a_nil) (len_cons len_nil)) (fun _ _ _ _ _ => (g_name 19 sc_law.nd)) (fun _ _ _ _ _ => ts_nil) (fun _ _ _ _ _ => (e_lc (own := [("_law_p", 20)]) rfl sc_law.nd (blkOk_by (by kernel_rfl)) (i_seq (e_idxN 5 (e_var 19))) (fun _ _ _ _ _ => (g_name 20 sc_law.nd)) (fun _ _ _ _ _ => ts_nil) (fun _ _ _ _ _ => (e_mul (e_idxN 17 (e_var 19)) (e_var 20)))))) (a_cons (e_var 3) a_nil)))))))).pt (s_one (s_ret e_bl)) s_nil) (s_cons (s_set 18 sc_law.nd (e_call (ok_blocks T) (hr.mono (by decide)) T.m20 T.F20.kp T.b20 .nil (passAt (takes_of rfl rfl rfl rfl)) (c_cons (e_var 8) (c_cons (e_var 10) c_nil)))) (s_cons (s_if ((w_or (t_cmp (op_neD hr.units) (os_ne (by rfl)) (e_fld (e_var 18) (fld_mk (tab_cons ⟨T.cl2, T.na2_width, rfl, (show ("width" : Str) ∉ (["rows", "width"] : List Str).take 1 from by decide)⟩ tab_nil))) (e_add (e_var 3) (e_var 4)) (nomark _)) (w_or (t_cmp (op_neD hr.units) (os_ne (by rfl)) (e_callB (call_ownLen (owntbl_mk (tab_cons (own_mk T.h5 T.g5 (ok_Grid_len T) (hr.mono (by decide)) T.b5) tab_nil))) (cs_ownLen (by rfl)) (by rfl) T.z_len boot_len' (a_cons (e_var 18) a_nil)) (e_add (e_var 2) (e_var 3)) (nomark _)) (w_or1 (t_cmp (op_neD hr.units) (os_ne (by rfl)) (e_sl (e_fld (e_var 18) (fld_mk (tab_cons ⟨T.cl2, T.na2_rows, rfl, (show ("rows" : Str) ∉ (["rows", "width"] : List Str).take 0 from by decide)⟩ tab_nil))) o_none (o_some (e_var 2))) (e_callTy call_tuple_of (cs_tuple (by rfl)) (by rfl) T.z_tuple boot_tuple' (a_cons (e_lc (own := [("_law_p", 20)]) rfl sc_law.nd (blkOk_by (by kernel_rfl)) (i_seq (e_var 5)) (fun _ _ _ _ _ => (g_name 20 sc_law.nd)) (fun _ _ _ _ _ => ts_nil) (fun _ _ _ _ _ => (e_add (e_var 20) (e_callTy call_tuple_of (cs_tuple (by rfl)) (by rfl) T.z_tuple boot_tuple' (a_cons (e_lc (own := [("_law_j", 22)]) rfl sc_law.nd (blkOk_by (by kernel_rfl)) (i_rng1 (by rfl) T.z_range (a_cons (e_var 4) a_nil) (len_cons len_nil)) (fun _ _ _ _ _ => (g_name 22 sc_law.nd)) (fun _ _ _ _ _ => ts_nil) (fun _ _ _ _ _ => e_int)) a_nil))))) a_nil)) (nomark _)))))).pt (s_one (s_ret e_bl)) s_nil) (s_cons (s_if (t_cmp (op_neD hr.units) (os_ne (by rfl)) (e_sl (e_fld (e_var 18) (fld_mk (tab_cons ⟨T.cl2, T.na2_rows, rfl, (show ("rows" : Str) ∉ (["rows", "width"] : List Str).take 0 from by decide)⟩ tab_nil))) (o_some (e_var 2)) o_none) (e_callTy call_tuple_of (cs_tuple (by rfl)) (by rfl) T.z_tuple boot_tuple' (a_cons (e_lc (own := [("_law_p", 20)]) rfl sc_law.nd (blkOk_by (by kernel_rfl)) (i_seq (e_var 7)) (fun _ _ _ _ _ => (g_name 20 sc_law.nd)) (fun _ _ _ _ _ => ts_nil) (fun _ _ _ _ _ => (e_add (e_callTy call_tuple_of (cs_tuple (by rfl)) (by rfl) T.z_tuple boot_tuple' (a_cons (e_lc (own := [("_law_j", 22)]) rfl sc_law.nd (blkOk_by (by kernel_rfl)) (i_rng1 (by rfl) T.z_range (a_cons (e_var 3) a_nil) (len_cons len_nil)) (fun _ _ _ _ _ => (g_name 22 sc_law.nd)) (fun _ _ _ _ _ => ts_nil) (fun _ _ _ _ _ => e_int)) a_nil)) (e_var 20)))) a_nil)) (nomark _)) (s_one (s_ret e_bl)) s_nil) (s_cons (s_if ((w_or (t_cmp (op_neD hr.units) (os_ne (by rfl)) (e_eqO (eqtbl_mk (tab_cons ⟨(own_mk T.h7 T.g7 (ok_Grid_eq T) (hr.mono (by decide)) T.b7), T.eq2⟩ tab_nil) (tab_cons T.kd2 tab_nil)) hr (e_var 8) (e_var 9)) (e_eq hr (e_var 5) (e_var 6)) (nomark _)) (w_or (t_eqO (eqtbl_mk (tab_cons ⟨(own_mk T.h7 T.g7 (ok_Grid_eq T) (hr.mono (by decide)) T.b7), T.eq2⟩ tab_nil) (tab_cons T.kd2 tab_nil)) hr (e_var 8) (e_var 5)) (w_or (t_cmp (op_neD hr.units) (os_ne (by rfl)) (e_lc (own := [("_law_p", 20)]) rfl sc_law.nd (blkOk_by (by kernel_rfl)) (i_seqO (tab_cons (iterOk_Grid_iter T hr) tab_nil) (e_var 8)) (fun _ _ _ _ _ => (g_name 20 sc_law.nd)) (fun _ _ _ _ _ => ts_nil) (fun _ _ _ _ _ => (e_var 20))) (e_callTy call_list_of (cs_list (by rfl)) (by rfl) T.z_list boot_list' (a_cons (e_var 5) a_nil)) (nomark _)) (w_or (t_cmp (op_neD hr.units) (os_ne (by rfl)) (e_callB (call_ownLen (owntbl_mk (tab_cons (own_mk T.h5 T.g5 (ok_Grid_len T) (hr.mono (by decide)) T.b5) tab_nil))) (cs_ownLen (by rfl)) (by rfl) T.z_len boot_len' (a_cons (e_var 8) a_nil)) (e_var 2) (nomark _)) (w_or1 (t_cmp (op_neD hr.units) (os_ne (by rfl)) (e_meth0 (e_var 8) (tab_cons (mok_mk T.cl2 T.h17 T.g17 T.F17.kp (ok_Grid_is_square T) (hr.mono (by decide)) T.b17 .nil (show ("is_square" : Str) ∉ (["rows", "width"] : List Str) from by decide)) tab_nil) (passAt (takes_of rfl rfl rfl rfl))) (e_eq hr (e_var 2) (e_var 3)) (nomark _)))))))).pt (s_one (s_ret e_bl)) s_nil) (s_cons (s_if ((w_and (t_cmp op_gtV os_gt (e_var 2) e_int (nomark _)) (w_and1 (t_neO (eqtbl_mk (tab_cons ⟨(own_mk T.h7 T.g7 (ok_Grid_eq T) (hr.mono (by decide)) T.b7), T.eq2⟩ tab_nil) (tab_cons T.kd2 tab_nil)) hr (e_make T.mk2 (ok_Grid_init T) (hr.mono (by decide)) T.mc2 T.bd4.2 (defs_non T.bd4.1) rfl (passAt (takes_of rfl rfl rfl rfl)) (a_cons (e_var 5) a_nil)) (e_var 8))))).pt (s_one (s_ret e_bl)) s_nil) (s_one (s_ret (e_eq hr (e_call (ok_law_malformed T) (hr.mono (by decide)) T.m26 T.F26.kp T.b26 .nil (passAt (takes_of rfl rfl rfl rfl)) (c_cons (e_make T.mk2 (ok_Grid_init T) (hr.mono (by decide)) T.mc2 T.bd4.2 (defs_non T.bd4.1) rfl (passAt (takes_of rfl rfl rfl rfl)) (a_cons (e_tup (a_cons (e_tup (a_cons e_int (a_cons e_int a_nil))) (a_cons (e_tup (a_cons e_int (a_cons e_int a_nil))) a_nil))) a_nil)) (c_cons (e_call (ok_law_take T) (hr.mono (by decide)) T.m22 T.F22.kp T.b22 .nil (passAt (takes_of rfl rfl rfl rfl)) (c_lend 1 (c_cons e_int c_nil))) c_nil))) e_int))))))))))))))))))))))))))))))
end
end L2.VD.K01

namespace L2.VD
open PySem PySem.Spec PyProof.Rows
section
variable {e e1 e2 e3 : List Slot} {da db dc : DE} {dA : DA} {t u : T} {a b o : Out} {i : Nat} {f : T → T → Option Out} {g : T → Option Out} {c1 c2 : DT} {d1 d2 : DS} {ts us : List T} {fl : Fl} {x : Exn} {k : Bool}
theorem r_c : dC t e = .ok (.sh t) e := rfl
theorem r_var (h : e[i]? = some (.sh t)) : dVar i e = .ok (.sh t) e := by
  unfold dVar
  rw [h]
theorem r_varO (h : e[i]? = some (.ol false ts)) : dVar i e = .ok (.sh (.lst ts)) (e.set i (.sh (.lst ts))) := by
  unfold dVar
  rw [h]
theorem r_op (ha : da e = .ok a e1) (hb : db e1 = .ok b e2) (hf : f a.t b.t = some o) : dOp f da db e = .ok o e2 := by
  have h : dOp f da db e = (da e).bind fun a e1 => (db e1).bind fun b e2 => Res.of (f a.t b.t) e2 := rfl
  rw [h, ha]
  show (db e1).bind _ = _
  rw [hb]
  show Res.of (f a.t b.t) e2 = _
  rw [hf]
  rfl
theorem r_un (ha : da e = .ok a e1) (hf : g a.t = some o) : dUn g da e = .ok o e1 := by
  have h : dUn g da e = (da e).bind fun a e1 => Res.of (g a.t) e1 := rfl
  rw [h, ha]
  show Res.of (g a.t) e1 = _
  rw [hf]
  rfl
theorem r_tru (ha : da e = .ok a e1) (hf : truthT a.t = some k) : dTru da e = .ok k e1 := by
  have h : dTru da e = (da e).bind fun a e1 => Res.of (truthT a.t) e1 := rfl
  rw [h, ha]
  show Res.of (truthT a.t) e1 = _
  rw [hf]
  rfl
theorem r_tst (ha : da e = .ok (.sh (.bl k)) e1) : dTst da e = .ok k e1 := by
  have h : dTst da e = (da e).bind fun a e1 => Res.of (asBl a.t) e1 := rfl
  rw [h, ha]
  rfl
theorem r_truB (ha : da e = .ok (.sh (.bl k)) e1) : dTru da e = .ok k e1 := r_tru ha rfl
theorem r_not (h : c1 e = .ok k e1) : dNot c1 e = .ok (!k) e1 := by
  have h0 : dNot c1 e = (c1 e).bind fun b e1 => .ok (!b) e1 := rfl
  rw [h0, h]
  rfl
theorem r_andT (h1 : c1 e = .ok true e1) : dAnd c1 c2 e = c2 e1 := by
  have h0 : dAnd c1 c2 e = (c1 e).bind fun b e1 => if b then c2 e1 else .ok false e1 := rfl
  rw [h0, h1]
  rfl
theorem r_andF (h1 : c1 e = .ok false e1) : dAnd c1 c2 e = .ok false e1 := by
  have h0 : dAnd c1 c2 e = (c1 e).bind fun b e1 => if b then c2 e1 else .ok false e1 := rfl
  rw [h0, h1]
  rfl
theorem r_orF (h1 : c1 e = .ok false e1) : dOr c1 c2 e = c2 e1 := by
  have h0 : dOr c1 c2 e = (c1 e).bind fun b e1 => if b then .ok true e1 else c2 e1 := rfl
  rw [h0, h1]
  rfl
theorem r_orT (h1 : c1 e = .ok true e1) : dOr c1 c2 e = .ok true e1 := by
  have h0 : dOr c1 c2 e = (c1 e).bind fun b e1 => if b then .ok true e1 else c2 e1 := rfl
  rw [h0, h1]
  rfl
theorem r_ifE (h : c1 e = .ok k e1) : dIf c1 da db e = if k then da e1 else db e1 := by
  have h0 : dIf c1 da db e = (c1 e).bind fun b e1 => if b then da e1 else db e1 := rfl
  rw [h0, h]
  rfl
theorem r_andV (ha : da e = .ok a e1) (ht : truthT a.t = some true) : dAndV da db e = db e1 := by
  have h0 : dAndV da db e = (da e).bind fun a e1 => (Res.of (truthT a.t) e1).bind fun b e2 => if b then db e2 else .ok (.sh a.t) e2 := rfl
  rw [h0, ha]
  show (Res.of (truthT a.t) e1).bind _ = _
  rw [ht]
  rfl
theorem r_andVF (ha : da e = .ok a e1) (ht : truthT a.t = some false) : dAndV da db e = .ok (.sh a.t) e1 := by
  have h0 : dAndV da db e = (da e).bind fun a e1 => (Res.of (truthT a.t) e1).bind fun b e2 => if b then db e2 else .ok (.sh a.t) e2 := rfl
  rw [h0, ha]
  show (Res.of (truthT a.t) e1).bind _ = _
  rw [ht]
  rfl
theorem r_orV (ha : da e = .ok a e1) (ht : truthT a.t = some false) : dOrV da db e = db e1 := by
  have h0 : dOrV da db e = (da e).bind fun a e1 => (Res.of (truthT a.t) e1).bind fun b e2 => if b then .ok (.sh a.t) e2 else db e2 := rfl
  rw [h0, ha]
  show (Res.of (truthT a.t) e1).bind _ = _
  rw [ht]
  rfl
theorem r_orVT (ha : da e = .ok a e1) (ht : truthT a.t = some true) : dOrV da db e = .ok (.sh a.t) e1 := by
  have h0 : dOrV da db e = (da e).bind fun a e1 => (Res.of (truthT a.t) e1).bind fun b e2 => if b then .ok (.sh a.t) e2 else db e2 := rfl
  rw [h0, ha]
  show (Res.of (truthT a.t) e1).bind _ = _
  rw [ht]
  rfl
theorem r_notV (ha : da e = .ok a e1) (ht : truthT a.t = some k) : dNotV da e = .ok (.sh (.bl (!k))) e1 := by
  have h0 : dNotV da e = (da e).bind fun a e1 => (Res.of (truthT a.t) e1).bind fun b e2 => .ok (.sh (.bl (!b))) e2 := rfl
  rw [h0, ha]
  show (Res.of (truthT a.t) e1).bind _ = _
  rw [ht]
  rfl
theorem r_nil : dNil e = .ok [] e := rfl
theorem r_cons (ha : da e = .ok a e1) (hr : dA e1 = .ok ts e2) : dCons da dA e = .ok (a.t :: ts) e2 := by
  have h0 : dCons da dA e = (da e).bind fun a e1 => (dA e1).bind fun ts e2 => .ok (a.t :: ts) e2 := rfl
  rw [h0, ha]
  show (dA e1).bind _ = _
  rw [hr]
  rfl
theorem r_one (ha : da e = .ok a e1) : dCons da dNil e = .ok [a.t] e1 := r_cons ha r_nil
theorem r_two (ha : da e = .ok a e1) (hb : db e1 = .ok b e2) : dCons da (dCons db dNil) e = .ok [a.t, b.t] e2 := r_cons ha (r_one hb)
theorem r_tup (h : dA e = .ok ts e1) (hf : fits ts.length = true) : dTup dA e = .ok (.sh (.tup ts)) e1 := by
  have h0 : dTup dA e = (dA e).bind fun ts e1 => if fits ts.length then .ok (.sh (.tup ts)) e1 else .bad := rfl
  rw [h0, h]
  show (if fits ts.length then _ else _) = _
  rw [if_pos hf]
theorem r_lst (h : dA e = .ok ts e1) (hf : fits ts.length = true) : dLst dA e = .ok (.fr ts) e1 := by
  have h0 : dLst dA e = (dA e).bind fun ts e1 => if fits ts.length then .ok (.fr ts) e1 else .bad := rfl
  rw [h0, h]
  show (if fits ts.length then _ else _) = _
  rw [if_pos hf]
theorem r_idxN (h : e[i]? = some (.sh t)) (hb : db e = .ok b e1) (hf : fIdx t b.t = some o) : dIdxN i db e = .ok o e1 := by
  unfold dIdxN
  rw [h]
  show (db e).bind _ = _
  rw [hb]
  show Res.of (fIdx t b.t) e1 = _
  rw [hf]
  rfl
theorem r_idxO {p q : Bool} (h : e[i]? = some (.ol p us)) (hb : db e = .ok b e1) (h1 : e1[i]? = some (.ol q ts)) (hf : fIdx (.lst ts) b.t = some o) : dIdxN i db e = .ok o e1 := by
  unfold dIdxN
  rw [h]
  show (db e).bind _ = _
  rw [hb]
  show (match e1[i]? with | some (.ol _ ts) => Res.of (fIdx (.lst ts) b.t) e1 | _ => .bad) = _
  rw [h1]
  show Res.of (fIdx (.lst ts) b.t) e1 = _
  rw [hf]
  rfl
theorem r_fld {fi : Nat → Option Nat} {c j : Nat} (ha : da e = .ok (.sh (.obj c ts)) e1) (hi : fi c = some j) (hj : ts[j]? = some t) : dFld fi da e = .ok (.sh t) e1 := by
  unfold dFld
  rw [ha]
  show Res.of (((fi c).bind fun k => ts[k]?).map Out.sh) e1 = _
  rw [hi]
  show Res.of ((ts[j]?).map Out.sh) e1 = _
  rw [hj]
  rfl
theorem r_cb {F : List T → Option Out} (h : dA e = .ok ts e1) (hf : F ts = some o) : dCB F dA e = .ok o e1 := by
  have h0 : dCB F dA e = (dA e).bind fun ts e1 => Res.of (F ts) e1 := rfl
  rw [h0, h]
  show Res.of (F ts) e1 = _
  rw [hf]
  rfl
theorem r_isi {tbl : Nat → Option Bool} (ha : da e = .ok a e1) (hf : tbl a.t.kind = some k) : dIsi tbl da e = .ok (.sh (.bl k)) e1 := by
  unfold dIsi
  rw [ha]
  show (match tbl a.t.kind with | some b => Res.ok (Out.sh (.bl b)) e1 | none => .bad) = _
  rw [hf]
theorem r_items (ha : da e = .ok a e1) (hf : itemsT a.t = some ts) : dItems da e = .ok ts e1 := by
  have h0 : dItems da e = (da e).bind fun o e1 => Res.of (itemsT o.t) e1 := rfl
  rw [h0, ha]
  show Res.of (itemsT a.t) e1 = _
  rw [hf]
  rfl
theorem r_rng (h : dA e = .ok ts e1) (hr : asRng ts = some us) : dRng dA e = .ok us e1 := by
  have h0 : dRng dA e = (dA e).bind fun ts e1 => Res.of (asRng ts) e1 := rfl
  rw [h0, h]
  show Res.of (asRng ts) e1 = _
  rw [hr]
  rfl
theorem r_zip (h : dA e = .ok ts e1) (hr : asZip ts = some us) : dZip dA e = .ok us e1 := by
  have h0 : dZip dA e = (dA e).bind fun ts e1 => Res.of (asZip ts) e1 := rfl
  rw [h0, h]
  show Res.of (asZip ts) e1 = _
  rw [hr]
  rfl
variable {F : DF} {avs : List AV} {dC' : DC} {ds : List T} {np : Nat}
theorem r_cnil : cNil e = .ok [] e := rfl
theorem r_cval (ha : da e = .ok a e1) (hr : dC' e1 = .ok avs e2) : cVal da dC' e = .ok (.v a.t :: avs) e2 := by
  have h0 : cVal da dC' e = (da e).bind fun o e1 => (dC' e1).bind fun avs e2 => .ok (.v o.t :: avs) e2 := rfl
  rw [h0, ha]
  show (dC' e1).bind _ = _
  rw [hr]
  rfl
theorem r_clend {p : Bool} (h : e[i]? = some (.ol p ts)) (hr : dC' e = .ok avs e2) : cLend i dC' e = .ok (.l i :: avs) e2 := by
  unfold cLend
  rw [h]
  show (dC' e).bind _ = _
  rw [hr]
  rfl
theorem r_call (h : dC' e = .ok avs e1) (hn : (avs ++ ds.map AV.v).length = np) : dCall np F ds dC' e = runF F (avs ++ ds.map AV.v) e1 := by
  have h0 : dCall np F ds dC' e = (dC' e).bind fun avs e1 => if Nat.beq (avs ++ ds.map AV.v).length np then runF F (avs ++ ds.map AV.v) e1 else .bad := rfl
  rw [h0, h]
  show (if Nat.beq (avs ++ ds.map AV.v).length np then _ else _) = _
  rw [if_pos (by rw [hn]; exact Nat.beq_refl np)]
theorem r_call1 (h : dC' e = .ok avs e1) (hn : avs.length = np) : dCall np F [] dC' e = runF F avs e1 := by
  have := r_call (F := F) (ds := []) (np := np) h (by simpa using hn)
  rw [List.map_nil, List.append_nil] at this
  exact this
theorem r_make {c nf : Nat} (h : dA e = .ok ts e1) (hn : (ts ++ ds).length + 1 = np) : dMake c nf np F ds dA e = mkEnd c nf e1 (F (.oi c [] :: (ts ++ ds).map .sh)) := by
  have h0 : dMake c nf np F ds dA e = (dA e).bind fun ts e1 => if Nat.beq ((ts ++ ds).length + 1) np then mkEnd c nf e1 (F (.oi c [] :: (ts ++ ds).map .sh)) else .bad := rfl
  rw [h0, h]
  show (if Nat.beq ((ts ++ ds).length + 1) np then _ else _) = _
  rw [if_pos (by rw [hn]; exact Nat.beq_refl np)]
theorem r_meth {tbl : Nat → Option ME} {c : Nat} {me : ME} (ha : da e = .ok (.sh (.obj c ts)) e1) (ht : tbl c = some me) (hc : dC' e1 = .ok avs e2) (hn : (AV.v (.obj c ts) :: (avs ++ me.ds.map AV.v)).length = me.np) : dMeth tbl da dC' e = runF me.F (.v (.obj c ts) :: (avs ++ me.ds.map AV.v)) e2 := by
  unfold dMeth
  rw [ha]
  show (match tbl c with | some me => (dC' e1).bind fun avs e2 => runN me.np me.F (AV.v (.obj c ts) :: (avs ++ me.ds.map AV.v)) e2 | none => .bad) = _
  rw [ht]
  show (dC' e1).bind _ = _
  rw [hc]
  show runN me.np me.F (AV.v (.obj c ts) :: (avs ++ me.ds.map AV.v)) e2 = _
  unfold runN
  rw [if_pos (by rw [hn]; exact Nat.beq_refl _)]
theorem r_nx : dNx e = .ok .nx e := rfl
theorem r_seq (h : d1 e = .ok .nx e1) : dSeq d1 d2 e = d2 e1 := by
  have h0 : dSeq d1 d2 e = (d1 e).bind fun f e1 => match f with
    | .nx => d2 e1
    | .bk => .ok .bk e1
    | .ct => .ok .ct e1
    | .rt o => .ok (.rt o) e1 := by
    unfold dSeq
    congr 1
  rw [h0, h]
  rfl
theorem r_seqR (h : d1 e = .ok (.rt o) e1) : dSeq d1 d2 e = .ok (.rt o) e1 := by
  unfold dSeq
  rw [h]
  rfl
theorem r_seqX (h : d1 e = .ex x e1) : dSeq d1 d2 e = .ex x e1 := by
  unfold dSeq
  rw [h]
  rfl
theorem r_ret (h : da e = .ok o e1) : dRet da e = .ok (.rt o) e1 := by
  have h0 : dRet da e = (da e).bind fun o e1 => .ok (.rt o) e1 := rfl
  rw [h0, h]
  rfl
theorem r_drop (h : da e = .ok o e1) : dDrop da e = .ok .nx e1 := by
  have h0 : dDrop da e = (da e).bind fun _ e1 => .ok .nx e1 := rfl
  rw [h0, h]
  rfl
theorem r_if (h : c1 e = .ok k e1) : dIfS c1 d1 d2 e = if k then d1 e1 else d2 e1 := by
  have h0 : dIfS c1 d1 d2 e = (c1 e).bind fun b e1 => if b then d1 e1 else d2 e1 := rfl
  rw [h0, h]
  rfl
theorem r_ifF (h : c1 e = .ok false e1) : dIfS c1 d1 d2 e = d2 e1 := r_if h
theorem r_ifT (h : c1 e = .ok true e1) : dIfS c1 d1 d2 e = d1 e1 := r_if h
theorem r_store {s0 : Slot} {sl : Slot} (h : e[i]? = some s0) (hp : s0.pk = none) : setSlot i sl e = .ok .nx (e.set i sl) := by
  unfold setSlot
  rw [h]
  show (match s0.pk with | none => Res.ok Fl.nx (e.set i sl) | some _ => .bad) = _
  rw [hp]
theorem r_set {s0 : Slot} (ha : da e = .ok o e1) (h : e1[i]? = some s0) (hp : s0.pk = none) : dSet i da e = .ok .nx (e1.set i o.slot) := by
  have h0 : dSet i da e = (da e).bind fun o e1 => setSlot i o.slot e1 := rfl
  rw [h0, ha]
  exact r_store h hp
theorem r_gN {s0 : Slot} (h : e[i]? = some s0) (hp : s0.pk = none) : gN i t e = .ok .nx (e.set i (.sh t)) := r_store h hp
theorem r_app {p q : Bool} (h : e[i]? = some (.ol p us)) (ha : da e = .ok o e1) (h1 : e1[i]? = some (.ol q ts)) (hf : fits (ts.length + 1) = true) : dApp i da e = .ok .nx (e1.set i (.ol q (ts ++ [o.t]))) := by
  unfold dApp onOl
  rw [h]
  show (da e).bind _ = _
  rw [ha]
  show (match e1[i]? with | some (.ol p ts) => (if fits (ts.length + 1) then Res.ok Fl.nx (e1.set i (.ol p (ts ++ [o.t]))) else .bad) | _ => .bad) = _
  rw [h1]
  show (if fits (ts.length + 1) then _ else _) = _
  rw [if_pos hf]
theorem r_for {di : DI} {G : DG} (h : di e = .ok ts e1) : dFor di G d1 e = forL G d1 ts e1 := by
  have h0 : dFor di G d1 e = (di e).bind fun ts e1 => forL G d1 ts e1 := rfl
  rw [h0, h]
  rfl
theorem r_fn {nl : Nat} {ss : List Slot} (h : d1 (ss ++ List.replicate nl .un) = .ok (.rt o) e1) : fnD nl d1 ss = .ok o e1 := by
  unfold fnD
  rw [h]
  rfl
theorem r_fnX {nl : Nat} {ss : List Slot} (h : d1 (ss ++ List.replicate nl .un) = .ex x e1) : fnD nl d1 ss = .ex x e1 := by
  unfold fnD
  rw [h]
  rfl
theorem r_fnN {nl : Nat} {ss : List Slot} (h : d1 (ss ++ List.replicate nl .un) = .ok .nx e1) : fnD nl d1 ss = .ok (.sh .non) e1 := by
  unfold fnD
  rw [h]
  rfl
end
end L2.VD

namespace L2.VD
open PySem PySem.Spec PyProof.Rows

theorem rb_ok {α β : Type} (a : α) (e : List Slot) (f : α → List Slot → Res β) : (Res.ok a e).bind f = f a e := rfl
theorem rb_ex {α β : Type} (x : Exn) (e : List Slot) (f : α → List Slot → Res β) : (Res.ex x e).bind f = .ex x e := rfl
theorem rb_of {α : Type} (a : α) (e : List Slot) : Res.of (some a) e = .ok a e := rfl
theorem runF_eq {F : DF} {avs : List AV} {e ss e' : List Slot} {o : Out} (h1 : slotsOf e avs = some ss) (h2 : nodupB (lentOf avs) = true) (h3 : F ss = .ok o e') : runF F avs e = .ok o (putBack e' 0 avs e) := by
  unfold runF
  rw [h1]
  simp only [h2, if_true, h3]
  rfl
theorem fmod_in (x : Int) {m : Int} (hm : 0 < m) : 0 ≤ x.fmod m ∧ x.fmod m < m := ⟨Int.fmod_nonneg_of_pos x hm, Int.fmod_lt_of_pos x hm⟩
theorem divFits_small {m : Int} (h0 : 0 < m) (h1 : m < 1000) : divFits m = true := by
  unfold divFits
  rw [Bool.and_eq_true]
  refine ⟨by simp; omega, ?_⟩
  have : m.natAbs.log2 ≤ 1000 := Nat.le_trans (Nat.log2_le_self _) (by omega)
  exact Nat.ble_eq_true_of_le (by omega)

/-- the items are worked out one by one; R tells of the wiped slots -/
theorem lcL_run {g : DG} {de : DE} {vs : List Nat} (R : List Slot → Prop) (P : T → T → Prop) : ∀ (ts : List T) (acc : List T) (e : List Slot), R e → fits (acc.length + ts.length) = true →
    (∀ t ∈ ts, ∀ e, R e → ∃ e1 o e2, g t e = .ok .nx e1 ∧ de e1 = .ok o e2 ∧ R (wipeE e2 vs) ∧ P t o.t) → ∃ us e', lcL g dYes de vs ts acc e = some (acc ++ us, e') ∧ R e' ∧ us.length = ts.length ∧ ∀ (i : Nat) t u, ts[i]? = some t → us[i]? = some u → P t u
  | [], acc, e, hR, _, _ => ⟨[], e, by unfold lcL; rw [List.append_nil], hR, rfl, fun i t u h => by simp at h⟩
  | t :: ts, acc, e, hR, hf, h => by
    obtain ⟨e1, o, e2, h1, h2, h3, h4⟩ := h t (List.mem_cons_self ..) e hR
    have hf1 : fits (acc.length + 1) = true := by
      unfold fits at hf ⊢
      rw [List.length_cons] at hf
      have := Nat.le_of_ble_eq_true hf
      exact Nat.ble_eq_true_of_le (by omega)
    obtain ⟨us, e', k1, k2, k3, k4⟩ := lcL_run R P ts (acc ++ [o.t]) (wipeE e2 vs) h3 (by rw [List.length_append, List.length_singleton]; rw [List.length_cons] at hf; rw [show acc.length + 1 + ts.length = acc.length + (ts.length + 1) by omega]; exact hf) fun t' ht' => h t' (List.mem_cons_of_mem _ ht')
    refine ⟨o.t :: us, e', ?_, k2, by rw [List.length_cons, List.length_cons, k3], fun i t' u hi hu => ?_⟩
    · unfold lcL
      rw [h1]
      simp only [dYes, h2, hf1, if_true]
      rw [k1, List.append_assoc]
      rfl
    · cases i with
      | zero => simp at hi hu; subst hi hu; exact h4
      | succ i => simp at hi hu; exact k4 i t' u hi hu
/-- .. by a function of the item, the slots as they were -/
theorem lcL_map {g : DG} {de : DE} {vs : List Nat} (f : T → T) (e0 : List Slot) : ∀ (ts : List T) (acc : List T), fits (acc.length + ts.length) = true →
    (∀ t ∈ ts, ∃ e1 o e2, g t e0 = .ok .nx e1 ∧ de e1 = .ok o e2 ∧ wipeE e2 vs = e0 ∧ o.t = f t) → lcL g dYes de vs ts acc e0 = some (acc ++ ts.map f, e0)
  | [], acc, _, _ => by unfold lcL; rw [List.map_nil, List.append_nil]
  | t :: ts, acc, hf, h => by
    obtain ⟨e1, o, e2, h1, h2, h3, h4⟩ := h t (List.mem_cons_self ..)
    have hf1 : fits (acc.length + 1) = true := by
      unfold fits at hf ⊢
      rw [List.length_cons] at hf
      have := Nat.le_of_ble_eq_true hf
      exact Nat.ble_eq_true_of_le (by omega)
    unfold lcL
    rw [h1]
    simp only [dYes, h2, hf1, if_true, h3, h4]
    rw [lcL_map f e0 ts (acc ++ [f t]) (by rw [List.length_append, List.length_singleton]; rw [List.length_cons] at hf; rw [show acc.length + 1 + ts.length = acc.length + (ts.length + 1) by omega]; exact hf) fun t' ht' => h t' (List.mem_cons_of_mem _ ht'), List.append_assoc]
    rfl
theorem forL_run {α : Type} {g : DG} {b : DS} (R : α → List Slot → Prop) (step : α → T → α) : ∀ (ts : List T) (a : α) (e : List Slot), R a e →
    (∀ t ∈ ts, ∀ a e, R a e → ∃ e1 f e2, g t e = .ok .nx e1 ∧ b e1 = .ok f e2 ∧ (f = .nx ∨ f = .ct) ∧ R (step a t) e2) → ∃ e', forL g b ts e = .ok .nx e' ∧ R (ts.foldl step a) e'
  | [], a, e, hR, _ => ⟨e, rfl, hR⟩
  | t :: ts, a, e, hR, h => by
    obtain ⟨e1, f, e2, h1, h2, h3, h4⟩ := h t (List.mem_cons_self ..) a e hR
    obtain ⟨e', k1, k2⟩ := forL_run R step ts (step a t) e2 h4 fun t' ht' => h t' (List.mem_cons_of_mem _ ht')
    refine ⟨e', ?_, k2⟩
    unfold forL
    simp only [h1, onNx, dLoop, h2, rb_ok]
    rcases h3 with rfl | rfl
    · exact k1
    · exact k1
end L2.VD

namespace L2.VD.K01
open PySem PySem.Spec PyProof.Rows

def ti (r : List Int) : List T := r.map T.int
def row (k : Bool) (r : List Int) : T := if k then .tup (ti r) else .lst (ti r)
def box (k : Bool) (ts : List T) : T := if k then .tup ts else .lst ts
def tm (M : List (List Int)) : T := .tup (M.map (row true))
def gr (M : List (List Int)) (w : Int) : T := .obj 2 [tm M, .int w]

theorem run_is_integer (i : Int) (e : List Slot) : runF f_is_integer [.v (.int i)] e = .ok (.sh (.bl true)) e := by
  refine runF_eq (ss := [.sh (.int i)]) rfl rfl (e' := [.sh (.int i)]) ?_
  simp [f_is_integer, fnD, b_is_integer, dRet, dAndV, dIsi, dVar, rb_ok, rb_of, Out.t, T.kind, tab, truthT, dNotV, Fl.out]
theorem take_ok (a b m : Int) (hm : 0 < m) (hm2 : m < 1000) : ∃ v a' b' r, f_law_take [.ol true [.int a, .int b], .sh (.int m)] = .ok (.sh (.int v)) (.ol true [.int a', .int b'] :: r) ∧ 0 ≤ v ∧ v < m := by
  have hd := divFits_small hm hm2
  have hm0 : m ≠ 0 := by omega
  by_cases h : a > 0
  · refine ⟨a.fmod m, a.fdiv m, b, [.sh (.int m), .sh (.int (a.fmod m))], ?_, fmod_in _ hm⟩
    simp [f_law_take, fnD, b_law_take, dSeq, dIfS, dTst, dOp, fGt, ltT, dIdxN, dC, rb_ok, rb_of, fIdx, atI, asBl, h, dSet, fMod, dCB, dCons, dNil, fInt, dVar, dSetI, onOl, setAt, putOl, fDiv, dRet, setSlot, hm0, Slot.pk, Out.slot, hd, ixN, Out.t, Fl.out]
  · refine ⟨(((b * 48271 + 11).fmod 2147483647).fdiv 7).fmod m, a, (b * 48271 + 11).fmod 2147483647, [.sh (.int m), .un], ?_, fmod_in _ hm⟩
    have hx : mulFits b 48271 = true := by simp [mulFits]
    have h7 : divFits 7 = true := by decide +kernel
    simp [f_law_take, fnD, b_law_take, dSeq, dIfS, dTst, dOp, fGt, ltT, dIdxN, dC, rb_ok, rb_of, fIdx, atI, asBl, h, dSet, fMod, dCB, dCons, dNil, fInt, dVar, dSetI, onOl, setAt, putOl, fDiv, dRet, setSlot, hm0, Slot.pk, Out.slot, hd, ixN, Out.t, Fl.out, fMul, hx, fAdd, dNx, h7]

theorem row_tup (k : Bool) (r : List Int) : fTuple [row k r] = some (.sh (row true r)) := by cases k <;> rfl
theorem row_items (k : Bool) (r : List Int) : itemsT (row k r) = some (ti r) := by cases k <;> rfl
theorem box_items (k : Bool) (ts : List T) : itemsT (box k ts) = some ts := by cases k <;> rfl
theorem kind_seq {k : Bool} {r : List Int} : (row k r).kind = 4 ∨ (row k r).kind = 5 := by cases k; exact .inr rfl; exact .inl rfl
theorem isi_row (k : Bool) (r : List Int) : tab [(0, false), (1, false), (2, false), (3, false), (4, true), (5, true), (8, false)] (row k r).kind = some true := by cases k <;> rfl
theorem isi_box (k : Bool) (ts : List T) : tab [(0, false), (1, false), (2, false), (3, false), (4, true), (5, true), (8, false)] (box k ts).kind = some true := by cases k <;> rfl
theorem ne_int (a b : Int) : fNe (.int a) (.int b) = some (.sh (.bl (decide (a ≠ b)))) := by
  unfold fNe eqT
  have h : ∀ x : Int, SeqAt.shaped (T.p (.int x)) = true := fun x => by simp [T.p, SeqAt.shaped, PyData.canLay0, PyData.depth]
  rw [h a, h b]
  simp [T.p, PyData.eqv]
  by_cases e : a = b <;> simp [e]
theorem eq_int (a b : Int) : fEq (.int a) (.int b) = some (.sh (.bl (decide (a = b)))) := by
  unfold fEq eqT
  have h : ∀ x : Int, SeqAt.shaped (T.p (.int x)) = true := fun x => by simp [T.p, SeqAt.shaped, PyData.canLay0, PyData.depth]
  rw [h a, h b]
  simp [T.p, PyData.eqv]
  by_cases e : a = b <;> simp [e]
theorem lenN_row {i : Nat} {e : List Slot} {k : Bool} {r : List Int} (h : e[i]? = some (.sh (row k r))) : dLenN i e = .ok (.sh (.int r.length)) e := by
  unfold dLenN
  rw [h]
  cases k <;> simp [row, ti]
theorem lenN_box {i : Nat} {e : List Slot} {k : Bool} {ts : List T} (h : e[i]? = some (.sh (box k ts))) : dLenN i e = .ok (.sh (.int ts.length)) e := by
  unfold dLenN
  rw [h]
  cases k <;> simp [box]
theorem var_sh {i : Nat} {e : List Slot} {t : T} (h : e[i]? = some (.sh t)) : dVar i e = .ok (.sh t) e := by
  unfold dVar
  rw [h]

/-- what the loop of _checked does -/
theorem checked_in (k1 k2 : Bool) (M : List (List Int)) (w : Int) (hw : ∀ r ∈ M, (r.length : Int) = w) (hM : M.length ≤ 1000) (e : List Slot) : runF f_checked [.v (box k1 (M.map (row k2))), .v (.int w)] e = .ok (.sh (tm M)) e := by
  -- one row's items
  have items : ∀ (a3 : T) (acc : List T) (r : List Int) (x : Slot), x.pk = none → ∃ x', x'.pk = none ∧ forL (gN 4) (dIfS (dNot (dTru (dCall 1 f_is_integer [] (cVal (dVar 4) cNil)))) (dRaise 1) dNx) (ti r) [.sh (box k1 (M.map (row k2))), .sh (.int w), .ol false acc, .sh a3, x] = .ok .nx [.sh (box k1 (M.map (row k2))), .sh (.int w), .ol false acc, .sh a3, x'] := by
    intro a3 acc r
    induction r with
    | nil => intro x hx; exact ⟨x, hx, rfl⟩
    | cons i r ih =>
      intro x hx
      obtain ⟨x', h1, h2⟩ := ih (.sh (.int i)) rfl
      refine ⟨x', h1, ?_⟩
      show forL _ _ (T.int i :: ti r) _ = _
      unfold forL
      simp only [gN, setSlot, List.getElem?_cons_succ, List.getElem?_cons_zero, hx, onNx, List.set_cons_succ, List.set_cons_zero, dLoop, dIfS, dNot, dTru, dCall, cVal, cNil, rb_ok, dVar, Out.t, List.map_nil, List.append_nil, List.length_cons, List.length_nil]
      simp only [show Nat.beq (0 + 1) 1 = true from rfl, if_true, run_is_integer, rb_ok, truthT, rb_of, Out.t, Bool.not_true, Bool.false_eq_true, if_false, dNx]
      exact h2
  have rows : ∀ (Ms : List (List Int)) (acc : List T) (x y : Slot), x.pk = none → y.pk = none → (∀ r ∈ Ms, (r.length : Int) = w) → acc.length + Ms.length ≤ 1000 → ∃ x' y', forL (gN 3) (dSeq (dIfS (dOr (dNot (dTru (dIsi (tab [(0, false), (1, false), (2, false), (3, false), (4, true), (5, true), (8, false)]) (dVar 3)))) (dTst (dOp fNe (dLenN 3) (dVar 1)))) (dRaise 1) dNx) (dSeq (dFor (dItems (dVar 3)) (gN 4) (dIfS (dNot (dTru (dCall 1 f_is_integer [] (cVal (dVar 4) cNil)))) (dRaise 1) dNx)) (dApp 2 (dCB fTuple (dCons (dVar 3) dNil)))))
      (Ms.map (row k2)) [.sh (box k1 (M.map (row k2))), .sh (.int w), .ol false acc, x, y] = .ok .nx [.sh (box k1 (M.map (row k2))), .sh (.int w), .ol false (acc ++ Ms.map (row true)), x', y'] := by
    intro Ms
    induction Ms with
    | nil => intro acc x y hx hy _ _; exact ⟨x, y, by rw [List.map_nil, List.map_nil, List.append_nil]; rfl⟩
    | cons r Ms ih =>
      intro acc x y hx hy hr hl
      rw [List.length_cons] at hl
      obtain ⟨y1, hy1, hit⟩ := items (row k2 r) acc r y hy
      obtain ⟨x', y', h2⟩ := ih (acc ++ [row true r]) (.sh (row k2 r)) y1 rfl hy1 (fun q hq => hr q (List.mem_cons_of_mem _ hq)) (by rw [List.length_append, List.length_singleton]; omega)
      refine ⟨x', y', ?_⟩
      have hw1 : (r.length : Int) = w := hr r (List.mem_cons_self ..)
      have hne : fNe (.int r.length) (.int w) = some (.sh (.bl false)) := by rw [ne_int, hw1]; simp
      have hf : fits (acc.length + 1) = true := Nat.ble_eq_true_of_le (by omega)
      rw [List.map_cons]
      unfold forL
      simp only [gN, setSlot, List.getElem?_cons_succ, List.getElem?_cons_zero, hx, onNx, List.set_cons_succ, List.set_cons_zero, dLoop, dSeq, dIfS, dOr, dNot, dTru, dIsi, dTst, dOp]
      rw [var_sh (i := 3) (t := row k2 r) rfl]
      simp only [rb_ok, Out.t, isi_row, truthT, rb_of, Bool.not_true, Bool.false_eq_true, if_false]
      rw [lenN_row (i := 3) (k := k2) (r := r) rfl]
      simp only [rb_ok]
      rw [var_sh (i := 1) (t := .int w) rfl]
      simp only [rb_ok, Out.t, hne, rb_of, asBl, Bool.false_eq_true, if_false, dNx, dFor, dItems]
      rw [var_sh (i := 3) (t := row k2 r) rfl]
      simp only [rb_ok, Out.t, row_items, rb_of]
      rw [hit]
      simp only [rb_ok, dApp, onOl, List.getElem?_cons_succ, List.getElem?_cons_zero, dCB, dCons, dNil]
      rw [var_sh (i := 3) (t := row k2 r) rfl]
      simp only [rb_ok, Out.t, row_tup, rb_of, onOl, List.getElem?_cons_succ, List.getElem?_cons_zero, hf, if_true, List.set_cons_succ, List.set_cons_zero]
      rw [h2, List.append_assoc]
      rfl
  obtain ⟨x', y', hrun⟩ := rows M [] .un .un rfl rfl hw (by simpa using hM)
  refine runF_eq (ss := [.sh (box k1 (M.map (row k2))), .sh (.int w)]) rfl rfl (e' := [.sh (box k1 (M.map (row k2))), .sh (.int w), .sh (.lst (M.map (row true))), x', y']) ?_
  simp only [f_checked, fnD, b_checked, List.replicate, List.cons_append, List.nil_append]
  show (dSeq (dSet 2 (dLst dNil)) _ [.sh (box k1 (M.map (row k2))), .sh (.int w), .un, .un, .un]).bind _ = _
  have h0 : dSet 2 (dLst dNil) [.sh (box k1 (M.map (row k2))), .sh (.int w), .un, .un, .un] = .ok .nx [.sh (box k1 (M.map (row k2))), .sh (.int w), .ol false [], .un, .un] := rfl
  have h1 : dItems (dVar 0) [.sh (box k1 (M.map (row k2))), .sh (.int w), .ol false [], .un, .un] = .ok (M.map (row k2)) [.sh (box k1 (M.map (row k2))), .sh (.int w), .ol false [], .un, .un] := by
    unfold dItems
    rw [var_sh (i := 0) (t := box k1 (M.map (row k2))) rfl]
    simp only [rb_ok, Out.t, box_items, rb_of]
  rw [List.nil_append] at hrun
  simp only [dSeq, h0, rb_ok, dFor, h1, hrun, dRet, dCB, dCons, dNil, dVar, List.getElem?_cons_succ, List.getElem?_cons_zero, List.set_cons_succ, List.set_cons_zero, Out.t, fTuple, rb_of, Fl.out]
  rfl
end L2.VD.K01

namespace L2.VD.K01
open PySem PySem.Spec PyProof.Rows

theorem tb0 : tab [((2 : Nat), (0 : Nat))] 2 = some 0 := rfl
theorem tb1 : tab [((2 : Nat), (1 : Nat))] 2 = some 1 := rfl
theorem tb8 (M : List (List Int)) (w : Int) : tab [(0, false), (1, false), (2, false), (3, false), (4, false), (5, false), (8, true)] (gr M w).kind = some true := rfl
theorem init_ok (k1 k2 : Bool) (M : List (List Int)) (w : Int) (hw : ∀ r ∈ M, (r.length : Int) = w) (hM : M.length ≤ 1000) :
    ∃ e', f_Grid_init [.oi 2 [], .sh (box k1 (M.map (row k2))), .sh (.int w)] = .ok (.sh .non) e' ∧ e'[0]? = some (.oi 2 [tm M, .int w]) := by
  refine ⟨[.oi 2 [tm M, .int w], .sh (box k1 (M.map (row k2))), .sh (.int w)], ?_, rfl⟩
  have h2 : fIsN (.int w) .non = some (.sh (.bl false)) := rfl
  unfold f_Grid_init b_Grid_init
  simp only [mkEnd, rb_ok, rb_ex, rb_of, dC, dVar, dOp, dUn, dTru, dTst, dNot, dAnd, dOr, dIf, dAndV, dOrV, dNotV, dNil, dCons, dTup, dLst, dIdxN, dSl, dNoPart, dPart, dNx, dSeq, dRet, dRetN, dDrop, dIfS, dSet, setSlot, dAsg, onNx, gN, gT, gsNil, gsCons, dItems, dRng, dFor, dCB, dIsi, dFld, dSetF, dCall, cVal, cLend, cNil, dMake, dMeth, runN, dPar, dPar.parE, dRaise, dApp, onOl, dSetI, putOl, setAt, Out.t, Out.slot, Slot.pk, Fl.out, asBl, asInt, truthT, fnD, Nat.beq_eq, eq_self, Nat.reduceEqDiff, Bool.and_eq_true, decide_eq_true_eq, and_self, and_true, true_and, Nat.reduceAdd, Nat.zero_add, decide_true, Bool.and_true, Bool.true_and, Nat.reduceLT, tb0, tb1, tb8, isi_row, isi_box, List.getElem?_cons_succ, List.getElem?_cons_zero, List.set_cons_succ, List.set_cons_zero, List.map_nil, List.map_cons, List.append_nil, List.nil_append, List.cons_append, List.length_cons, List.length_nil, List.replicate, Option.bind_some, Option.map_some, ↓reduceIte, if_true, Bool.not_true, Bool.not_false, Bool.false_eq_true, if_false, h2, checked_in k1 k2 M w hw hM]

theorem mk_ok (k1 k2 : Bool) {M : List (List Int)} {w : Int} (hw : ∀ r ∈ M, (r.length : Int) = w) (hM : M.length ≤ 1000) (e : List Slot) : mkEnd 2 2 e (f_Grid_init [.oi 2 [], .sh (box k1 (M.map (row k2))), .sh (.int w)]) = .ok (.sh (gr M w)) e := by
  obtain ⟨e', h1, h2⟩ := init_ok k1 k2 M w hw hM
  unfold mkEnd
  rw [h1]
  simp only [h2]
  rfl
theorem dLc_map {α : Type} (L : List α) (mk f : α → T) {di : DI} {g : DG} {de : DE} {vs : List Nat} {e e0 : List Slot} (h1 : di e = .ok (L.map mk) e) (h0 : wipeE e vs = e0) (hb : backE e e0 vs = e) (hf : L.length ≤ 1000)
    (h : ∀ a ∈ L, ∃ e1 o e2, g (mk a) e0 = .ok .nx e1 ∧ de e1 = .ok o e2 ∧ wipeE e2 vs = e0 ∧ o.t = f a) : dLc di g dYes de vs e = .ok (.fr (L.map f)) e := by
  have key : ∀ (L : List α) (acc : List T), acc.length + L.length ≤ 1000 → (∀ a ∈ L, ∃ e1 o e2, g (mk a) e0 = .ok .nx e1 ∧ de e1 = .ok o e2 ∧ wipeE e2 vs = e0 ∧ o.t = f a) → lcL g dYes de vs (L.map mk) acc e0 = some (acc ++ L.map f, e0) := by
    intro L
    induction L with
    | nil => intro acc _ _; rw [List.map_nil, List.map_nil, List.append_nil]; rfl
    | cons a L ih =>
      intro acc hl h
      rw [List.length_cons] at hl
      obtain ⟨e1, o, e2, k1, k2, k3, k4⟩ := h a (List.mem_cons_self ..)
      have hf1 : fits (acc.length + 1) = true := Nat.ble_eq_true_of_le (by omega)
      rw [List.map_cons]
      unfold lcL
      rw [k1]
      simp only [dYes, k2, hf1, if_true, k3, k4]
      rw [ih (acc ++ [f a]) (by rw [List.length_append, List.length_singleton]; omega) fun b hb => h b (List.mem_cons_of_mem _ hb), List.append_assoc]
      rfl
  unfold dLc
  rw [h1]
  simp only [rb_ok, h0]
  rw [key L [] (by simpa using hf) h, List.nil_append]
  show Res.ok _ (backE e e0 vs) = _
  rw [hb]
theorem dLc_map1 {α : Type} (L : List α) (mk f : α → T) {di : DI} {g : DG} {de : DE} {vs : List Nat} {e : List Slot} (e0 : List Slot) (e1 : α → List Slot) (o : α → Out) (hf : L.length ≤ 1000) (h1 : di e = .ok (L.map mk) e) (h : ∀ a ∈ L, g (mk a) e0 = .ok .nx (e1 a) ∧ de (e1 a) = .ok (o a) (e1 a)) (ho : ∀ a, (o a).t = f a := by intro _; rfl) (hw : ∀ a, wipeE (e1 a) vs = e0 := by intro _; rfl) (h0 : wipeE e vs = e0 := by rfl) (hb : backE e e0 vs = e := by rfl) :
    dLc di g dYes de vs e = .ok (.fr (L.map f)) e := dLc_map L mk f h1 h0 hb hf fun a ha => ⟨e1 a, o a, e1 a, (h a ha).1, (h a ha).2, hw a, ho a⟩
def Sm (r : List Int) : Prop := ∀ x ∈ r, x.natAbs ≤ 9223372036854775807
theorem mulFits_l {i : Int} (h : i.natAbs ≤ 9223372036854775807) (j : Int) : mulFits i j = true := by
  unfold mulFits
  rw [Nat.ble_eq_true_of_le h]
  simp
theorem mulFits_r {j : Int} (h : j.natAbs ≤ 9223372036854775807) (i : Int) : mulFits i j = true := by
  unfold mulFits
  rw [Nat.ble_eq_true_of_le h]
  simp
theorem seq_row (k : Bool) (r : List Int) : seqT (row k r) = some (ti r) := by cases k <;> rfl
theorem zip_ti (a b : List Int) : zipT (ti a) (ti b) = (a.zip b).map fun p => .tup [.int p.1, .int p.2] := by
  induction a generalizing b with
  | nil => rfl
  | cons x a ih =>
    cases b with
    | nil => rfl
    | cons y b => show _ :: zipT (ti a) (ti b) = _; rw [ih]; rfl
theorem ints_ti (r : List Int) : intsT (ti r) = some r := by
  induction r with
  | nil => rfl
  | cons x r ih => show (intsT (ti r)).map (x :: ·) = _; rw [ih]; rfl
def dotI (a b : List Int) : Int := ((a.zip b).map fun p => p.1 * p.2).sum
theorem run_dot (k1 k2 : Bool) (a b : List Int) (ha : Sm a) (hl : a.length ≤ 1000) (e : List Slot) : runF f_dot [.v (row k1 a), .v (row k2 b)] e = .ok (.sh (.int (dotI a b))) e := by
  refine runF_eq (ss := [.sh (row k1 a), .sh (row k2 b)]) rfl rfl (e' := [.sh (row k1 a), .sh (row k2 b), .un, .un]) ?_
  have hlc : dLc (dZip (dCons (dVar 0) (dCons (dVar 1) dNil))) (gT 2 (gsCons (gN 2) (gsCons (gN 3) gsNil))) dYes (dOp fMul (dVar 2) (dVar 3)) [2, 3] [.sh (row k1 a), .sh (row k2 b), .un, .un] = .ok (.fr ((a.zip b).map fun p => .int (p.1 * p.2))) [.sh (row k1 a), .sh (row k2 b), .un, .un] := by
    refine dLc_map1 (a.zip b) (fun p => .tup [.int p.1, .int p.2]) (fun p => .int (p.1 * p.2)) [.sh (row k1 a), .sh (row k2 b), .un, .un] (fun p => [.sh (row k1 a), .sh (row k2 b), .sh (.int p.1), .sh (.int p.2)]) (fun p => .sh (.int (p.1 * p.2))) (by rw [List.length_zip]; omega) ?_ fun p hp => ?_
    · simp only [dZip, asZip, seq_row, zip_ti, rb_ok, rb_ex, rb_of, dC, dVar, dOp, dUn, dTru, dTst, dNot, dAnd, dOr, dIf, dAndV, dOrV, dNotV, dNil, dCons, dTup, dLst, dIdxN, dSl, dNoPart, dPart, dNx, dSeq, dRet, dRetN, dDrop, dIfS, dSet, setSlot, dAsg, onNx, gN, gT, gsNil, gsCons, dItems, dRng, dFor, dCB, dIsi, dFld, dSetF, dCall, cVal, cLend, cNil, dMake, dMeth, runN, dPar, dPar.parE, dRaise, dApp, onOl, dSetI, putOl, setAt, Out.t, Out.slot, Slot.pk, Fl.out, asBl, asInt, truthT, fnD, Nat.beq_eq, eq_self, Nat.reduceEqDiff, Bool.and_eq_true, decide_eq_true_eq, and_self, and_true, true_and, Nat.reduceAdd, Nat.zero_add, decide_true, Bool.and_true, Bool.true_and, Nat.reduceLT, tb0, tb1, tb8, isi_row, isi_box, List.getElem?_cons_succ, List.getElem?_cons_zero, List.set_cons_succ, List.set_cons_zero, List.map_nil, List.map_cons, List.append_nil, List.nil_append, List.cons_append, List.length_cons, List.length_nil, List.replicate, Option.bind_some, Option.map_some, ↓reduceIte, if_true, Bool.not_true, Bool.not_false, Bool.false_eq_true, if_false]
    · have hm : mulFits p.1 p.2 = true := mulFits_l (ha p.1 (List.of_mem_zip hp).1) _
      exact ⟨by simp only [rb_ok, rb_ex, rb_of, dC, dVar, dOp, dUn, dTru, dTst, dNot, dAnd, dOr, dIf, dAndV, dOrV, dNotV, dNil, dCons, dTup, dLst, dIdxN, dSl, dNoPart, dPart, dNx, dSeq, dRet, dRetN, dDrop, dIfS, dSet, setSlot, dAsg, onNx, gN, gT, gsNil, gsCons, dItems, dRng, dFor, dCB, dIsi, dFld, dSetF, dCall, cVal, cLend, cNil, dMake, dMeth, runN, dPar, dPar.parE, dRaise, dApp, onOl, dSetI, putOl, setAt, Out.t, Out.slot, Slot.pk, Fl.out, asBl, asInt, truthT, fnD, Nat.beq_eq, eq_self, Nat.reduceEqDiff, Bool.and_eq_true, decide_eq_true_eq, and_self, and_true, true_and, Nat.reduceAdd, Nat.zero_add, decide_true, Bool.and_true, Bool.true_and, Nat.reduceLT, tb0, tb1, tb8, isi_row, isi_box, List.getElem?_cons_succ, List.getElem?_cons_zero, List.set_cons_succ, List.set_cons_zero, List.map_nil, List.map_cons, List.append_nil, List.nil_append, List.cons_append, List.length_cons, List.length_nil, List.replicate, Option.bind_some, Option.map_some, ↓reduceIte, if_true, Bool.not_true, Bool.not_false, Bool.false_eq_true, if_false], by simp only [fMul, hm, rb_ok, rb_ex, rb_of, dC, dVar, dOp, dUn, dTru, dTst, dNot, dAnd, dOr, dIf, dAndV, dOrV, dNotV, dNil, dCons, dTup, dLst, dIdxN, dSl, dNoPart, dPart, dNx, dSeq, dRet, dRetN, dDrop, dIfS, dSet, setSlot, dAsg, onNx, gN, gT, gsNil, gsCons, dItems, dRng, dFor, dCB, dIsi, dFld, dSetF, dCall, cVal, cLend, cNil, dMake, dMeth, runN, dPar, dPar.parE, dRaise, dApp, onOl, dSetI, putOl, setAt, Out.t, Out.slot, Slot.pk, Fl.out, asBl, asInt, truthT, fnD, Nat.beq_eq, eq_self, Nat.reduceEqDiff, Bool.and_eq_true, decide_eq_true_eq, and_self, and_true, true_and, Nat.reduceAdd, Nat.zero_add, decide_true, Bool.and_true, Bool.true_and, Nat.reduceLT, tb0, tb1, tb8, isi_row, isi_box, List.getElem?_cons_succ, List.getElem?_cons_zero, List.set_cons_succ, List.set_cons_zero, List.map_nil, List.map_cons, List.append_nil, List.nil_append, List.cons_append, List.length_cons, List.length_nil, List.replicate, Option.bind_some, Option.map_some, ↓reduceIte, if_true, Bool.not_true, Bool.not_false, Bool.false_eq_true, if_false]⟩
  unfold f_dot b_dot
  simp only [hlc, fSum, listOf, rb_ok, rb_ex, rb_of, dC, dVar, dOp, dUn, dTru, dTst, dNot, dAnd, dOr, dIf, dAndV, dOrV, dNotV, dNil, dCons, dTup, dLst, dIdxN, dSl, dNoPart, dPart, dNx, dSeq, dRet, dRetN, dDrop, dIfS, dSet, setSlot, dAsg, onNx, gN, gT, gsNil, gsCons, dItems, dRng, dFor, dCB, dIsi, dFld, dSetF, dCall, cVal, cLend, cNil, dMake, dMeth, runN, dPar, dPar.parE, dRaise, dApp, onOl, dSetI, putOl, setAt, Out.t, Out.slot, Slot.pk, Fl.out, asBl, asInt, truthT, fnD, Nat.beq_eq, eq_self, Nat.reduceEqDiff, Bool.and_eq_true, decide_eq_true_eq, and_self, and_true, true_and, Nat.reduceAdd, Nat.zero_add, decide_true, Bool.and_true, Bool.true_and, Nat.reduceLT, tb0, tb1, tb8, isi_row, isi_box, List.getElem?_cons_succ, List.getElem?_cons_zero, List.set_cons_succ, List.set_cons_zero, List.map_nil, List.map_cons, List.append_nil, List.nil_append, List.cons_append, List.length_cons, List.length_nil, List.replicate, Option.bind_some, Option.map_some, ↓reduceIte, if_true, Bool.not_true, Bool.not_false, Bool.false_eq_true, if_false]
  rw [show ((a.zip b).map fun p => T.int (p.1 * p.2)) = ti ((a.zip b).map fun p => p.1 * p.2) by unfold ti; rw [List.map_map]; rfl, ints_ti]
  rfl

theorem fld0 {i : Nat} {e : List Slot} {M : List (List Int)} {w : Int} (h : e[i]? = some (.sh (gr M w))) : dFld (tab [(2, 0)]) (dVar i) e = .ok (.sh (tm M)) e := by
  unfold dFld
  rw [var_sh h]
  rfl
theorem fld1 {i : Nat} {e : List Slot} {M : List (List Int)} {w : Int} (h : e[i]? = some (.sh (gr M w))) : dFld (tab [(2, 1)]) (dVar i) e = .ok (.sh (.int w)) e := by
  unfold dFld
  rw [var_sh h]
  rfl
theorem len_tm (M : List (List Int)) : fLen [tm M] = some (.sh (.int M.length)) := by
  unfold tm fLen
  simp only [List.length_map]
theorem items_tm (M : List (List Int)) : itemsT (tm M) = some (M.map (row true)) := rfl
theorem zip_rows (k1 k2 : Bool) (A B : List (List Int)) : zipT (A.map (row k1)) (B.map (row k2)) = (A.zip B).map fun p => .tup [row k1 p.1, row k2 p.2] := by
  induction A generalizing B with
  | nil => rfl
  | cons x A ih =>
    cases B with
    | nil => rfl
    | cons y B => show _ :: zipT (A.map _) (B.map _) = _; rw [ih]; rfl
theorem seq_tm (M : List (List Int)) : seqT (tm M) = some (M.map (row true)) := rfl
theorem ti_zip {L : List (Int × Int)} {f : Int × Int → Int} : (L.map fun p => T.int (f p)) = ti (L.map f) := by unfold ti; rw [List.map_map]; rfl
def Wd (M : List (List Int)) (w : Int) : Prop := ∀ r ∈ M, (r.length : Int) = w
theorem rows_of {α : Type} {L : List α} {f : α → List Int} : (L.map fun p => row false (f p)) = (L.map f).map (row false) := by rw [List.map_map]; rfl
def addM (A B : List (List Int)) : List (List Int) := (A.zip B).map fun p => (p.1.zip p.2).map fun q => q.1 + q.2
theorem wd_zip {A B : List (List Int)} {w : Int} {f : Int × Int → Int} (hA : Wd A w) (hB : Wd B w) : Wd ((A.zip B).map fun p => (p.1.zip p.2).map f) w := by
  intro r hr
  obtain ⟨p, hp, rfl⟩ := List.mem_map.mp hr
  have h1 := hA p.1 (List.of_mem_zip hp).1
  have h2 := hB p.2 (List.of_mem_zip hp).2
  rw [List.length_map, List.length_zip]
  omega
theorem run_add (A B : List (List Int)) (w : Int) (hA : Wd A w) (hB : Wd B w) (hl : A.length = B.length) (hM : A.length ≤ 1000) (hw : w ≤ 1000) (e : List Slot) : runF f_Grid_add [.v (gr A w), .v (gr B w)] e = .ok (.sh (gr (addM A B) w)) e := by
  refine runF_eq (ss := [.sh (gr A w), .sh (gr B w)]) rfl rfl (e' := [.sh (gr A w), .sh (gr B w), .un, .un, .un, .un]) ?_
  have h1 : fNe (.int A.length) (.int B.length) = some (.sh (.bl false)) := by rw [ne_int, hl]; simp
  have h2 : fNe (.int w) (.int w) = some (.sh (.bl false)) := by rw [ne_int]; simp
  have inner : ∀ (p : List Int × List Int), p ∈ A.zip B → dLc (dZip (dCons (dVar 2) (dCons (dVar 3) dNil))) (gT 2 (gsCons (gN 4) (gsCons (gN 5) gsNil))) dYes (dOp fAdd (dVar 4) (dVar 5)) [4, 5] [.sh (gr A w), .sh (gr B w), .sh (row true p.1), .sh (row true p.2), .un, .un] = .ok (.fr (ti ((p.1.zip p.2).map fun q => q.1 + q.2))) [.sh (gr A w), .sh (gr B w), .sh (row true p.1), .sh (row true p.2), .un, .un] := by
    intro p hp
    have hp1 := hA p.1 (List.of_mem_zip hp).1
    rw [← ti_zip]
    refine dLc_map1 (p.1.zip p.2) (fun q => .tup [.int q.1, .int q.2]) (fun q => .int (q.1 + q.2)) [.sh (gr A w), .sh (gr B w), .sh (row true p.1), .sh (row true p.2), .un, .un] (fun q => [.sh (gr A w), .sh (gr B w), .sh (row true p.1), .sh (row true p.2), .sh (.int q.1), .sh (.int q.2)]) (fun q => .sh (.int (q.1 + q.2))) (by rw [List.length_zip]; omega) ?_ fun q hq => ?_
    · simp only [dZip, asZip, seq_row, zip_ti, rb_ok, rb_ex, rb_of, dC, dVar, dOp, dUn, dTru, dTst, dNot, dAnd, dOr, dIf, dAndV, dOrV, dNotV, dNil, dCons, dTup, dLst, dIdxN, dSl, dNoPart, dPart, dNx, dSeq, dRet, dRetN, dDrop, dIfS, dSet, setSlot, dAsg, onNx, gN, gT, gsNil, gsCons, dItems, dRng, dFor, dCB, dIsi, dFld, dSetF, dCall, cVal, cLend, cNil, dMake, dMeth, runN, dPar, dPar.parE, dRaise, dApp, onOl, dSetI, putOl, setAt, Out.t, Out.slot, Slot.pk, Fl.out, asBl, asInt, truthT, fnD, Nat.beq_eq, eq_self, Nat.reduceEqDiff, Bool.and_eq_true, decide_eq_true_eq, and_self, and_true, true_and, Nat.reduceAdd, Nat.zero_add, decide_true, Bool.and_true, Bool.true_and, Nat.reduceLT, tb0, tb1, tb8, isi_row, isi_box, List.getElem?_cons_succ, List.getElem?_cons_zero, List.set_cons_succ, List.set_cons_zero, List.map_nil, List.map_cons, List.append_nil, List.nil_append, List.cons_append, List.length_cons, List.length_nil, List.replicate, Option.bind_some, Option.map_some, ↓reduceIte, if_true, Bool.not_true, Bool.not_false, Bool.false_eq_true, if_false]
    · exact ⟨by simp only [rb_ok, rb_ex, rb_of, dC, dVar, dOp, dUn, dTru, dTst, dNot, dAnd, dOr, dIf, dAndV, dOrV, dNotV, dNil, dCons, dTup, dLst, dIdxN, dSl, dNoPart, dPart, dNx, dSeq, dRet, dRetN, dDrop, dIfS, dSet, setSlot, dAsg, onNx, gN, gT, gsNil, gsCons, dItems, dRng, dFor, dCB, dIsi, dFld, dSetF, dCall, cVal, cLend, cNil, dMake, dMeth, runN, dPar, dPar.parE, dRaise, dApp, onOl, dSetI, putOl, setAt, Out.t, Out.slot, Slot.pk, Fl.out, asBl, asInt, truthT, fnD, Nat.beq_eq, eq_self, Nat.reduceEqDiff, Bool.and_eq_true, decide_eq_true_eq, and_self, and_true, true_and, Nat.reduceAdd, Nat.zero_add, decide_true, Bool.and_true, Bool.true_and, Nat.reduceLT, tb0, tb1, tb8, isi_row, isi_box, List.getElem?_cons_succ, List.getElem?_cons_zero, List.set_cons_succ, List.set_cons_zero, List.map_nil, List.map_cons, List.append_nil, List.nil_append, List.cons_append, List.length_cons, List.length_nil, List.replicate, Option.bind_some, Option.map_some, ↓reduceIte, if_true, Bool.not_true, Bool.not_false, Bool.false_eq_true, if_false], by simp only [fAdd, rb_ok, rb_ex, rb_of, dC, dVar, dOp, dUn, dTru, dTst, dNot, dAnd, dOr, dIf, dAndV, dOrV, dNotV, dNil, dCons, dTup, dLst, dIdxN, dSl, dNoPart, dPart, dNx, dSeq, dRet, dRetN, dDrop, dIfS, dSet, setSlot, dAsg, onNx, gN, gT, gsNil, gsCons, dItems, dRng, dFor, dCB, dIsi, dFld, dSetF, dCall, cVal, cLend, cNil, dMake, dMeth, runN, dPar, dPar.parE, dRaise, dApp, onOl, dSetI, putOl, setAt, Out.t, Out.slot, Slot.pk, Fl.out, asBl, asInt, truthT, fnD, Nat.beq_eq, eq_self, Nat.reduceEqDiff, Bool.and_eq_true, decide_eq_true_eq, and_self, and_true, true_and, Nat.reduceAdd, Nat.zero_add, decide_true, Bool.and_true, Bool.true_and, Nat.reduceLT, tb0, tb1, tb8, isi_row, isi_box, List.getElem?_cons_succ, List.getElem?_cons_zero, List.set_cons_succ, List.set_cons_zero, List.map_nil, List.map_cons, List.append_nil, List.nil_append, List.cons_append, List.length_cons, List.length_nil, List.replicate, Option.bind_some, Option.map_some, ↓reduceIte, if_true, Bool.not_true, Bool.not_false, Bool.false_eq_true, if_false]⟩
  have outer : dLc (dZip (dCons (dFld (tab [(2, 0)]) (dVar 0)) (dCons (dFld (tab [(2, 0)]) (dVar 1)) dNil))) (gT 2 (gsCons (gN 2) (gsCons (gN 3) gsNil))) dYes (dLc (dZip (dCons (dVar 2) (dCons (dVar 3) dNil))) (gT 2 (gsCons (gN 4) (gsCons (gN 5) gsNil))) dYes (dOp fAdd (dVar 4) (dVar 5)) [4, 5]) [2, 3] [.sh (gr A w), .sh (gr B w), .un, .un, .un, .un] = .ok (.fr ((addM A B).map (row false))) [.sh (gr A w), .sh (gr B w), .un, .un, .un, .un] := by
    unfold addM
    rw [← rows_of]
    refine dLc_map1 (A.zip B) (fun p => .tup [row true p.1, row true p.2]) (fun p => row false ((p.1.zip p.2).map fun q => q.1 + q.2)) [.sh (gr A w), .sh (gr B w), .un, .un, .un, .un] (fun p => [.sh (gr A w), .sh (gr B w), .sh (row true p.1), .sh (row true p.2), .un, .un]) (fun p => .fr (ti ((p.1.zip p.2).map fun q => q.1 + q.2))) (by rw [List.length_zip]; omega) ?_ fun p hp => ?_
    · simp only [dZip, dCons, dNil]
      rw [fld0 (M := A) (w := w) rfl]
      simp only [rb_ok]
      rw [fld0 (M := B) (w := w) rfl]
      simp only [asZip, seq_tm, zip_rows, rb_ok, rb_ex, rb_of, dC, dVar, dOp, dUn, dTru, dTst, dNot, dAnd, dOr, dIf, dAndV, dOrV, dNotV, dNil, dCons, dTup, dLst, dIdxN, dSl, dNoPart, dPart, dNx, dSeq, dRet, dRetN, dDrop, dIfS, dSet, setSlot, dAsg, onNx, gN, gT, gsNil, gsCons, dItems, dRng, dFor, dCB, dIsi, dFld, dSetF, dCall, cVal, cLend, cNil, dMake, dMeth, runN, dPar, dPar.parE, dRaise, dApp, onOl, dSetI, putOl, setAt, Out.t, Out.slot, Slot.pk, Fl.out, asBl, asInt, truthT, fnD, Nat.beq_eq, eq_self, Nat.reduceEqDiff, Bool.and_eq_true, decide_eq_true_eq, and_self, and_true, true_and, Nat.reduceAdd, Nat.zero_add, decide_true, Bool.and_true, Bool.true_and, Nat.reduceLT, tb0, tb1, tb8, isi_row, isi_box, List.getElem?_cons_succ, List.getElem?_cons_zero, List.set_cons_succ, List.set_cons_zero, List.map_nil, List.map_cons, List.append_nil, List.nil_append, List.cons_append, List.length_cons, List.length_nil, List.replicate, Option.bind_some, Option.map_some, ↓reduceIte, if_true, Bool.not_true, Bool.not_false, Bool.false_eq_true, if_false]
    · exact ⟨by simp only [rb_ok, rb_ex, rb_of, dC, dVar, dOp, dUn, dTru, dTst, dNot, dAnd, dOr, dIf, dAndV, dOrV, dNotV, dNil, dCons, dTup, dLst, dIdxN, dSl, dNoPart, dPart, dNx, dSeq, dRet, dRetN, dDrop, dIfS, dSet, setSlot, dAsg, onNx, gN, gT, gsNil, gsCons, dItems, dRng, dFor, dCB, dIsi, dFld, dSetF, dCall, cVal, cLend, cNil, dMake, dMeth, runN, dPar, dPar.parE, dRaise, dApp, onOl, dSetI, putOl, setAt, Out.t, Out.slot, Slot.pk, Fl.out, asBl, asInt, truthT, fnD, Nat.beq_eq, eq_self, Nat.reduceEqDiff, Bool.and_eq_true, decide_eq_true_eq, and_self, and_true, true_and, Nat.reduceAdd, Nat.zero_add, decide_true, Bool.and_true, Bool.true_and, Nat.reduceLT, tb0, tb1, tb8, isi_row, isi_box, List.getElem?_cons_succ, List.getElem?_cons_zero, List.set_cons_succ, List.set_cons_zero, List.map_nil, List.map_cons, List.append_nil, List.nil_append, List.cons_append, List.length_cons, List.length_nil, List.replicate, Option.bind_some, Option.map_some, ↓reduceIte, if_true, Bool.not_true, Bool.not_false, Bool.false_eq_true, if_false], inner p hp⟩
  have hmk := mk_ok false false (M := addM A B) (w := w) (wd_zip hA hB) (by unfold addM; rw [List.length_map, List.length_zip]; omega) [.sh (gr A w), .sh (gr B w), .un, .un, .un, .un]
  have f0 : dFld (tab [(2, 0)]) (dVar 0) [.sh (gr A w), .sh (gr B w), .un, .un, .un, .un] = .ok (.sh (tm A)) [.sh (gr A w), .sh (gr B w), .un, .un, .un, .un] := fld0 rfl
  have f1 : dFld (tab [(2, 0)]) (dVar 1) [.sh (gr A w), .sh (gr B w), .un, .un, .un, .un] = .ok (.sh (tm B)) [.sh (gr A w), .sh (gr B w), .un, .un, .un, .un] := fld0 rfl
  have f2 : dFld (tab [(2, 1)]) (dVar 0) [.sh (gr A w), .sh (gr B w), .un, .un, .un, .un] = .ok (.sh (.int w)) [.sh (gr A w), .sh (gr B w), .un, .un, .un, .un] := fld1 rfl
  have f3 : dFld (tab [(2, 1)]) (dVar 1) [.sh (gr A w), .sh (gr B w), .un, .un, .un, .un] = .ok (.sh (.int w)) [.sh (gr A w), .sh (gr B w), .un, .un, .un, .un] := fld1 rfl
  unfold f_Grid_add b_Grid_add
  simp only [fnD, dSeq, dIfS, dOr, dTst, dOp, dCB, dCons, dNil, dRet, dMake, List.length_cons, List.length_nil, List.replicate, List.cons_append, List.nil_append, f0, f1, f2, f3, rb_ok, len_tm, rb_of, Out.t, h1, h2, asBl, Bool.false_eq_true, if_false, dNx, outer, List.append_nil, List.map_cons, List.map_nil, Nat.beq_eq, Nat.reduceAdd, eq_self, if_true]
  rw [show T.lst ((addM A B).map (row false)) = box false ((addM A B).map (row false)) from rfl, hmk]
  rfl
end L2.VD.K01

namespace L2.VD.K01
open PySem PySem.Spec PyProof.Rows

theorem ti_map {L : List Int} {f : Int → Int} : (L.map fun x => T.int (f x)) = ti (L.map f) := by unfold ti; rw [List.map_map]; rfl
theorem ti_mapA {α : Type} {L : List α} {f : α → Int} : (L.map fun x => T.int (f x)) = ti (L.map f) := by unfold ti; rw [List.map_map]; rfl
theorem wd_map {A : List (List Int)} {w : Int} {f : Int → Int} (hA : Wd A w) : Wd (A.map fun r => r.map f) w := by
  intro r hr
  obtain ⟨p, hp, rfl⟩ := List.mem_map.mp hr
  rw [List.length_map]
  exact hA p hp
theorem run_neg (A : List (List Int)) (w : Int) (hA : Wd A w) (hM : A.length ≤ 1000) (hw : w ≤ 1000) (e : List Slot) : ∃ e', f_Grid_neg [.sh (gr A w)] = .ok (.sh (gr (A.map fun r => r.map fun x => -x) w)) e' := by
  have inner : ∀ r ∈ A, dLc (dItems (dVar 1)) (gN 2) dYes (dUn fNeg (dVar 2)) [2] [.sh (gr A w), .sh (row true r), .un] = .ok (.fr (ti (r.map fun x => -x))) [.sh (gr A w), .sh (row true r), .un] := by
    intro r hr
    have := hA r hr
    rw [← ti_map]
    refine dLc_map1 r T.int (fun x => .int (-x)) [.sh (gr A w), .sh (row true r), .un] (fun x => [.sh (gr A w), .sh (row true r), .sh (.int x)]) (fun x => .sh (.int (-x))) (by omega) ?_ fun x hx => ?_
    · simp only [row_items, ti, rb_ok, rb_ex, rb_of, dC, dVar, dOp, dUn, dTru, dTst, dNot, dAnd, dOr, dIf, dAndV, dOrV, dNotV, dNil, dCons, dTup, dLst, dIdxN, dSl, dNoPart, dPart, dNx, dSeq, dRet, dRetN, dDrop, dIfS, dSet, setSlot, dAsg, onNx, gN, gT, gsNil, gsCons, dItems, dRng, dFor, dCB, dIsi, dFld, dSetF, dCall, cVal, cLend, cNil, dMake, dMeth, runN, dPar, dPar.parE, dRaise, dApp, onOl, dSetI, putOl, setAt, Out.t, Out.slot, Slot.pk, Fl.out, asBl, asInt, truthT, fnD, Nat.beq_eq, eq_self, Nat.reduceEqDiff, Bool.and_eq_true, decide_eq_true_eq, and_self, and_true, true_and, Nat.reduceAdd, Nat.zero_add, decide_true, Bool.and_true, Bool.true_and, Nat.reduceLT, tb0, tb1, tb8, isi_row, isi_box, List.getElem?_cons_succ, List.getElem?_cons_zero, List.set_cons_succ, List.set_cons_zero, List.map_nil, List.map_cons, List.append_nil, List.nil_append, List.cons_append, List.length_cons, List.length_nil, List.replicate, Option.bind_some, Option.map_some, ↓reduceIte, if_true, Bool.not_true, Bool.not_false, Bool.false_eq_true, if_false]
    · exact ⟨by simp only [rb_ok, rb_ex, rb_of, dC, dVar, dOp, dUn, dTru, dTst, dNot, dAnd, dOr, dIf, dAndV, dOrV, dNotV, dNil, dCons, dTup, dLst, dIdxN, dSl, dNoPart, dPart, dNx, dSeq, dRet, dRetN, dDrop, dIfS, dSet, setSlot, dAsg, onNx, gN, gT, gsNil, gsCons, dItems, dRng, dFor, dCB, dIsi, dFld, dSetF, dCall, cVal, cLend, cNil, dMake, dMeth, runN, dPar, dPar.parE, dRaise, dApp, onOl, dSetI, putOl, setAt, Out.t, Out.slot, Slot.pk, Fl.out, asBl, asInt, truthT, fnD, Nat.beq_eq, eq_self, Nat.reduceEqDiff, Bool.and_eq_true, decide_eq_true_eq, and_self, and_true, true_and, Nat.reduceAdd, Nat.zero_add, decide_true, Bool.and_true, Bool.true_and, Nat.reduceLT, tb0, tb1, tb8, isi_row, isi_box, List.getElem?_cons_succ, List.getElem?_cons_zero, List.set_cons_succ, List.set_cons_zero, List.map_nil, List.map_cons, List.append_nil, List.nil_append, List.cons_append, List.length_cons, List.length_nil, List.replicate, Option.bind_some, Option.map_some, ↓reduceIte, if_true, Bool.not_true, Bool.not_false, Bool.false_eq_true, if_false], by simp only [fNeg, rb_ok, rb_ex, rb_of, dC, dVar, dOp, dUn, dTru, dTst, dNot, dAnd, dOr, dIf, dAndV, dOrV, dNotV, dNil, dCons, dTup, dLst, dIdxN, dSl, dNoPart, dPart, dNx, dSeq, dRet, dRetN, dDrop, dIfS, dSet, setSlot, dAsg, onNx, gN, gT, gsNil, gsCons, dItems, dRng, dFor, dCB, dIsi, dFld, dSetF, dCall, cVal, cLend, cNil, dMake, dMeth, runN, dPar, dPar.parE, dRaise, dApp, onOl, dSetI, putOl, setAt, Out.t, Out.slot, Slot.pk, Fl.out, asBl, asInt, truthT, fnD, Nat.beq_eq, eq_self, Nat.reduceEqDiff, Bool.and_eq_true, decide_eq_true_eq, and_self, and_true, true_and, Nat.reduceAdd, Nat.zero_add, decide_true, Bool.and_true, Bool.true_and, Nat.reduceLT, tb0, tb1, tb8, isi_row, isi_box, List.getElem?_cons_succ, List.getElem?_cons_zero, List.set_cons_succ, List.set_cons_zero, List.map_nil, List.map_cons, List.append_nil, List.nil_append, List.cons_append, List.length_cons, List.length_nil, List.replicate, Option.bind_some, Option.map_some, ↓reduceIte, if_true, Bool.not_true, Bool.not_false, Bool.false_eq_true, if_false]⟩
  have outer : dLc (dItems (dFld (tab [(2, 0)]) (dVar 0))) (gN 1) dYes (dLc (dItems (dVar 1)) (gN 2) dYes (dUn fNeg (dVar 2)) [2]) [1] [.sh (gr A w), .un, .un] = .ok (.fr ((A.map fun r => r.map fun x => -x).map (row false))) [.sh (gr A w), .un, .un] := by
    rw [← rows_of]
    refine dLc_map1 A (row true) (fun r => row false (r.map fun x => -x)) [.sh (gr A w), .un, .un] (fun r => [.sh (gr A w), .sh (row true r), .un]) (fun r => .fr (ti (r.map fun x => -x))) hM ?_ fun r hr => ?_
    · unfold dItems
      rw [fld0 (M := A) (w := w) rfl]
      simp only [items_tm, rb_ok, rb_ex, rb_of, dC, dVar, dOp, dUn, dTru, dTst, dNot, dAnd, dOr, dIf, dAndV, dOrV, dNotV, dNil, dCons, dTup, dLst, dIdxN, dSl, dNoPart, dPart, dNx, dSeq, dRet, dRetN, dDrop, dIfS, dSet, setSlot, dAsg, onNx, gN, gT, gsNil, gsCons, dItems, dRng, dFor, dCB, dIsi, dFld, dSetF, dCall, cVal, cLend, cNil, dMake, dMeth, runN, dPar, dPar.parE, dRaise, dApp, onOl, dSetI, putOl, setAt, Out.t, Out.slot, Slot.pk, Fl.out, asBl, asInt, truthT, fnD, Nat.beq_eq, eq_self, Nat.reduceEqDiff, Bool.and_eq_true, decide_eq_true_eq, and_self, and_true, true_and, Nat.reduceAdd, Nat.zero_add, decide_true, Bool.and_true, Bool.true_and, Nat.reduceLT, tb0, tb1, tb8, isi_row, isi_box, List.getElem?_cons_succ, List.getElem?_cons_zero, List.set_cons_succ, List.set_cons_zero, List.map_nil, List.map_cons, List.append_nil, List.nil_append, List.cons_append, List.length_cons, List.length_nil, List.replicate, Option.bind_some, Option.map_some, ↓reduceIte, if_true, Bool.not_true, Bool.not_false, Bool.false_eq_true, if_false]
    · exact ⟨by simp only [rb_ok, rb_ex, rb_of, dC, dVar, dOp, dUn, dTru, dTst, dNot, dAnd, dOr, dIf, dAndV, dOrV, dNotV, dNil, dCons, dTup, dLst, dIdxN, dSl, dNoPart, dPart, dNx, dSeq, dRet, dRetN, dDrop, dIfS, dSet, setSlot, dAsg, onNx, gN, gT, gsNil, gsCons, dItems, dRng, dFor, dCB, dIsi, dFld, dSetF, dCall, cVal, cLend, cNil, dMake, dMeth, runN, dPar, dPar.parE, dRaise, dApp, onOl, dSetI, putOl, setAt, Out.t, Out.slot, Slot.pk, Fl.out, asBl, asInt, truthT, fnD, Nat.beq_eq, eq_self, Nat.reduceEqDiff, Bool.and_eq_true, decide_eq_true_eq, and_self, and_true, true_and, Nat.reduceAdd, Nat.zero_add, decide_true, Bool.and_true, Bool.true_and, Nat.reduceLT, tb0, tb1, tb8, isi_row, isi_box, List.getElem?_cons_succ, List.getElem?_cons_zero, List.set_cons_succ, List.set_cons_zero, List.map_nil, List.map_cons, List.append_nil, List.nil_append, List.cons_append, List.length_cons, List.length_nil, List.replicate, Option.bind_some, Option.map_some, ↓reduceIte, if_true, Bool.not_true, Bool.not_false, Bool.false_eq_true, if_false], inner r hr⟩
  have hmk := mk_ok false false (M := A.map fun r => r.map fun x => -x) (w := w) (wd_map (f := fun x => -x) hA) (by rw [List.length_map]; exact hM) [.sh (gr A w), .un, .un]
  have f2 : dFld (tab [(2, 1)]) (dVar 0) [.sh (gr A w), .un, .un] = .ok (.sh (.int w)) [.sh (gr A w), .un, .un] := fld1 rfl
  refine ⟨[.sh (gr A w), .un, .un], ?_⟩
  unfold f_Grid_neg b_Grid_neg
  simp only [fnD, dRet, dMake, dCons, dNil, List.length_cons, List.length_nil, List.replicate, List.cons_append, List.nil_append, f2, rb_ok, outer, Out.t, List.append_nil, List.map_cons, List.map_nil, Nat.beq_eq, Nat.reduceAdd, eq_self, if_true]
  rw [show T.lst ((A.map fun r => r.map fun x => -x).map (row false)) = box false ((A.map fun r => r.map fun x => -x).map (row false)) from rfl, hmk]
  rfl
theorem run_scaled (A : List (List Int)) (w k : Int) (hk : k.natAbs ≤ 1000) (hA : Wd A w) (hM : A.length ≤ 1000) (hw : w ≤ 1000) (e : List Slot) : runF f_Grid_scaled [.v (gr A w), .v (.int k)] e = .ok (.sh (gr (A.map fun r => r.map fun x => k * x) w)) e := by
  refine runF_eq (ss := [.sh (gr A w), .sh (.int k)]) rfl rfl (e' := [.sh (gr A w), .sh (.int k), .un, .un]) ?_
  have inner : ∀ r ∈ A, dLc (dItems (dVar 2)) (gN 3) dYes (dOp fMul (dVar 1) (dVar 3)) [3] [.sh (gr A w), .sh (.int k), .sh (row true r), .un] = .ok (.fr (ti (r.map fun x => k * x))) [.sh (gr A w), .sh (.int k), .sh (row true r), .un] := by
    intro r hr
    have := hA r hr
    rw [← ti_map]
    refine dLc_map1 r T.int (fun x => .int (k * x)) [.sh (gr A w), .sh (.int k), .sh (row true r), .un] (fun x => [.sh (gr A w), .sh (.int k), .sh (row true r), .sh (.int x)]) (fun x => .sh (.int (k * x))) (by omega) ?_ fun x hx => ?_
    · simp only [row_items, ti, rb_ok, rb_ex, rb_of, dC, dVar, dOp, dUn, dTru, dTst, dNot, dAnd, dOr, dIf, dAndV, dOrV, dNotV, dNil, dCons, dTup, dLst, dIdxN, dSl, dNoPart, dPart, dNx, dSeq, dRet, dRetN, dDrop, dIfS, dSet, setSlot, dAsg, onNx, gN, gT, gsNil, gsCons, dItems, dRng, dFor, dCB, dIsi, dFld, dSetF, dCall, cVal, cLend, cNil, dMake, dMeth, runN, dPar, dPar.parE, dRaise, dApp, onOl, dSetI, putOl, setAt, Out.t, Out.slot, Slot.pk, Fl.out, asBl, asInt, truthT, fnD, Nat.beq_eq, eq_self, Nat.reduceEqDiff, Bool.and_eq_true, decide_eq_true_eq, and_self, and_true, true_and, Nat.reduceAdd, Nat.zero_add, decide_true, Bool.and_true, Bool.true_and, Nat.reduceLT, tb0, tb1, tb8, isi_row, isi_box, List.getElem?_cons_succ, List.getElem?_cons_zero, List.set_cons_succ, List.set_cons_zero, List.map_nil, List.map_cons, List.append_nil, List.nil_append, List.cons_append, List.length_cons, List.length_nil, List.replicate, Option.bind_some, Option.map_some, ↓reduceIte, if_true, Bool.not_true, Bool.not_false, Bool.false_eq_true, if_false]
    · have hm : mulFits k x = true := mulFits_l (by omega) x
      exact ⟨by simp only [rb_ok, rb_ex, rb_of, dC, dVar, dOp, dUn, dTru, dTst, dNot, dAnd, dOr, dIf, dAndV, dOrV, dNotV, dNil, dCons, dTup, dLst, dIdxN, dSl, dNoPart, dPart, dNx, dSeq, dRet, dRetN, dDrop, dIfS, dSet, setSlot, dAsg, onNx, gN, gT, gsNil, gsCons, dItems, dRng, dFor, dCB, dIsi, dFld, dSetF, dCall, cVal, cLend, cNil, dMake, dMeth, runN, dPar, dPar.parE, dRaise, dApp, onOl, dSetI, putOl, setAt, Out.t, Out.slot, Slot.pk, Fl.out, asBl, asInt, truthT, fnD, Nat.beq_eq, eq_self, Nat.reduceEqDiff, Bool.and_eq_true, decide_eq_true_eq, and_self, and_true, true_and, Nat.reduceAdd, Nat.zero_add, decide_true, Bool.and_true, Bool.true_and, Nat.reduceLT, tb0, tb1, tb8, isi_row, isi_box, List.getElem?_cons_succ, List.getElem?_cons_zero, List.set_cons_succ, List.set_cons_zero, List.map_nil, List.map_cons, List.append_nil, List.nil_append, List.cons_append, List.length_cons, List.length_nil, List.replicate, Option.bind_some, Option.map_some, ↓reduceIte, if_true, Bool.not_true, Bool.not_false, Bool.false_eq_true, if_false], by simp only [fMul, hm, rb_ok, rb_ex, rb_of, dC, dVar, dOp, dUn, dTru, dTst, dNot, dAnd, dOr, dIf, dAndV, dOrV, dNotV, dNil, dCons, dTup, dLst, dIdxN, dSl, dNoPart, dPart, dNx, dSeq, dRet, dRetN, dDrop, dIfS, dSet, setSlot, dAsg, onNx, gN, gT, gsNil, gsCons, dItems, dRng, dFor, dCB, dIsi, dFld, dSetF, dCall, cVal, cLend, cNil, dMake, dMeth, runN, dPar, dPar.parE, dRaise, dApp, onOl, dSetI, putOl, setAt, Out.t, Out.slot, Slot.pk, Fl.out, asBl, asInt, truthT, fnD, Nat.beq_eq, eq_self, Nat.reduceEqDiff, Bool.and_eq_true, decide_eq_true_eq, and_self, and_true, true_and, Nat.reduceAdd, Nat.zero_add, decide_true, Bool.and_true, Bool.true_and, Nat.reduceLT, tb0, tb1, tb8, isi_row, isi_box, List.getElem?_cons_succ, List.getElem?_cons_zero, List.set_cons_succ, List.set_cons_zero, List.map_nil, List.map_cons, List.append_nil, List.nil_append, List.cons_append, List.length_cons, List.length_nil, List.replicate, Option.bind_some, Option.map_some, ↓reduceIte, if_true, Bool.not_true, Bool.not_false, Bool.false_eq_true, if_false]⟩
  have outer : dLc (dItems (dFld (tab [(2, 0)]) (dVar 0))) (gN 2) dYes (dLc (dItems (dVar 2)) (gN 3) dYes (dOp fMul (dVar 1) (dVar 3)) [3]) [2] [.sh (gr A w), .sh (.int k), .un, .un] = .ok (.fr ((A.map fun r => r.map fun x => k * x).map (row false))) [.sh (gr A w), .sh (.int k), .un, .un] := by
    rw [← rows_of]
    refine dLc_map1 A (row true) (fun r => row false (r.map fun x => k * x)) [.sh (gr A w), .sh (.int k), .un, .un] (fun r => [.sh (gr A w), .sh (.int k), .sh (row true r), .un]) (fun r => .fr (ti (r.map fun x => k * x))) hM ?_ fun r hr => ?_
    · unfold dItems
      rw [fld0 (M := A) (w := w) rfl]
      simp only [items_tm, rb_ok, rb_ex, rb_of, dC, dVar, dOp, dUn, dTru, dTst, dNot, dAnd, dOr, dIf, dAndV, dOrV, dNotV, dNil, dCons, dTup, dLst, dIdxN, dSl, dNoPart, dPart, dNx, dSeq, dRet, dRetN, dDrop, dIfS, dSet, setSlot, dAsg, onNx, gN, gT, gsNil, gsCons, dItems, dRng, dFor, dCB, dIsi, dFld, dSetF, dCall, cVal, cLend, cNil, dMake, dMeth, runN, dPar, dPar.parE, dRaise, dApp, onOl, dSetI, putOl, setAt, Out.t, Out.slot, Slot.pk, Fl.out, asBl, asInt, truthT, fnD, Nat.beq_eq, eq_self, Nat.reduceEqDiff, Bool.and_eq_true, decide_eq_true_eq, and_self, and_true, true_and, Nat.reduceAdd, Nat.zero_add, decide_true, Bool.and_true, Bool.true_and, Nat.reduceLT, tb0, tb1, tb8, isi_row, isi_box, List.getElem?_cons_succ, List.getElem?_cons_zero, List.set_cons_succ, List.set_cons_zero, List.map_nil, List.map_cons, List.append_nil, List.nil_append, List.cons_append, List.length_cons, List.length_nil, List.replicate, Option.bind_some, Option.map_some, ↓reduceIte, if_true, Bool.not_true, Bool.not_false, Bool.false_eq_true, if_false]
    · exact ⟨by simp only [rb_ok, rb_ex, rb_of, dC, dVar, dOp, dUn, dTru, dTst, dNot, dAnd, dOr, dIf, dAndV, dOrV, dNotV, dNil, dCons, dTup, dLst, dIdxN, dSl, dNoPart, dPart, dNx, dSeq, dRet, dRetN, dDrop, dIfS, dSet, setSlot, dAsg, onNx, gN, gT, gsNil, gsCons, dItems, dRng, dFor, dCB, dIsi, dFld, dSetF, dCall, cVal, cLend, cNil, dMake, dMeth, runN, dPar, dPar.parE, dRaise, dApp, onOl, dSetI, putOl, setAt, Out.t, Out.slot, Slot.pk, Fl.out, asBl, asInt, truthT, fnD, Nat.beq_eq, eq_self, Nat.reduceEqDiff, Bool.and_eq_true, decide_eq_true_eq, and_self, and_true, true_and, Nat.reduceAdd, Nat.zero_add, decide_true, Bool.and_true, Bool.true_and, Nat.reduceLT, tb0, tb1, tb8, isi_row, isi_box, List.getElem?_cons_succ, List.getElem?_cons_zero, List.set_cons_succ, List.set_cons_zero, List.map_nil, List.map_cons, List.append_nil, List.nil_append, List.cons_append, List.length_cons, List.length_nil, List.replicate, Option.bind_some, Option.map_some, ↓reduceIte, if_true, Bool.not_true, Bool.not_false, Bool.false_eq_true, if_false], inner r hr⟩
  have hmk := mk_ok false false (M := A.map fun r => r.map fun x => k * x) (w := w) (wd_map (f := fun x => k * x) hA) (by rw [List.length_map]; exact hM) [.sh (gr A w), .sh (.int k), .un, .un]
  have f2 : dFld (tab [(2, 1)]) (dVar 0) [.sh (gr A w), .sh (.int k), .un, .un] = .ok (.sh (.int w)) [.sh (gr A w), .sh (.int k), .un, .un] := fld1 rfl
  unfold f_Grid_scaled b_Grid_scaled
  simp only [fnD, dRet, dMake, dCons, dNil, List.length_cons, List.length_nil, List.replicate, List.cons_append, List.nil_append, f2, rb_ok, outer, Out.t, List.append_nil, List.map_cons, List.map_nil, Nat.beq_eq, Nat.reduceAdd, eq_self, if_true]
  rw [show T.lst ((A.map fun r => r.map fun x => k * x).map (row false)) = box false ((A.map fun r => r.map fun x => k * x).map (row false)) from rfl, hmk]
  rfl
def colM (A : List (List Int)) (k : Nat) : List Int := A.map fun r => r.getD k 0
theorem idx_row {r : List Int} {k : Nat} (hk : k < r.length) : fIdx (row true r) (.int k) = some (.sh (.int (r.getD k 0))) := by
  show (atI (ti r) (k : Int)).map Out.sh = _
  have h : atI (ti r) (k : Int) = some (T.int (r.getD k 0)) := by
    unfold atI ixN
    rw [if_pos (by omega), if_pos (by unfold ti; rw [List.length_map]; omega)]
    show (ti r)[(k : Int).toNat]? = _
    rw [Int.toNat_natCast]
    unfold ti
    rw [List.getElem?_map, List.getElem?_eq_getElem hk, List.getD_eq_getElem?_getD, List.getElem?_eq_getElem hk]
    rfl
  rw [h]
  rfl
theorem big62 {w : Int} (h0 : 0 ≤ w) (h1 : w ≤ 1000) : rngIn w = true := by
  have e : ((2 : Int) ^ 62) = 4611686018427387904 := rfl
  unfold rngIn
  rw [e, decide_eq_true (by omega : -4611686018427387904 ≤ w), decide_eq_true (by omega : w < 4611686018427387904)]
  rfl
theorem rng0 {w : Int} (h0 : 0 ≤ w) (h1 : w ≤ 1000) : asRng [.int w] = some ((List.range w.toNat).map fun k => .int ((k : Nat) : Int)) := by
  show (if rngIn w then some (rngT 0 w.toNat) else none) = _
  rw [if_pos (big62 h0 h1)]
  unfold rngT
  congr 1
  refine List.map_congr_left fun k _ => ?_
  rw [Int.zero_add]
theorem dRng_of {d : DA} {e e1 : List Slot} {ts us : List T} (h : d e = .ok ts e1) (hr : asRng ts = some us) : dRng d e = .ok us e1 := by
  have h2 : dRng d e = (d e).bind fun ts e1 => Res.of (asRng ts) e1 := rfl
  rw [h2, h]
  have h3 : (Res.ok ts e1).bind (fun ts e1 => Res.of (asRng ts) e1) = Res.of (asRng ts) e1 := rfl
  rw [h3, hr]
  rfl
def trM (A : List (List Int)) (w : Nat) : List (List Int) := (List.range w).map fun k => colM A k
theorem wd_tr (A : List (List Int)) (w : Nat) : Wd (trM A w) A.length := by
  intro r hr
  obtain ⟨p, hp, rfl⟩ := List.mem_map.mp hr
  unfold colM
  rw [List.length_map]
theorem tr_inner (A : List (List Int)) (w : Nat) (hA : Wd A w) (hM : A.length ≤ 1000) (k : Nat) (hk : k < w) : dLc (dItems (dFld (tab [(2, 0)]) (dVar 0))) (gN 2) dYes (dIdxN 2 (dVar 1)) [2] [.sh (gr A w), .sh (.int k), .un] = .ok (.fr (ti (colM A k))) [.sh (gr A w), .sh (.int k), .un] := by
  unfold colM
  rw [← ti_mapA]
  refine dLc_map1 A (row true) (fun r => .int (r.getD k 0)) [.sh (gr A w), .sh (.int k), .un] (fun r => [.sh (gr A w), .sh (.int k), .sh (row true r)]) (fun r => .sh (.int (r.getD k 0))) hM ?_ fun r hr => ?_
  · unfold dItems
    rw [fld0 (M := A) (w := w) rfl]
    simp only [items_tm, rb_ok, rb_ex, rb_of, dC, dVar, dOp, dUn, dTru, dTst, dNot, dAnd, dOr, dIf, dAndV, dOrV, dNotV, dNil, dCons, dTup, dLst, dIdxN, dSl, dNoPart, dPart, dNx, dSeq, dRet, dRetN, dDrop, dIfS, dSet, setSlot, dAsg, onNx, gN, gT, gsNil, gsCons, dItems, dRng, dFor, dCB, dIsi, dFld, dSetF, dCall, cVal, cLend, cNil, dMake, dMeth, runN, dPar, dPar.parE, dRaise, dApp, onOl, dSetI, putOl, setAt, Out.t, Out.slot, Slot.pk, Fl.out, asBl, asInt, truthT, fnD, Nat.beq_eq, eq_self, Nat.reduceEqDiff, Bool.and_eq_true, decide_eq_true_eq, and_self, and_true, true_and, Nat.reduceAdd, Nat.zero_add, decide_true, Bool.and_true, Bool.true_and, Nat.reduceLT, tb0, tb1, tb8, isi_row, isi_box, List.getElem?_cons_succ, List.getElem?_cons_zero, List.set_cons_succ, List.set_cons_zero, List.map_nil, List.map_cons, List.append_nil, List.nil_append, List.cons_append, List.length_cons, List.length_nil, List.replicate, Option.bind_some, Option.map_some, ↓reduceIte, if_true, Bool.not_true, Bool.not_false, Bool.false_eq_true, if_false]
  · have := hA r hr
    have hi := idx_row (r := r) (k := k) (by omega)
    exact ⟨by simp only [rb_ok, rb_ex, rb_of, dC, dVar, dOp, dUn, dTru, dTst, dNot, dAnd, dOr, dIf, dAndV, dOrV, dNotV, dNil, dCons, dTup, dLst, dIdxN, dSl, dNoPart, dPart, dNx, dSeq, dRet, dRetN, dDrop, dIfS, dSet, setSlot, dAsg, onNx, gN, gT, gsNil, gsCons, dItems, dRng, dFor, dCB, dIsi, dFld, dSetF, dCall, cVal, cLend, cNil, dMake, dMeth, runN, dPar, dPar.parE, dRaise, dApp, onOl, dSetI, putOl, setAt, Out.t, Out.slot, Slot.pk, Fl.out, asBl, asInt, truthT, fnD, Nat.beq_eq, eq_self, Nat.reduceEqDiff, Bool.and_eq_true, decide_eq_true_eq, and_self, and_true, true_and, Nat.reduceAdd, Nat.zero_add, decide_true, Bool.and_true, Bool.true_and, Nat.reduceLT, tb0, tb1, tb8, isi_row, isi_box, List.getElem?_cons_succ, List.getElem?_cons_zero, List.set_cons_succ, List.set_cons_zero, List.map_nil, List.map_cons, List.append_nil, List.nil_append, List.cons_append, List.length_cons, List.length_nil, List.replicate, Option.bind_some, Option.map_some, ↓reduceIte, if_true, Bool.not_true, Bool.not_false, Bool.false_eq_true, if_false], by simp only [hi, rb_ok, rb_ex, rb_of, dC, dVar, dOp, dUn, dTru, dTst, dNot, dAnd, dOr, dIf, dAndV, dOrV, dNotV, dNil, dCons, dTup, dLst, dIdxN, dSl, dNoPart, dPart, dNx, dSeq, dRet, dRetN, dDrop, dIfS, dSet, setSlot, dAsg, onNx, gN, gT, gsNil, gsCons, dItems, dRng, dFor, dCB, dIsi, dFld, dSetF, dCall, cVal, cLend, cNil, dMake, dMeth, runN, dPar, dPar.parE, dRaise, dApp, onOl, dSetI, putOl, setAt, Out.t, Out.slot, Slot.pk, Fl.out, asBl, asInt, truthT, fnD, Nat.beq_eq, eq_self, Nat.reduceEqDiff, Bool.and_eq_true, decide_eq_true_eq, and_self, and_true, true_and, Nat.reduceAdd, Nat.zero_add, decide_true, Bool.and_true, Bool.true_and, Nat.reduceLT, tb0, tb1, tb8, isi_row, isi_box, List.getElem?_cons_succ, List.getElem?_cons_zero, List.set_cons_succ, List.set_cons_zero, List.map_nil, List.map_cons, List.append_nil, List.nil_append, List.cons_append, List.length_cons, List.length_nil, List.replicate, Option.bind_some, Option.map_some, ↓reduceIte, if_true, Bool.not_true, Bool.not_false, Bool.false_eq_true, if_false]⟩
theorem tr_outer (A : List (List Int)) (w : Nat) (hA : Wd A w) (hM : A.length ≤ 1000) (hw : w ≤ 1000) : dLc (dRng (dCons (dFld (tab [(2, 1)]) (dVar 0)) dNil)) (gN 1) dYes (dLc (dItems (dFld (tab [(2, 0)]) (dVar 0))) (gN 2) dYes (dIdxN 2 (dVar 1)) [2]) [1] [.sh (gr A w), .un, .un] = .ok (.fr ((trM A w).map (row false))) [.sh (gr A w), .un, .un] := by
  have hr := rng0 (w := (w : Int)) (by omega) (by omega)
  rw [Int.toNat_natCast] at hr
  unfold trM
  rw [← rows_of]
  refine dLc_map1 (List.range w) (fun k => .int ((k : Nat) : Int)) (fun k => row false (colM A k)) [.sh (gr A w), .un, .un] (fun k => [.sh (gr A w), .sh (.int ((k : Nat) : Int)), .un]) (fun k => .fr (ti (colM A k))) (by rw [List.length_range]; exact hw) ?_ fun k hk => ?_
  · refine dRng_of (ts := [.int w]) ?_ hr
    unfold dCons
    rw [fld1 (M := A) (w := w) rfl]
    simp only [dNil, rb_ok, Out.t]
  · exact ⟨by simp only [gN, setSlot, List.getElem?_cons_succ, List.getElem?_cons_zero, Slot.pk, List.set_cons_succ, List.set_cons_zero], tr_inner A w hA hM k (List.mem_range.mp hk)⟩
theorem run_transposed (A : List (List Int)) (w : Nat) (hA : Wd A w) (hM : A.length ≤ 1000) (hw : w ≤ 1000) (e : List Slot) : runF f_Grid_transposed [.v (gr A w)] e = .ok (.sh (gr (trM A w) A.length)) e := by
  refine runF_eq (ss := [.sh (gr A w)]) rfl rfl (e' := [.sh (gr A w), .un, .un]) ?_
  have outer := tr_outer A w hA hM hw
  have hmk := mk_ok false false (M := trM A w) (w := A.length) (wd_tr A w) (by unfold trM; rw [List.length_map, List.length_range]; exact hw) [.sh (gr A w), .un, .un]
  have f2 : dFld (tab [(2, 0)]) (dVar 0) [.sh (gr A w), .un, .un] = .ok (.sh (tm A)) [.sh (gr A w), .un, .un] := fld0 rfl
  unfold f_Grid_transposed b_Grid_transposed
  simp only [fnD, dRet, dMake, dCons, dNil, dCB, List.length_cons, List.length_nil, List.replicate, List.cons_append, List.nil_append, f2, rb_ok, rb_of, len_tm, outer, Out.t, List.append_nil, List.map_cons, List.map_nil, Nat.beq_eq, Nat.reduceAdd, eq_self, if_true]
  rw [show T.lst ((trM A w).map (row false)) = box false ((trM A w).map (row false)) from rfl, hmk]
  rfl
end L2.VD.K01

namespace L2.VD.K01
open PySem PySem.Spec PyProof.Rows
theorem run_times (A : List (List Int)) (w : Int) (r : List Int) (hA : Wd A w) (hS : ∀ q ∈ A, Sm q) (hM : A.length ≤ 1000) (hw : w ≤ 1000) (hr : (r.length : Int) = w) (e : List Slot) : runF f_Grid_times [.v (gr A w), .v (row true r)] e = .ok (.sh (row true (A.map fun q => dotI q r))) e := by
  refine runF_eq (ss := [.sh (gr A w), .sh (row true r)]) rfl rfl (e' := [.sh (gr A w), .sh (row true r), .un]) ?_
  have outer : dLc (dItems (dFld (tab [(2, 0)]) (dVar 0))) (gN 2) dYes (dCall 2 f_dot [] (cVal (dVar 2) (cVal (dVar 1) cNil))) [2] [.sh (gr A w), .sh (row true r), .un] = .ok (.fr (ti (A.map fun q => dotI q r))) [.sh (gr A w), .sh (row true r), .un] := by
    rw [← ti_mapA]
    refine dLc_map1 A (row true) (fun q => .int (dotI q r)) [.sh (gr A w), .sh (row true r), .un] (fun q => [.sh (gr A w), .sh (row true r), .sh (row true q)]) (fun q => .sh (.int (dotI q r))) hM ?_ fun q hq => ?_
    · unfold dItems
      rw [fld0 (M := A) (w := w) rfl]
      simp only [items_tm, rb_ok, rb_ex, rb_of, dC, dVar, dOp, dUn, dTru, dTst, dNot, dAnd, dOr, dIf, dAndV, dOrV, dNotV, dNil, dCons, dTup, dLst, dIdxN, dSl, dNoPart, dPart, dNx, dSeq, dRet, dRetN, dDrop, dIfS, dSet, setSlot, dAsg, onNx, gN, gT, gsNil, gsCons, dItems, dRng, dFor, dCB, dIsi, dFld, dSetF, dCall, cVal, cLend, cNil, dMake, dMeth, runN, dPar, dPar.parE, dRaise, dApp, onOl, dSetI, putOl, setAt, Out.t, Out.slot, Slot.pk, Fl.out, asBl, asInt, truthT, fnD, Nat.beq_eq, eq_self, Nat.reduceEqDiff, Bool.and_eq_true, decide_eq_true_eq, and_self, and_true, true_and, Nat.reduceAdd, Nat.zero_add, decide_true, Bool.and_true, Bool.true_and, Nat.reduceLT, tb0, tb1, tb8, isi_row, isi_box, List.getElem?_cons_succ, List.getElem?_cons_zero, List.set_cons_succ, List.set_cons_zero, List.map_nil, List.map_cons, List.append_nil, List.nil_append, List.cons_append, List.length_cons, List.length_nil, List.replicate, Option.bind_some, Option.map_some, ↓reduceIte, if_true, Bool.not_true, Bool.not_false, Bool.false_eq_true, if_false]
    · have := hA q hq
      exact ⟨by simp only [rb_ok, rb_ex, rb_of, dC, dVar, dOp, dUn, dTru, dTst, dNot, dAnd, dOr, dIf, dAndV, dOrV, dNotV, dNil, dCons, dTup, dLst, dIdxN, dSl, dNoPart, dPart, dNx, dSeq, dRet, dRetN, dDrop, dIfS, dSet, setSlot, dAsg, onNx, gN, gT, gsNil, gsCons, dItems, dRng, dFor, dCB, dIsi, dFld, dSetF, dCall, cVal, cLend, cNil, dMake, dMeth, runN, dPar, dPar.parE, dRaise, dApp, onOl, dSetI, putOl, setAt, Out.t, Out.slot, Slot.pk, Fl.out, asBl, asInt, truthT, fnD, Nat.beq_eq, eq_self, Nat.reduceEqDiff, Bool.and_eq_true, decide_eq_true_eq, and_self, and_true, true_and, Nat.reduceAdd, Nat.zero_add, decide_true, Bool.and_true, Bool.true_and, Nat.reduceLT, tb0, tb1, tb8, isi_row, isi_box, List.getElem?_cons_succ, List.getElem?_cons_zero, List.set_cons_succ, List.set_cons_zero, List.map_nil, List.map_cons, List.append_nil, List.nil_append, List.cons_append, List.length_cons, List.length_nil, List.replicate, Option.bind_some, Option.map_some, ↓reduceIte, if_true, Bool.not_true, Bool.not_false, Bool.false_eq_true, if_false], by simp only [run_dot true true q r (hS q hq) (by omega), rb_ok, rb_ex, rb_of, dC, dVar, dOp, dUn, dTru, dTst, dNot, dAnd, dOr, dIf, dAndV, dOrV, dNotV, dNil, dCons, dTup, dLst, dIdxN, dSl, dNoPart, dPart, dNx, dSeq, dRet, dRetN, dDrop, dIfS, dSet, setSlot, dAsg, onNx, gN, gT, gsNil, gsCons, dItems, dRng, dFor, dCB, dIsi, dFld, dSetF, dCall, cVal, cLend, cNil, dMake, dMeth, runN, dPar, dPar.parE, dRaise, dApp, onOl, dSetI, putOl, setAt, Out.t, Out.slot, Slot.pk, Fl.out, asBl, asInt, truthT, fnD, Nat.beq_eq, eq_self, Nat.reduceEqDiff, Bool.and_eq_true, decide_eq_true_eq, and_self, and_true, true_and, Nat.reduceAdd, Nat.zero_add, decide_true, Bool.and_true, Bool.true_and, Nat.reduceLT, tb0, tb1, tb8, isi_row, isi_box, List.getElem?_cons_succ, List.getElem?_cons_zero, List.set_cons_succ, List.set_cons_zero, List.map_nil, List.map_cons, List.append_nil, List.nil_append, List.cons_append, List.length_cons, List.length_nil, List.replicate, Option.bind_some, Option.map_some, ↓reduceIte, if_true, Bool.not_true, Bool.not_false, Bool.false_eq_true, if_false]⟩
  have hn : dLenN 1 [.sh (gr A w), .sh (row true r), .un] = .ok (.sh (.int r.length)) [.sh (gr A w), .sh (row true r), .un] := lenN_row (k := true) rfl
  have h1 : fNe (.int r.length) (.int w) = some (.sh (.bl false)) := by rw [ne_int, hr]; simp
  have f2 : dFld (tab [(2, 1)]) (dVar 0) [.sh (gr A w), .sh (row true r), .un] = .ok (.sh (.int w)) [.sh (gr A w), .sh (row true r), .un] := fld1 rfl
  unfold f_Grid_times b_Grid_times
  simp only [fnD, dSeq, dIfS, dTst, dOp, dCB, dCons, dNil, dRet, List.replicate, List.cons_append, List.nil_append, hn, f2, rb_ok, rb_of, Out.t, h1, asBl, Bool.false_eq_true, if_false, dNx, outer, fTuple]
  rfl
def subM (A B : List (List Int)) : List (List Int) := (A.zip B).map fun p => (p.1.zip p.2).map fun q => q.1 - q.2
theorem run_sub (A B : List (List Int)) (w : Int) (hA : Wd A w) (hB : Wd B w) (hl : A.length = B.length) (hM : A.length ≤ 1000) (hw : w ≤ 1000) (e : List Slot) : runF f_Grid_sub [.v (gr A w), .v (gr B w)] e = .ok (.sh (gr (subM A B) w)) e := by
  refine runF_eq (ss := [.sh (gr A w), .sh (gr B w)]) rfl rfl (e' := [.sh (gr A w), .sh (gr B w), .un, .un, .un, .un]) ?_
  have h1 : fNe (.int A.length) (.int B.length) = some (.sh (.bl false)) := by rw [ne_int, hl]; simp
  have h2 : fNe (.int w) (.int w) = some (.sh (.bl false)) := by rw [ne_int]; simp
  have inner : ∀ (p : List Int × List Int), p ∈ A.zip B → dLc (dZip (dCons (dVar 2) (dCons (dVar 3) dNil))) (gT 2 (gsCons (gN 4) (gsCons (gN 5) gsNil))) dYes (dOp fSub (dVar 4) (dVar 5)) [4, 5] [.sh (gr A w), .sh (gr B w), .sh (row true p.1), .sh (row true p.2), .un, .un] = .ok (.fr (ti ((p.1.zip p.2).map fun q => q.1 - q.2))) [.sh (gr A w), .sh (gr B w), .sh (row true p.1), .sh (row true p.2), .un, .un] := by
    intro p hp
    have hp1 := hA p.1 (List.of_mem_zip hp).1
    rw [← ti_zip]
    refine dLc_map1 (p.1.zip p.2) (fun q => .tup [.int q.1, .int q.2]) (fun q => .int (q.1 - q.2)) [.sh (gr A w), .sh (gr B w), .sh (row true p.1), .sh (row true p.2), .un, .un] (fun q => [.sh (gr A w), .sh (gr B w), .sh (row true p.1), .sh (row true p.2), .sh (.int q.1), .sh (.int q.2)]) (fun q => .sh (.int (q.1 - q.2))) (by rw [List.length_zip]; omega) ?_ fun q hq => ?_
    · simp only [dZip, asZip, seq_row, zip_ti, rb_ok, rb_ex, rb_of, dC, dVar, dOp, dUn, dTru, dTst, dNot, dAnd, dOr, dIf, dAndV, dOrV, dNotV, dNil, dCons, dTup, dLst, dIdxN, dSl, dNoPart, dPart, dNx, dSeq, dRet, dRetN, dDrop, dIfS, dSet, setSlot, dAsg, onNx, gN, gT, gsNil, gsCons, dItems, dRng, dFor, dCB, dIsi, dFld, dSetF, dCall, cVal, cLend, cNil, dMake, dMeth, runN, dPar, dPar.parE, dRaise, dApp, onOl, dSetI, putOl, setAt, Out.t, Out.slot, Slot.pk, Fl.out, asBl, asInt, truthT, fnD, Nat.beq_eq, eq_self, Nat.reduceEqDiff, Bool.and_eq_true, decide_eq_true_eq, and_self, and_true, true_and, Nat.reduceAdd, Nat.zero_add, decide_true, Bool.and_true, Bool.true_and, Nat.reduceLT, tb0, tb1, tb8, isi_row, isi_box, List.getElem?_cons_succ, List.getElem?_cons_zero, List.set_cons_succ, List.set_cons_zero, List.map_nil, List.map_cons, List.append_nil, List.nil_append, List.cons_append, List.length_cons, List.length_nil, List.replicate, Option.bind_some, Option.map_some, ↓reduceIte, if_true, Bool.not_true, Bool.not_false, Bool.false_eq_true, if_false]
    · exact ⟨by simp only [rb_ok, rb_ex, rb_of, dC, dVar, dOp, dUn, dTru, dTst, dNot, dAnd, dOr, dIf, dAndV, dOrV, dNotV, dNil, dCons, dTup, dLst, dIdxN, dSl, dNoPart, dPart, dNx, dSeq, dRet, dRetN, dDrop, dIfS, dSet, setSlot, dAsg, onNx, gN, gT, gsNil, gsCons, dItems, dRng, dFor, dCB, dIsi, dFld, dSetF, dCall, cVal, cLend, cNil, dMake, dMeth, runN, dPar, dPar.parE, dRaise, dApp, onOl, dSetI, putOl, setAt, Out.t, Out.slot, Slot.pk, Fl.out, asBl, asInt, truthT, fnD, Nat.beq_eq, eq_self, Nat.reduceEqDiff, Bool.and_eq_true, decide_eq_true_eq, and_self, and_true, true_and, Nat.reduceAdd, Nat.zero_add, decide_true, Bool.and_true, Bool.true_and, Nat.reduceLT, tb0, tb1, tb8, isi_row, isi_box, List.getElem?_cons_succ, List.getElem?_cons_zero, List.set_cons_succ, List.set_cons_zero, List.map_nil, List.map_cons, List.append_nil, List.nil_append, List.cons_append, List.length_cons, List.length_nil, List.replicate, Option.bind_some, Option.map_some, ↓reduceIte, if_true, Bool.not_true, Bool.not_false, Bool.false_eq_true, if_false], by simp only [fSub, rb_ok, rb_ex, rb_of, dC, dVar, dOp, dUn, dTru, dTst, dNot, dAnd, dOr, dIf, dAndV, dOrV, dNotV, dNil, dCons, dTup, dLst, dIdxN, dSl, dNoPart, dPart, dNx, dSeq, dRet, dRetN, dDrop, dIfS, dSet, setSlot, dAsg, onNx, gN, gT, gsNil, gsCons, dItems, dRng, dFor, dCB, dIsi, dFld, dSetF, dCall, cVal, cLend, cNil, dMake, dMeth, runN, dPar, dPar.parE, dRaise, dApp, onOl, dSetI, putOl, setAt, Out.t, Out.slot, Slot.pk, Fl.out, asBl, asInt, truthT, fnD, Nat.beq_eq, eq_self, Nat.reduceEqDiff, Bool.and_eq_true, decide_eq_true_eq, and_self, and_true, true_and, Nat.reduceAdd, Nat.zero_add, decide_true, Bool.and_true, Bool.true_and, Nat.reduceLT, tb0, tb1, tb8, isi_row, isi_box, List.getElem?_cons_succ, List.getElem?_cons_zero, List.set_cons_succ, List.set_cons_zero, List.map_nil, List.map_cons, List.append_nil, List.nil_append, List.cons_append, List.length_cons, List.length_nil, List.replicate, Option.bind_some, Option.map_some, ↓reduceIte, if_true, Bool.not_true, Bool.not_false, Bool.false_eq_true, if_false]⟩
  have outer : dLc (dZip (dCons (dFld (tab [(2, 0)]) (dVar 0)) (dCons (dFld (tab [(2, 0)]) (dVar 1)) dNil))) (gT 2 (gsCons (gN 2) (gsCons (gN 3) gsNil))) dYes (dLc (dZip (dCons (dVar 2) (dCons (dVar 3) dNil))) (gT 2 (gsCons (gN 4) (gsCons (gN 5) gsNil))) dYes (dOp fSub (dVar 4) (dVar 5)) [4, 5]) [2, 3] [.sh (gr A w), .sh (gr B w), .un, .un, .un, .un] = .ok (.fr ((subM A B).map (row false))) [.sh (gr A w), .sh (gr B w), .un, .un, .un, .un] := by
    unfold subM
    rw [← rows_of]
    refine dLc_map1 (A.zip B) (fun p => .tup [row true p.1, row true p.2]) (fun p => row false ((p.1.zip p.2).map fun q => q.1 - q.2)) [.sh (gr A w), .sh (gr B w), .un, .un, .un, .un] (fun p => [.sh (gr A w), .sh (gr B w), .sh (row true p.1), .sh (row true p.2), .un, .un]) (fun p => .fr (ti ((p.1.zip p.2).map fun q => q.1 - q.2))) (by rw [List.length_zip]; omega) ?_ fun p hp => ?_
    · simp only [dZip, dCons, dNil]
      rw [fld0 (M := A) (w := w) rfl]
      simp only [rb_ok]
      rw [fld0 (M := B) (w := w) rfl]
      simp only [asZip, seq_tm, zip_rows, rb_ok, rb_ex, rb_of, dC, dVar, dOp, dUn, dTru, dTst, dNot, dAnd, dOr, dIf, dAndV, dOrV, dNotV, dNil, dCons, dTup, dLst, dIdxN, dSl, dNoPart, dPart, dNx, dSeq, dRet, dRetN, dDrop, dIfS, dSet, setSlot, dAsg, onNx, gN, gT, gsNil, gsCons, dItems, dRng, dFor, dCB, dIsi, dFld, dSetF, dCall, cVal, cLend, cNil, dMake, dMeth, runN, dPar, dPar.parE, dRaise, dApp, onOl, dSetI, putOl, setAt, Out.t, Out.slot, Slot.pk, Fl.out, asBl, asInt, truthT, fnD, Nat.beq_eq, eq_self, Nat.reduceEqDiff, Bool.and_eq_true, decide_eq_true_eq, and_self, and_true, true_and, Nat.reduceAdd, Nat.zero_add, decide_true, Bool.and_true, Bool.true_and, Nat.reduceLT, tb0, tb1, tb8, isi_row, isi_box, List.getElem?_cons_succ, List.getElem?_cons_zero, List.set_cons_succ, List.set_cons_zero, List.map_nil, List.map_cons, List.append_nil, List.nil_append, List.cons_append, List.length_cons, List.length_nil, List.replicate, Option.bind_some, Option.map_some, ↓reduceIte, if_true, Bool.not_true, Bool.not_false, Bool.false_eq_true, if_false]
    · exact ⟨by simp only [rb_ok, rb_ex, rb_of, dC, dVar, dOp, dUn, dTru, dTst, dNot, dAnd, dOr, dIf, dAndV, dOrV, dNotV, dNil, dCons, dTup, dLst, dIdxN, dSl, dNoPart, dPart, dNx, dSeq, dRet, dRetN, dDrop, dIfS, dSet, setSlot, dAsg, onNx, gN, gT, gsNil, gsCons, dItems, dRng, dFor, dCB, dIsi, dFld, dSetF, dCall, cVal, cLend, cNil, dMake, dMeth, runN, dPar, dPar.parE, dRaise, dApp, onOl, dSetI, putOl, setAt, Out.t, Out.slot, Slot.pk, Fl.out, asBl, asInt, truthT, fnD, Nat.beq_eq, eq_self, Nat.reduceEqDiff, Bool.and_eq_true, decide_eq_true_eq, and_self, and_true, true_and, Nat.reduceAdd, Nat.zero_add, decide_true, Bool.and_true, Bool.true_and, Nat.reduceLT, tb0, tb1, tb8, isi_row, isi_box, List.getElem?_cons_succ, List.getElem?_cons_zero, List.set_cons_succ, List.set_cons_zero, List.map_nil, List.map_cons, List.append_nil, List.nil_append, List.cons_append, List.length_cons, List.length_nil, List.replicate, Option.bind_some, Option.map_some, ↓reduceIte, if_true, Bool.not_true, Bool.not_false, Bool.false_eq_true, if_false], inner p hp⟩
  have hmk := mk_ok false false (M := subM A B) (w := w) (wd_zip hA hB) (by unfold subM; rw [List.length_map, List.length_zip]; omega) [.sh (gr A w), .sh (gr B w), .un, .un, .un, .un]
  have f0 : dFld (tab [(2, 0)]) (dVar 0) [.sh (gr A w), .sh (gr B w), .un, .un, .un, .un] = .ok (.sh (tm A)) [.sh (gr A w), .sh (gr B w), .un, .un, .un, .un] := fld0 rfl
  have f1 : dFld (tab [(2, 0)]) (dVar 1) [.sh (gr A w), .sh (gr B w), .un, .un, .un, .un] = .ok (.sh (tm B)) [.sh (gr A w), .sh (gr B w), .un, .un, .un, .un] := fld0 rfl
  have f2 : dFld (tab [(2, 1)]) (dVar 0) [.sh (gr A w), .sh (gr B w), .un, .un, .un, .un] = .ok (.sh (.int w)) [.sh (gr A w), .sh (gr B w), .un, .un, .un, .un] := fld1 rfl
  have f3 : dFld (tab [(2, 1)]) (dVar 1) [.sh (gr A w), .sh (gr B w), .un, .un, .un, .un] = .ok (.sh (.int w)) [.sh (gr A w), .sh (gr B w), .un, .un, .un, .un] := fld1 rfl
  unfold f_Grid_sub b_Grid_sub
  simp only [fnD, dSeq, dIfS, dOr, dTst, dOp, dCB, dCons, dNil, dRet, dMake, List.length_cons, List.length_nil, List.replicate, List.cons_append, List.nil_append, f0, f1, f2, f3, rb_ok, len_tm, rb_of, Out.t, h1, h2, asBl, Bool.false_eq_true, if_false, dNx, outer, List.append_nil, List.map_cons, List.map_nil, Nat.beq_eq, Nat.reduceAdd, eq_self, if_true]
  rw [show T.lst ((subM A B).map (row false)) = box false ((subM A B).map (row false)) from rfl, hmk]
  rfl

theorem run_stacked (A B : List (List Int)) (w : Int) (hA : Wd A w) (hB : Wd B w) (hl : A.length + B.length ≤ 1000) (e : List Slot) : runF f_Grid_stacked [.v (gr A w), .v (gr B w)] e = .ok (.sh (gr (A ++ B) w)) e := by
  refine runF_eq (ss := [.sh (gr A w), .sh (gr B w)]) rfl rfl (e' := [.sh (gr A w), .sh (gr B w)]) ?_
  have h2 : fNe (.int w) (.int w) = some (.sh (.bl false)) := by rw [ne_int]; simp
  have f0 : dFld (tab [(2, 0)]) (dVar 0) [.sh (gr A w), .sh (gr B w)] = .ok (.sh (tm A)) [.sh (gr A w), .sh (gr B w)] := fld0 rfl
  have f1 : dFld (tab [(2, 0)]) (dVar 1) [.sh (gr A w), .sh (gr B w)] = .ok (.sh (tm B)) [.sh (gr A w), .sh (gr B w)] := fld0 rfl
  have f2 : dFld (tab [(2, 1)]) (dVar 0) [.sh (gr A w), .sh (gr B w)] = .ok (.sh (.int w)) [.sh (gr A w), .sh (gr B w)] := fld1 rfl
  have f3 : dFld (tab [(2, 1)]) (dVar 1) [.sh (gr A w), .sh (gr B w)] = .ok (.sh (.int w)) [.sh (gr A w), .sh (gr B w)] := fld1 rfl
  have hadd : fAdd (tm A) (tm B) = some (.sh (tm (A ++ B))) := by
    unfold tm
    show (if fits ((A.map (row true)).length + (B.map (row true)).length) then some (Out.sh (.tup (A.map (row true) ++ B.map (row true)))) else none) = _
    rw [if_pos (Nat.ble_eq_true_of_le (by rw [List.length_map, List.length_map]; omega)), List.map_append]
  have hmk := mk_ok true true (M := A ++ B) (w := w) (fun r hr => (List.mem_append.mp hr).elim (hA r) (hB r)) (by rw [List.length_append]; exact hl) [.sh (gr A w), .sh (gr B w)]
  unfold f_Grid_stacked b_Grid_stacked
  simp only [fnD, dSeq, dIfS, dTst, dOp, dCons, dNil, dRet, dMake, List.length_cons, List.length_nil, List.replicate, List.cons_append, List.nil_append, f0, f1, f2, f3, rb_ok, rb_of, Out.t, h2, asBl, Bool.false_eq_true, if_false, dNx, hadd, List.append_nil, List.map_cons, List.map_nil, Nat.beq_eq, Nat.reduceAdd, eq_self, if_true]
  rw [show tm (A ++ B) = box true ((A ++ B).map (row true)) from rfl, hmk]
  rfl
theorem stacked_bad (A B : List (List Int)) (w v : Int) (h : w ≠ v) (e : List Slot) : runF f_Grid_stacked [.v (gr A w), .v (gr B v)] e = .ex ⟨1, []⟩ e := by
  have h2 : fNe (.int w) (.int v) = some (.sh (.bl true)) := by rw [ne_int]; simp [h]
  have f2 : dFld (tab [(2, 1)]) (dVar 0) [.sh (gr A w), .sh (gr B v)] = .ok (.sh (.int w)) [.sh (gr A w), .sh (gr B v)] := fld1 rfl
  have f3 : dFld (tab [(2, 1)]) (dVar 1) [.sh (gr A w), .sh (gr B v)] = .ok (.sh (.int v)) [.sh (gr A w), .sh (gr B v)] := fld1 rfl
  have h0 : f_Grid_stacked [.sh (gr A w), .sh (gr B v)] = .ex ⟨1, []⟩ [.sh (gr A w), .sh (gr B v)] := by
    unfold f_Grid_stacked b_Grid_stacked
    simp only [fnD, dSeq, dIfS, dTst, dOp, List.replicate, List.append_nil, f2, f3, rb_ok, rb_of, Out.t, h2, asBl, if_true, dRaise, rb_ex]
  unfold runF
  show (if nodupB (lentOf [AV.v (gr A w), AV.v (gr B v)]) then mapE _ (f_Grid_stacked [.sh (gr A w), .sh (gr B v)]) else .bad) = _
  rw [h0]
  rfl
theorem lenO_nat (n : Nat) (h : n ≤ 1000) : lenO (.sh (.int n)) = some (.sh (.int n)) := by
  have h1 : decide (0 ≤ (n : Int)) = true := decide_eq_true (by omega)
  have h2 : decide ((n : Int) < 1000000) = true := decide_eq_true (by omega)
  unfold lenO
  show (if decide (0 ≤ (n : Int)) && decide ((n : Int) < 1000000) then _ else _) = _
  rw [h1, h2]
  rfl
theorem len_own (A : List (List Int)) (w : Int) (hA : A.length ≤ 1000) : fLenO (tab [(2, f_Grid_len)]) [gr A w] = some (.sh (.int A.length)) := by
  have h : f_Grid_len [.sh (gr A w)] = .ok (.sh (.int A.length)) [.sh (gr A w)] := by
    have f0 : dFld (tab [(2, 0)]) (dVar 0) [.sh (gr A w)] = .ok (.sh (tm A)) [.sh (gr A w)] := fld0 rfl
    unfold f_Grid_len b_Grid_len
    simp only [fnD, dRet, dCB, dCons, dNil, List.replicate, List.append_nil, f0, rb_ok, rb_of, Out.t, len_tm]
    rfl
  have e1 : fLenO (tab [(2, f_Grid_len)]) [gr A w] = (tab [(2, f_Grid_len)] 2).bind (fun F => (fOwn1 F (gr A w)).bind lenO) := rfl
  have e2 : tab [(2, f_Grid_len)] 2 = some f_Grid_len := rfl
  have e3 : fOwn1 f_Grid_len (gr A w) = some (.sh (.int A.length)) := by
    unfold fOwn1
    rw [h]
  rw [e1, e2, Option.bind_some, e3, Option.bind_some]
  exact lenO_nat A.length hA
theorem run_square (A : List (List Int)) (w : Int) (e : List Slot) : runF f_Grid_is_square [.v (gr A w)] e = .ok (.sh (.bl (decide ((A.length : Int) = w)))) e := by
  refine runF_eq (ss := [.sh (gr A w)]) rfl rfl (e' := [.sh (gr A w)]) ?_
  have f0 : dFld (tab [(2, 0)]) (dVar 0) [.sh (gr A w)] = .ok (.sh (tm A)) [.sh (gr A w)] := fld0 rfl
  have f1 : dFld (tab [(2, 1)]) (dVar 0) [.sh (gr A w)] = .ok (.sh (.int w)) [.sh (gr A w)] := fld1 rfl
  unfold f_Grid_is_square b_Grid_is_square
  simp only [fnD, dRet, dOp, dCB, dCons, dNil, List.replicate, List.append_nil, f0, f1, rb_ok, rb_of, Out.t, len_tm, eq_int]
  rfl
theorem before_inner (A : List (List Int)) (w : Nat) (r : List Int) (hA : Wd A w) (hM : A.length ≤ 1000) (k : Nat) (hk : k < w) : dLc (dItems (dFld (tab [(2, 0)]) (dVar 0))) (gN 3) dYes (dIdxN 3 (dVar 2)) [3] [.sh (gr A w), .sh (row true r), .sh (.int k), .un] = .ok (.fr (ti (colM A k))) [.sh (gr A w), .sh (row true r), .sh (.int k), .un] := by
  unfold colM
  rw [← ti_mapA]
  refine dLc_map1 A (row true) (fun q => .int (q.getD k 0)) [.sh (gr A w), .sh (row true r), .sh (.int k), .un] (fun q => [.sh (gr A w), .sh (row true r), .sh (.int k), .sh (row true q)]) (fun q => .sh (.int (q.getD k 0))) hM ?_ fun q hq => ?_
  · unfold dItems
    rw [fld0 (M := A) (w := w) rfl]
    simp only [items_tm, rb_ok, rb_ex, rb_of, dC, dVar, dOp, dUn, dTru, dTst, dNot, dAnd, dOr, dIf, dAndV, dOrV, dNotV, dNil, dCons, dTup, dLst, dIdxN, dSl, dNoPart, dPart, dNx, dSeq, dRet, dRetN, dDrop, dIfS, dSet, setSlot, dAsg, onNx, gN, gT, gsNil, gsCons, dItems, dRng, dFor, dCB, dIsi, dFld, dSetF, dCall, cVal, cLend, cNil, dMake, dMeth, runN, dPar, dPar.parE, dRaise, dApp, onOl, dSetI, putOl, setAt, Out.t, Out.slot, Slot.pk, Fl.out, asBl, asInt, truthT, fnD, Nat.beq_eq, eq_self, Nat.reduceEqDiff, Bool.and_eq_true, decide_eq_true_eq, and_self, and_true, true_and, Nat.reduceAdd, Nat.zero_add, decide_true, Bool.and_true, Bool.true_and, Nat.reduceLT, tb0, tb1, tb8, isi_row, isi_box, List.getElem?_cons_succ, List.getElem?_cons_zero, List.set_cons_succ, List.set_cons_zero, List.map_nil, List.map_cons, List.append_nil, List.nil_append, List.cons_append, List.length_cons, List.length_nil, List.replicate, Option.bind_some, Option.map_some, ↓reduceIte, if_true, Bool.not_true, Bool.not_false, Bool.false_eq_true, if_false]
  · have := hA q hq
    have hi := idx_row (r := q) (k := k) (by omega)
    exact ⟨by simp only [rb_ok, rb_ex, rb_of, dC, dVar, dOp, dUn, dTru, dTst, dNot, dAnd, dOr, dIf, dAndV, dOrV, dNotV, dNil, dCons, dTup, dLst, dIdxN, dSl, dNoPart, dPart, dNx, dSeq, dRet, dRetN, dDrop, dIfS, dSet, setSlot, dAsg, onNx, gN, gT, gsNil, gsCons, dItems, dRng, dFor, dCB, dIsi, dFld, dSetF, dCall, cVal, cLend, cNil, dMake, dMeth, runN, dPar, dPar.parE, dRaise, dApp, onOl, dSetI, putOl, setAt, Out.t, Out.slot, Slot.pk, Fl.out, asBl, asInt, truthT, fnD, Nat.beq_eq, eq_self, Nat.reduceEqDiff, Bool.and_eq_true, decide_eq_true_eq, and_self, and_true, true_and, Nat.reduceAdd, Nat.zero_add, decide_true, Bool.and_true, Bool.true_and, Nat.reduceLT, tb0, tb1, tb8, isi_row, isi_box, List.getElem?_cons_succ, List.getElem?_cons_zero, List.set_cons_succ, List.set_cons_zero, List.map_nil, List.map_cons, List.append_nil, List.nil_append, List.cons_append, List.length_cons, List.length_nil, List.replicate, Option.bind_some, Option.map_some, ↓reduceIte, if_true, Bool.not_true, Bool.not_false, Bool.false_eq_true, if_false], by simp only [hi, rb_ok, rb_ex, rb_of, dC, dVar, dOp, dUn, dTru, dTst, dNot, dAnd, dOr, dIf, dAndV, dOrV, dNotV, dNil, dCons, dTup, dLst, dIdxN, dSl, dNoPart, dPart, dNx, dSeq, dRet, dRetN, dDrop, dIfS, dSet, setSlot, dAsg, onNx, gN, gT, gsNil, gsCons, dItems, dRng, dFor, dCB, dIsi, dFld, dSetF, dCall, cVal, cLend, cNil, dMake, dMeth, runN, dPar, dPar.parE, dRaise, dApp, onOl, dSetI, putOl, setAt, Out.t, Out.slot, Slot.pk, Fl.out, asBl, asInt, truthT, fnD, Nat.beq_eq, eq_self, Nat.reduceEqDiff, Bool.and_eq_true, decide_eq_true_eq, and_self, and_true, true_and, Nat.reduceAdd, Nat.zero_add, decide_true, Bool.and_true, Bool.true_and, Nat.reduceLT, tb0, tb1, tb8, isi_row, isi_box, List.getElem?_cons_succ, List.getElem?_cons_zero, List.set_cons_succ, List.set_cons_zero, List.map_nil, List.map_cons, List.append_nil, List.nil_append, List.cons_append, List.length_cons, List.length_nil, List.replicate, Option.bind_some, Option.map_some, ↓reduceIte, if_true, Bool.not_true, Bool.not_false, Bool.false_eq_true, if_false]⟩
theorem call2 {F : DF} {da db : DE} {e e1 : List Slot} {o : Out} {t : T} {ou : Out} (h1 : da e = .ok (.sh t) e) (h2 : db e = .ok ou e1) (h3 : runF F [.v t, .v ou.t] e1 = .ok o e1) : dCall 2 F [] (cVal da (cVal db cNil)) e = .ok o e1 := by
  unfold dCall cVal
  rw [h1]
  simp only [rb_ok]
  rw [h2]
  simp only [rb_ok, cNil]
  exact h3
theorem before_outer (A : List (List Int)) (w : Nat) (r : List Int) (hA : Wd A w) (hM : A.length ≤ 1000) (hw : w ≤ 1000) (hS : Sm r) (hr : r.length = A.length) : dLc (dRng (dCons (dFld (tab [(2, 1)]) (dVar 0)) dNil)) (gN 2) dYes (dCall 2 f_dot [] (cVal (dVar 1) (cVal (dLc (dItems (dFld (tab [(2, 0)]) (dVar 0))) (gN 3) dYes (dIdxN 3 (dVar 2)) [3]) cNil))) [2] [.sh (gr A w), .sh (row true r), .un, .un] = .ok (.fr (ti ((List.range w).map fun k => dotI r (colM A k)))) [.sh (gr A w), .sh (row true r), .un, .un] := by
  have hrg := rng0 (w := (w : Int)) (by omega) (by omega)
  rw [Int.toNat_natCast] at hrg
  rw [← ti_mapA]
  refine dLc_map1 (List.range w) (fun k => .int ((k : Nat) : Int)) (fun k => .int (dotI r (colM A k))) [.sh (gr A w), .sh (row true r), .un, .un] (fun k => [.sh (gr A w), .sh (row true r), .sh (.int ((k : Nat) : Int)), .un]) (fun k => .sh (.int (dotI r (colM A k)))) (by rw [List.length_range]; exact hw) ?_ fun k hk => ?_
  · refine dRng_of (ts := [.int w]) ?_ hrg
    unfold dCons
    rw [fld1 (M := A) (w := w) rfl]
    simp only [dNil, rb_ok, Out.t]
  · refine ⟨by simp only [gN, setSlot, List.getElem?_cons_succ, List.getElem?_cons_zero, Slot.pk, List.set_cons_succ, List.set_cons_zero], ?_⟩
    have hd := run_dot true false r (colM A k) hS (by omega) [.sh (gr A w), .sh (row true r), .sh (.int ((k : Nat) : Int)), .un]
    have hi := before_inner A w r hA hM k (List.mem_range.mp hk)
    have hv := var_sh (i := 1) (e := [.sh (gr A w), .sh (row true r), .sh (.int ((k : Nat) : Int)), .un]) (t := row true r) rfl
    exact call2 hv hi hd
theorem run_before (A : List (List Int)) (w : Nat) (r : List Int) (hA : Wd A w) (hM : A.length ≤ 1000) (hw : w ≤ 1000) (hS : Sm r) (hr : r.length = A.length) (e : List Slot) : runF f_Grid_before [.v (gr A w), .v (row true r)] e = .ok (.sh (row true ((List.range w).map fun k => dotI r (colM A k)))) e := by
  refine runF_eq (ss := [.sh (gr A w), .sh (row true r)]) rfl rfl (e' := [.sh (gr A w), .sh (row true r), .un, .un]) ?_
  have outer := before_outer A w r hA hM hw hS hr
  have hn : dLenN 1 [.sh (gr A w), .sh (row true r), .un, .un] = .ok (.sh (.int r.length)) [.sh (gr A w), .sh (row true r), .un, .un] := lenN_row (k := true) rfl
  have h1 : fNe (.int r.length) (.int A.length) = some (.sh (.bl false)) := by rw [ne_int, hr]; simp
  have f2 : dFld (tab [(2, 0)]) (dVar 0) [.sh (gr A w), .sh (row true r), .un, .un] = .ok (.sh (tm A)) [.sh (gr A w), .sh (row true r), .un, .un] := fld0 rfl
  exact r_fn ((r_seq ((r_ifF (r_tst (r_op hn (r_cb (r_one f2) (len_tm A)) h1))).trans r_nx)).trans (r_ret (r_cb (r_one outer) rfl)))
end L2.VD.K01

namespace L2.VD.K01
open PySem PySem.Spec PyProof.Rows

theorem ps_can : ∀ r : List Int, PyData.canLayAll0 (T.ps (ti r)) = true ∧ PyData.depthAll (T.ps (ti r)) = 0
  | [] => ⟨by simp [ti, T.ps, PyData.canLayAll0], by simp [ti, T.ps, PyData.depthAll]⟩
  | i :: r => by
    obtain ⟨h1, h2⟩ := ps_can r
    constructor
    · show PyData.canLayAll0 (T.ps (T.int i :: ti r)) = true
      simp [T.ps, T.p, PyData.canLayAll0, PyData.canLay0, h1]
    · show PyData.depthAll (T.ps (T.int i :: ti r)) = 0
      simp [T.ps, T.p, PyData.depthAll, PyData.depth, h2]
theorem rows_can (k : Bool) : ∀ M : List (List Int), PyData.canLayAll0 (T.ps (M.map (row k))) = true ∧ PyData.depthAll (T.ps (M.map (row k))) ≤ 1
  | [] => ⟨by simp [T.ps, PyData.canLayAll0], by simp [T.ps, PyData.depthAll]⟩
  | r :: M => by
    obtain ⟨h1, h2⟩ := rows_can k M
    obtain ⟨h3, h4⟩ := ps_can r
    constructor
    · rw [List.map_cons]
      cases k <;> simp [T.ps, T.p, row, PyData.canLayAll0, PyData.canLay0, h1, h3]
    · rw [List.map_cons]
      cases k <;> simp [T.ps, T.p, row, PyData.depthAll, PyData.depth, h4] <;> omega
theorem shaped_row (k : Bool) (r : List Int) : SeqAt.shaped (row k r).p = true := by
  obtain ⟨h3, h4⟩ := ps_can r
  unfold SeqAt.shaped
  cases k <;> simp [row, T.p, PyData.canLay0, PyData.depth, h3, h4]
theorem shaped_box (j k : Bool) (M : List (List Int)) : SeqAt.shaped (box j (M.map (row k))).p = true := by
  obtain ⟨h3, h4⟩ := rows_can k M
  unfold SeqAt.shaped
  cases j <;> simp [box, T.p, PyData.canLay0, PyData.depth, h3] <;> omega
theorem eqv_ti : ∀ r s : List Int, PyData.eqvAll (T.ps (ti r)) (T.ps (ti s)) = decide (r = s)
  | [], [] => by simp [ti, T.ps, PyData.eqvAll]
  | [], _ :: _ => by simp [ti, T.ps, PyData.eqvAll]
  | _ :: _, [] => by simp [ti, T.ps, PyData.eqvAll]
  | x :: r, y :: s => by
    have ih := eqv_ti r s
    show PyData.eqvAll (T.ps (T.int x :: ti r)) (T.ps (T.int y :: ti s)) = _
    simp only [T.ps, T.p, PyData.eqvAll, PyData.eqv, ih]
    by_cases h1 : x = y <;> by_cases h2 : r = s <;> simp [h1, h2]
theorem eqv_rows (k : Bool) : ∀ A B : List (List Int), PyData.eqvAll (T.ps (A.map (row k))) (T.ps (B.map (row k))) = decide (A = B)
  | [], [] => by simp [T.ps, PyData.eqvAll]
  | [], _ :: _ => by simp [T.ps, PyData.eqvAll]
  | _ :: _, [] => by simp [T.ps, PyData.eqvAll]
  | r :: A, s :: B => by
    have ih := eqv_rows k A B
    have h0 := eqv_ti r s
    rw [List.map_cons, List.map_cons]
    cases k
    · simp only [T.ps, T.p, row, PyData.eqvAll, PyData.eqv, Bool.false_eq_true, if_false]
      rw [ih, h0]
      by_cases h1 : r = s <;> by_cases h2 : A = B <;> simp [h1, h2]
    · simp only [T.ps, T.p, row, PyData.eqvAll, PyData.eqv, if_true]
      rw [ih, h0]
      by_cases h1 : r = s <;> by_cases h2 : A = B <;> simp [h1, h2]
theorem eqT_row (k : Bool) (r s : List Int) : eqT (row k r) (row k s) = some (decide (r = s)) := by
  unfold eqT
  rw [shaped_row, shaped_row]
  cases k
  · show some (PyData.eqvAll (T.ps (ti r)) (T.ps (ti s))) = _
    rw [eqv_ti]
  · show some (PyData.eqvAll (T.ps (ti r)) (T.ps (ti s))) = _
    rw [eqv_ti]
theorem eqT_box (j k : Bool) (A B : List (List Int)) : eqT (box j (A.map (row k))) (box j (B.map (row k))) = some (decide (A = B)) := by
  unfold eqT
  rw [shaped_box, shaped_box]
  cases j
  · show some (PyData.eqvAll (T.ps (A.map (row k))) (T.ps (B.map (row k)))) = _
    rw [eqv_rows]
  · show some (PyData.eqvAll (T.ps (A.map (row k))) (T.ps (B.map (row k)))) = _
    rw [eqv_rows]
theorem eqT_tm (A B : List (List Int)) : eqT (tm A) (tm B) = some (decide (A = B)) := eqT_box true true A B
theorem fEq_tm (A B : List (List Int)) : fEq (tm A) (tm B) = some (.sh (.bl (decide (A = B)))) := by unfold fEq; rw [eqT_tm]; rfl
theorem fNe_tm (A B : List (List Int)) : fNe (tm A) (tm B) = some (.sh (.bl (!decide (A = B)))) := by unfold fNe; rw [eqT_tm]; rfl
theorem fNe_row (k : Bool) (r s : List Int) : fNe (row k r) (row k s) = some (.sh (.bl (!decide (r = s)))) := by unfold fNe; rw [eqT_row]; rfl
theorem eq_gr (A B : List (List Int)) (w v : Int) : ∃ e', f_Grid_eq [.sh (gr A w), .sh (gr B v)] = .ok (.sh (.bl (decide (A = B) && decide (w = v)))) e' := by
  refine ⟨[.sh (gr A w), .sh (gr B v)], r_fn ?_⟩
  have f0 : dFld (tab [(2, 0)]) (dVar 0) [.sh (gr A w), .sh (gr B v)] = .ok (.sh (tm A)) [.sh (gr A w), .sh (gr B v)] := fld0 rfl
  have f1 : dFld (tab [(2, 0)]) (dVar 1) [.sh (gr A w), .sh (gr B v)] = .ok (.sh (tm B)) [.sh (gr A w), .sh (gr B v)] := fld0 rfl
  have f2 : dFld (tab [(2, 1)]) (dVar 0) [.sh (gr A w), .sh (gr B v)] = .ok (.sh (.int w)) [.sh (gr A w), .sh (gr B v)] := fld1 rfl
  have f3 : dFld (tab [(2, 1)]) (dVar 1) [.sh (gr A w), .sh (gr B v)] = .ok (.sh (.int v)) [.sh (gr A w), .sh (gr B v)] := fld1 rfl
  have hi : dIsi (tab [(0, false), (1, false), (2, false), (3, false), (4, false), (5, false), (8, true)]) (dVar 1) [.sh (gr A w), .sh (gr B v)] = .ok (.sh (.bl true)) [.sh (gr A w), .sh (gr B v)] := r_isi (r_var (t := gr B v) rfl) rfl
  refine r_ret ((r_andV hi rfl).trans ?_)
  by_cases h : A = B
  · refine (r_andV (r_op f0 f1 (fEq_tm A B)) (by rw [decide_eq_true h]; rfl)).trans ?_
    rw [decide_eq_true h, Bool.true_and]
    exact r_op f2 f3 (eq_int w v)
  · rw [decide_eq_false h, Bool.false_and]
    have := r_andVF (db := dOp fEq (dFld (tab [(2, 1)]) (dVar 0)) (dFld (tab [(2, 1)]) (dVar 1))) (r_op f0 f1 (fEq_tm A B)) (by rw [decide_eq_false h]; rfl)
    rw [decide_eq_false h] at this
    exact this
theorem eq_other (A : List (List Int)) (w : Int) (u : T) (hu : tab [(0, false), (1, false), (2, false), (3, false), (4, false), (5, false), (8, true)] u.kind = some false) : ∃ e', f_Grid_eq [.sh (gr A w), .sh u] = .ok (.sh (.bl false)) e' := by
  refine ⟨[.sh (gr A w), .sh u], r_fn ?_⟩
  have hi : dIsi (tab [(0, false), (1, false), (2, false), (3, false), (4, false), (5, false), (8, true)]) (dVar 1) [.sh (gr A w), .sh u] = .ok (.sh (.bl false)) [.sh (gr A w), .sh u] := r_isi (r_var (t := u) rfl) hu
  exact r_ret (r_andVF hi rfl)
theorem own_eq {neg : Bool} {A : List (List Int)} {w : Int} {u : T} {b : Bool} (h : ∃ e', f_Grid_eq [.sh (gr A w), .sh u] = .ok (.sh (.bl b)) e') : ownB neg f_Grid_eq (gr A w) u = some (.sh (.bl (if neg then !b else b))) := by
  obtain ⟨e', h⟩ := h
  unfold ownB fOwn2
  rw [h]
  rfl
theorem fEqO_gr (A B : List (List Int)) (w v : Int) : fEqO (tab [(2, f_Grid_eq)]) (gr A w) (gr B v) = some (.sh (.bl (decide (A = B) && decide (w = v)))) := by
  have h : fEqO (tab [(2, f_Grid_eq)]) (gr A w) (gr B v) = (tab [(2, f_Grid_eq)] 2).bind fun F => ownB false F (gr A w) (gr B v) := rfl
  have h2 : tab [(2, f_Grid_eq)] 2 = some f_Grid_eq := rfl
  rw [h, h2, Option.bind_some, own_eq (eq_gr A B w v)]
  rfl
theorem fEqO_other (A : List (List Int)) (w : Int) (u : T) (hu : tab [(0, false), (1, false), (2, false), (3, false), (4, false), (5, false), (8, true)] u.kind = some false) : fEqO (tab [(2, f_Grid_eq)]) (gr A w) u = some (.sh (.bl false)) := by
  have h : fEqO (tab [(2, f_Grid_eq)]) (gr A w) u = (tab [(2, f_Grid_eq)] 2).bind fun F => ownB false F (gr A w) u := rfl
  have h2 : tab [(2, f_Grid_eq)] 2 = some f_Grid_eq := rfl
  rw [h, h2, Option.bind_some, own_eq (eq_other A w u hu)]
  rfl
theorem fNeO_gr (A B : List (List Int)) (w v : Int) : fNeO (tab [(2, f_Grid_eq)]) (gr A w) (gr B v) = some (.sh (.bl (!(decide (A = B) && decide (w = v))))) := by
  have h : fNeO (tab [(2, f_Grid_eq)]) (gr A w) (gr B v) = (tab [(2, f_Grid_eq)] 2).bind fun F => ownB true F (gr A w) (gr B v) := rfl
  have h2 : tab [(2, f_Grid_eq)] 2 = some f_Grid_eq := rfl
  rw [h, h2, Option.bind_some, own_eq (eq_gr A B w v)]
  rfl
def unM (n : Nat) : List (List Int) := (List.range n).map fun i => (List.range n).map fun k => if ((i : Nat) : Int) = ((k : Nat) : Int) then 1 else 0
theorem unit_rows_ok (n : Nat) (hn : n ≤ 1000) (e : List Slot) : runF f_unit_rows [.v (.int n)] e = .ok (.fr ((unM n).map (row false))) e := by
  refine runF_eq (ss := [.sh (.int n)]) rfl rfl (e' := [.sh (.int n), .un, .un]) (r_fn (r_ret ?_))
  have hrg := rng0 (w := (n : Int)) (by omega) (by omega)
  rw [Int.toNat_natCast] at hrg
  unfold unM
  rw [← rows_of]
  refine dLc_map1 (List.range n) (fun k => .int ((k : Nat) : Int)) (fun i => row false ((List.range n).map fun k => if ((i : Nat) : Int) = ((k : Nat) : Int) then 1 else 0)) [.sh (.int n), .un, .un] (fun i => [.sh (.int n), .sh (.int ((i : Nat) : Int)), .un]) (fun i => .fr (ti ((List.range n).map fun k => if ((i : Nat) : Int) = ((k : Nat) : Int) then 1 else 0))) (by rw [List.length_range]; exact hn) (r_rng (r_one (r_var (t := .int n) rfl)) hrg) fun i hi => ⟨r_gN (s0 := .un) rfl rfl, ?_⟩
  rw [← ti_mapA]
  refine dLc_map1 (List.range n) (fun k => .int ((k : Nat) : Int)) (fun k => .int (if ((i : Nat) : Int) = ((k : Nat) : Int) then 1 else 0)) [.sh (.int n), .sh (.int ((i : Nat) : Int)), .un] (fun k => [.sh (.int n), .sh (.int ((i : Nat) : Int)), .sh (.int ((k : Nat) : Int))]) (fun k => .sh (.int (if ((i : Nat) : Int) = ((k : Nat) : Int) then 1 else 0))) (by rw [List.length_range]; exact hn) (r_rng (r_one (r_var (t := .int n) rfl)) hrg) fun k hk => ⟨r_gN (s0 := .un) rfl rfl, ?_⟩
  refine r_cb (r_one (r_op (r_var (t := .int ((i : Nat) : Int)) rfl) (r_var (t := .int ((k : Nat) : Int)) rfl) (eq_int _ _))) ?_
  show some (Out.sh (.int (if decide (((i : Nat) : Int) = ((k : Nat) : Int)) then 1 else 0))) = _
  by_cases h : ((i : Nat) : Int) = ((k : Nat) : Int) <;> simp [h]
theorem wd_un (n : Nat) : Wd (unM n) n := by
  intro r hr
  obtain ⟨i, hi, rfl⟩ := List.mem_map.mp hr
  rw [List.length_map, List.length_range]
theorem run_unit (n : Nat) (hn : n ≤ 1000) (e : List Slot) : runF f_unit [.v (.int n)] e = .ok (.sh (gr (unM n) n)) e := by
  refine runF_eq (ss := [.sh (.int n)]) rfl rfl (e' := [.sh (.int n)]) (r_fn (r_ret ?_))
  have h1 : dCall 1 f_unit_rows [] (cVal (dVar 0) cNil) [.sh (.int n)] = .ok (.fr ((unM n).map (row false))) [.sh (.int n)] := (r_call1 (r_cval (r_var (t := .int n) rfl) r_cnil) rfl).trans (unit_rows_ok n hn _)
  refine (r_make (r_two h1 (r_var (t := .int n) rfl)) rfl).trans ?_
  exact mk_ok false false (wd_un n) (by unfold unM; rw [List.length_map, List.length_range]; exact hn) _
end L2.VD.K01

namespace L2.VD.K01
open PySem PySem.Spec PyProof.Rows

theorem dLc_rel {α : Type} (L : List α) (mk f : α → T) (R : List Slot → Prop) {di : DI} {g : DG} {de : DE} {vs : List Nat} {e : List Slot} (hf : L.length ≤ 1000) (h1 : di e = .ok (L.map mk) e) (hR : R (wipeE e vs))
    (h : ∀ a ∈ L, ∀ e0, R e0 → ∃ e1 o e2, g (mk a) e0 = .ok .nx e1 ∧ de e1 = .ok o e2 ∧ R (wipeE e2 vs) ∧ o.t = f a) : ∃ e2, R e2 ∧ dLc di g dYes de vs e = .ok (.fr (L.map f)) (backE e e2 vs) := by
  have key : ∀ (L : List α) (acc : List T) (e0 : List Slot), R e0 → acc.length + L.length ≤ 1000 → (∀ a ∈ L, ∀ e0, R e0 → ∃ e1 o e2, g (mk a) e0 = .ok .nx e1 ∧ de e1 = .ok o e2 ∧ R (wipeE e2 vs) ∧ o.t = f a) → ∃ e2, R e2 ∧ lcL g dYes de vs (L.map mk) acc e0 = some (acc ++ L.map f, e2) := by
    intro L
    induction L with
    | nil => intro acc e0 h0 _ _; exact ⟨e0, h0, by rw [List.map_nil, List.map_nil, List.append_nil]; rfl⟩
    | cons a L ih =>
      intro acc e0 h0 hl h
      rw [List.length_cons] at hl
      obtain ⟨e1, o, e2, k1, k2, k3, k4⟩ := h a (List.mem_cons_self ..) e0 h0
      have hf1 : fits (acc.length + 1) = true := Nat.ble_eq_true_of_le (by omega)
      obtain ⟨e3, r1, r2⟩ := ih (acc ++ [f a]) (wipeE e2 vs) k3 (by rw [List.length_append, List.length_singleton]; omega) fun b hb => h b (List.mem_cons_of_mem _ hb)
      refine ⟨e3, r1, ?_⟩
      rw [List.map_cons]
      unfold lcL
      rw [k1]
      simp only [dYes, k2, hf1, if_true, k4]
      rw [r2, List.append_assoc]
      rfl
  obtain ⟨e2, r1, r2⟩ := key L [] (wipeE e vs) hR (by simpa using hf) h
  refine ⟨e2, r1, ?_⟩
  unfold dLc
  rw [h1]
  simp only [rb_ok]
  rw [r2, List.nil_append]
  rfl
def mulM (A B : List (List Int)) (v : Nat) : List (List Int) := A.map fun r => (List.range v).map fun k => dotI r (colM B k)
theorem run_mul (A B : List (List Int)) (w : Int) (v : Nat) (hA : Wd A w) (hB : Wd B v) (hS : ∀ q ∈ A, Sm q) (hw : w = B.length) (hM : A.length ≤ 1000) (hN : B.length ≤ 1000) (hv : v ≤ 1000) (e : List Slot) : runF f_Grid_mul [.v (gr A w), .v (gr B v)] e = .ok (.sh (gr (mulM A B v) v)) e := by
  have hrg := rng0 (w := (v : Int)) (by omega) (by omega)
  rw [Int.toNat_natCast] at hrg
  have fA : ∀ s2 s3 s4 s5, dFld (tab [(2, 0)]) (dVar 0) [.sh (gr A w), .sh (gr B v), s2, s3, s4, s5] = .ok (.sh (tm A)) [.sh (gr A w), .sh (gr B v), s2, s3, s4, s5] := fun _ _ _ _ => fld0 rfl
  have fB : ∀ s2 s3 s4 s5, dFld (tab [(2, 0)]) (dVar 1) [.sh (gr A w), .sh (gr B v), s2, s3, s4, s5] = .ok (.sh (tm B)) [.sh (gr A w), .sh (gr B v), s2, s3, s4, s5] := fun _ _ _ _ => fld0 rfl
  have wA : ∀ s2 s3 s4 s5, dFld (tab [(2, 1)]) (dVar 0) [.sh (gr A w), .sh (gr B v), s2, s3, s4, s5] = .ok (.sh (.int w)) [.sh (gr A w), .sh (gr B v), s2, s3, s4, s5] := fun _ _ _ _ => fld1 rfl
  have wB : ∀ s2 s3 s4 s5, dFld (tab [(2, 1)]) (dVar 1) [.sh (gr A w), .sh (gr B v), s2, s3, s4, s5] = .ok (.sh (.int v)) [.sh (gr A w), .sh (gr B v), s2, s3, s4, s5] := fun _ _ _ _ => fld1 rfl
  have h1 : fNe (.int w) (.int B.length) = some (.sh (.bl false)) := by rw [ne_int, hw]; simp
  -- the columns
  have cols : dLc (dRng (dCons (dFld (tab [(2, 1)]) (dVar 1)) dNil)) (gN 3) dYes (dLc (dItems (dFld (tab [(2, 0)]) (dVar 1))) (gN 4) dYes (dIdxN 4 (dVar 3)) [4]) [3] [.sh (gr A w), .sh (gr B v), .un, .un, .un, .un] = .ok (.fr ((List.range v).map fun k => row false (colM B k))) [.sh (gr A w), .sh (gr B v), .un, .un, .un, .un] := by
    refine dLc_map1 (List.range v) (fun k => .int ((k : Nat) : Int)) (fun k => row false (colM B k)) [.sh (gr A w), .sh (gr B v), .un, .un, .un, .un] (fun k => [.sh (gr A w), .sh (gr B v), .un, .sh (.int ((k : Nat) : Int)), .un, .un]) (fun k => .fr (ti (colM B k))) (by rw [List.length_range]; exact hv) (r_rng (r_one (wB _ _ _ _)) hrg) fun k hk => ⟨r_gN (s0 := .un) rfl rfl, ?_⟩
    have hk := List.mem_range.mp hk
    unfold colM
    rw [← ti_mapA]
    refine dLc_map1 B (row true) (fun q => .int (q.getD k 0)) [.sh (gr A w), .sh (gr B v), .un, .sh (.int ((k : Nat) : Int)), .un, .un] (fun q => [.sh (gr A w), .sh (gr B v), .un, .sh (.int ((k : Nat) : Int)), .sh (row true q), .un]) (fun q => .sh (.int (q.getD k 0))) hN (r_items (fB _ _ _ _) (items_tm B)) fun q hq => ⟨r_gN (s0 := .un) rfl rfl, ?_⟩
    have := hB q hq
    exact r_idxN (t := row true q) rfl (r_var (t := .int ((k : Nat) : Int)) rfl) (idx_row (by omega))
  -- a row by the columns
  have inner : ∀ r ∈ A, dLc (dItems (dVar 2)) (gN 5) dYes (dCall 2 f_dot [] (cVal (dVar 4) (cVal (dVar 5) cNil))) [5] [.sh (gr A w), .sh (gr B v), .sh (.lst ((List.range v).map fun k => row false (colM B k))), .un, .sh (row true r), .un] = .ok (.fr (ti ((List.range v).map fun k => dotI r (colM B k)))) [.sh (gr A w), .sh (gr B v), .sh (.lst ((List.range v).map fun k => row false (colM B k))), .un, .sh (row true r), .un] := by
    intro r hr
    have := hA r hr
    rw [← ti_mapA]
    refine dLc_map1 (List.range v) (fun k => row false (colM B k)) (fun k => .int (dotI r (colM B k))) [.sh (gr A w), .sh (gr B v), .sh (.lst ((List.range v).map fun k => row false (colM B k))), .un, .sh (row true r), .un] (fun k => [.sh (gr A w), .sh (gr B v), .sh (.lst ((List.range v).map fun k => row false (colM B k))), .un, .sh (row true r), .sh (row false (colM B k))]) (fun k => .sh (.int (dotI r (colM B k)))) (by rw [List.length_range]; exact hv) (r_items (r_var (t := .lst _) rfl) rfl) fun k hk => ⟨r_gN (s0 := .un) rfl rfl, ?_⟩
    exact call2 (r_var (t := row true r) rfl) (r_var (t := row false (colM B k)) rfl) (run_dot true false r (colM B k) (hS r hr) (by omega) _)
  have innerO : ∀ r ∈ A, dLc (dItems (dVar 2)) (gN 5) dYes (dCall 2 f_dot [] (cVal (dVar 4) (cVal (dVar 5) cNil))) [5] [.sh (gr A w), .sh (gr B v), .ol false ((List.range v).map fun k => row false (colM B k)), .un, .sh (row true r), .un] = .ok (.fr (ti ((List.range v).map fun k => dotI r (colM B k)))) [.sh (gr A w), .sh (gr B v), .sh (.lst ((List.range v).map fun k => row false (colM B k))), .un, .sh (row true r), .un] := by
    intro r hr
    refine Eq.trans ?_ (inner r hr)
    have a1 : dItems (dVar 2) [.sh (gr A w), .sh (gr B v), .ol false ((List.range v).map fun k => row false (colM B k)), .un, .sh (row true r), .un] = .ok ((List.range v).map fun k => row false (colM B k)) [.sh (gr A w), .sh (gr B v), .sh (.lst ((List.range v).map fun k => row false (colM B k))), .un, .sh (row true r), .un] := r_items (r_varO rfl) rfl
    have a2 : dItems (dVar 2) [.sh (gr A w), .sh (gr B v), .sh (.lst ((List.range v).map fun k => row false (colM B k))), .un, .sh (row true r), .un] = .ok ((List.range v).map fun k => row false (colM B k)) [.sh (gr A w), .sh (gr B v), .sh (.lst ((List.range v).map fun k => row false (colM B k))), .un, .sh (row true r), .un] := r_items (r_var (t := .lst _) rfl) rfl
    unfold dLc
    rw [a1, a2]
  obtain ⟨e2, hR, hout⟩ := dLc_rel A (row true) (fun r => row false ((List.range v).map fun k => dotI r (colM B k))) (fun e => e = [.sh (gr A w), .sh (gr B v), .ol false ((List.range v).map fun k => row false (colM B k)), .un, .un, .un] ∨ e = [.sh (gr A w), .sh (gr B v), .sh (.lst ((List.range v).map fun k => row false (colM B k))), .un, .un, .un])
    (di := dItems (dFld (tab [(2, 0)]) (dVar 0))) (g := gN 4) (de := dLc (dItems (dVar 2)) (gN 5) dYes (dCall 2 f_dot [] (cVal (dVar 4) (cVal (dVar 5) cNil))) [5]) (vs := [4]) (e := [.sh (gr A w), .sh (gr B v), .ol false ((List.range v).map fun k => row false (colM B k)), .un, .un, .un]) hM (r_items (fA _ _ _ _) (items_tm A)) (.inl rfl) (fun r hr e0 h0 => by
      rcases h0 with rfl | rfl
      · exact ⟨_, _, _, r_gN (s0 := .un) rfl rfl, innerO r hr, .inr rfl, rfl⟩
      · exact ⟨_, _, _, r_gN (s0 := .un) rfl rfl, inner r hr, .inr rfl, rfl⟩)
  have hmk : ∀ e, mkEnd 2 2 e (f_Grid_init [.oi 2 [], .sh (box false ((mulM A B v).map (row false))), .sh (.int v)]) = .ok (.sh (gr (mulM A B v) v)) e := fun e => mk_ok false false (M := mulM A B v) (w := v) (fun r hr => by
    obtain ⟨q, hq, rfl⟩ := List.mem_map.mp hr
    rw [List.length_map, List.length_range]) (by unfold mulM; rw [List.length_map]; exact hM) e
  have hrows : (A.map fun r => row false ((List.range v).map fun k => dotI r (colM B k))) = (mulM A B v).map (row false) := rows_of
  rw [hrows] at hout
  have done : ∀ e3, (e3 = [.sh (gr A w), .sh (gr B v), .ol false ((List.range v).map fun k => row false (colM B k)), .un, .un, .un] ∨ e3 = [.sh (gr A w), .sh (gr B v), .sh (.lst ((List.range v).map fun k => row false (colM B k))), .un, .un, .un]) → dFld (tab [(2, 1)]) (dVar 1) e3 = .ok (.sh (.int v)) e3 := fun e3 h => by
    rcases h with rfl | rfl
    · exact wB _ _ _ _
    · exact wB _ _ _ _
  have hb : ∀ e3, (e3 = [.sh (gr A w), .sh (gr B v), .ol false ((List.range v).map fun k => row false (colM B k)), .un, .un, .un] ∨ e3 = [.sh (gr A w), .sh (gr B v), .sh (.lst ((List.range v).map fun k => row false (colM B k))), .un, .un, .un]) → backE [.sh (gr A w), .sh (gr B v), .ol false ((List.range v).map fun k => row false (colM B k)), .un, .un, .un] e3 [4] = e3 := fun e3 h => by
    rcases h with rfl | rfl <;> rfl
  rw [hb e2 hR] at hout
  refine runF_eq (ss := [.sh (gr A w), .sh (gr B v)]) rfl rfl (e' := e2) ?_
  refine r_fn ((r_seq ((r_ifF (r_tst (r_op (wA _ _ _ _) (r_cb (r_one (fB _ _ _ _)) (len_tm B)) h1))).trans r_nx)).trans ?_)
  refine (r_seq (r_set (s0 := .un) cols rfl rfl)).trans (r_ret ?_)
  exact (r_make (r_two hout (done e2 hR)) rfl).trans (hmk e2)
theorem fmod_any (x m : Int) : ∃ y, x.fmod m = y := ⟨_, rfl⟩
theorem ti_cut (ns : List Int) (lo hi : Option Int) : ∃ ms : List Int, cutT (ti ns) lo hi = ti ms := by
  unfold cutT ti
  exact ⟨(ns.drop _).take _, by rw [List.map_take, List.map_drop]⟩
end L2.VD.K01

namespace L2.VD.K01
open PySem PySem.Spec PyProof.Rows

theorem r_part {da : DE} {e e1 : List Slot} {i : Int} (h : da e = .ok (.sh (.int i)) e1) : dPart da e = .ok (some i) e1 := by
  have h0 : dPart da e = (da e).bind fun a e1 => (Res.of (asInt a.t) e1).bind fun i e2 => .ok (some i) e2 := rfl
  rw [h0, h]
  rfl
theorem r_noPart {e : List Slot} : dNoPart e = .ok none e := rfl
theorem r_sl {da : DE} {dl du : DO} {e e1 e2 e3 : List Slot} {a o : Out} {l u : Option Int} (ha : da e = .ok a e1) (hl : dl e1 = .ok l e2) (hu : du e2 = .ok u e3) (hf : fSl a.t l u = some o) : dSl da dl du e = .ok o e3 := by
  have h0 : dSl da dl du e = (da e).bind fun a e1 => (dl e1).bind fun l e2 => (du e2).bind fun u e3 => Res.of (fSl a.t l u) e3 := rfl
  rw [h0, ha]
  show (dl e1).bind _ = _
  rw [hl]
  show (du e2).bind _ = _
  rw [hu]
  show Res.of (fSl a.t l u) e3 = _
  rw [hf]
  rfl
theorem state_ok (ns : List Int) : ∃ a b e', f_law_state [.sh (.sq (ti ns))] = .ok (.fr [.int a, .int b]) e' := by
  obtain ⟨ms, hms⟩ := ti_cut ns none (some 63)
  obtain ⟨e', hrun, a, b, x, he, hx⟩ := forL_run (α := Unit) (g := gN 3) (b := dSeq (dSet 1 (dOp fAdd (dOp fMul (dVar 1) (dC (.int 1000003))) (dCB fAbs (dCons (dVar 3) dNil)))) (dSet 2 (dOp fMod (dCB fInt (dCons (dOp fAdd (dOp fMul (dVar 2) (dC (.int 48271))) (dVar 3)) dNil)) (dC (.int 2147483647)))))
    (fun _ e => ∃ a b x, e = [.sh (.sq (ti ns)), .sh (.int a), .sh (.int b), x] ∧ Slot.pk x = none) (fun _ _ => ()) (ti ms) () [.sh (.sq (ti ns)), .sh (.int 0), .sh (.int 1), .un] ⟨0, 1, .un, rfl, rfl⟩ (fun t ht _ e hR => by
      obtain ⟨a, b, x, rfl, hx⟩ := hR
      obtain ⟨n, hn, rfl⟩ := List.mem_map.mp ht
      refine ⟨_, _, _, r_gN (s0 := x) rfl hx, (r_seq (r_set (s0 := .sh (.int a)) (r_op (r_op (r_var (t := .int a) rfl) r_c (?_ : fMul (.int a) (.int 1000003) = some (.sh (.int (a * 1000003))))) (r_cb (r_one (r_var (t := .int n) rfl)) rfl) rfl) rfl rfl)).trans (r_set (s0 := .sh (.int b)) (r_op (r_cb (r_one (r_op (r_op (r_var (t := .int b) rfl) r_c (?_ : fMul (.int b) (.int 48271) = some (.sh (.int (b * 48271))))) (r_var (t := .int n) rfl) rfl)) rfl) r_c rfl) rfl rfl), .inl rfl, ⟨_, _, _, rfl, rfl⟩⟩
      · show (if mulFits a 1000003 then some (Out.sh (.int (a * 1000003))) else none) = _
        rw [if_pos (mulFits_r (by decide) a)]
      · show (if mulFits b 48271 then some (Out.sh (.int (b * 48271))) else none) = _
        rw [if_pos (mulFits_r (by decide) b)])
  subst he
  refine ⟨a, b, [.sh (.sq (ti ns)), .sh (.int a), .sh (.int b), x], r_fn ?_⟩
  refine (r_seq (r_set (s0 := .un) r_c rfl rfl)).trans ((r_seq (r_set (s0 := .un) r_c rfl rfl)).trans ?_)
  refine (r_seq ((r_for (r_items (r_sl (r_var (t := .sq (ti ns)) rfl) r_noPart (r_part r_c) (?_ : fSl (.sq (ti ns)) none (some 63) = some (.fr (ti ms)))) rfl)).trans hrun)).trans ?_
  · show some (Out.fr (cutT (ti ns) none (some 63))) = _
    rw [hms]
  · exact r_ret (r_lst (r_two (r_var (t := .int a) rfl) (r_var (t := .int b) rfl)) rfl)
/-- a call of _law_take: the state stands in slot i -/
theorem run_take {i : Nat} {e : List Slot} {p : Bool} {a b : Int} (m : Int) (hm : 0 < m) (hm2 : m < 1000) (h : e[i]? = some (.ol p [.int a, .int b])) : ∃ v a' b', runF f_law_take [.l i, .v (.int m)] e = .ok (.sh (.int v)) (e.set i (.ol p [.int a', .int b'])) ∧ 0 ≤ v ∧ v < m := by
  obtain ⟨v, a', b', r, h1, h2, h3⟩ := take_ok a b m hm hm2
  refine ⟨v, a', b', ?_, h2, h3⟩
  have hs : slotsOf e [.l i, .v (.int m)] = some [.ol true [.int a, .int b], .sh (.int m)] := by
    have h4 : slotOf e (.l i) = some (.ol true [.int a, .int b]) := by
      show (match e[i]? with | some (.ol _ ts) => some (Slot.ol true ts) | _ => none) = _
      rw [h]
    show ((slotOf e (.l i)).bind fun x => (slotsOf e [.v (.int m)]).map fun xs => x :: xs) = _
    rw [h4]
    rfl
  rw [runF_eq hs rfl h1]
  show Res.ok (Out.sh (.int v)) (back1 e i (.ol true [.int a', .int b'])) = _
  have h5 : back1 e i (.ol true [.int a', .int b']) = e.set i (.ol p [.int a', .int b']) := by
    show (match e[i]? with | some (.ol p _) => e.set i (.ol p [.int a', .int b']) | _ => e) = _
    rw [h]
  rw [h5]
/-- .. as an expression -/
theorem d_take {i : Nat} {e : List Slot} {p : Bool} {a b : Int} {dm : DE} {m : Int} (hm : 0 < m) (hm2 : m < 1000) (h : e[i]? = some (.ol p [.int a, .int b])) (hdm : dm e = .ok (.sh (.int m)) e) : ∃ v a' b', dCall 2 f_law_take [] (cLend i (cVal dm cNil)) e = .ok (.sh (.int v)) (e.set i (.ol p [.int a', .int b'])) ∧ 0 ≤ v ∧ v < m := by
  obtain ⟨v, a', b', h1, h2⟩ := run_take m hm hm2 h
  exact ⟨v, a', b', (r_call1 (r_clend h (r_cval hdm r_cnil)) rfl).trans h1, h2⟩
theorem dLc_run {ts : List T} (R : List Slot → Prop) (P : T → T → Prop) {di : DI} {g : DG} {de : DE} {vs : List Nat} {e : List Slot} (hf : ts.length ≤ 1000) (h1 : di e = .ok ts e) (hR : R (wipeE e vs))
    (h : ∀ t ∈ ts, ∀ e, R e → ∃ e1 o e2, g t e = .ok .nx e1 ∧ de e1 = .ok o e2 ∧ R (wipeE e2 vs) ∧ P t o.t) : ∃ us e2, R e2 ∧ us.length = ts.length ∧ (∀ (i : Nat) t u, ts[i]? = some t → us[i]? = some u → P t u) ∧ dLc di g dYes de vs e = .ok (.fr us) (backE e e2 vs) := by
  obtain ⟨us, e2, k1, k2, k3, k4⟩ := lcL_run R P ts [] (wipeE e vs) hR (Nat.ble_eq_true_of_le (by simp; omega)) h
  refine ⟨us, e2, k2, k3, k4, ?_⟩
  unfold dLc
  rw [h1]
  simp only [rb_ok]
  rw [k1, List.nil_append]
  rfl
end L2.VD.K01

namespace L2.VD.K01
open PySem PySem.Spec PyProof.Rows

def Bd (n : Nat) (r : List Int) : Prop := ∀ x ∈ r, x.natAbs ≤ n
theorem ints_of {n : Nat} : ∀ us : List T, (∀ u ∈ us, ∃ y : Int, u = .int y ∧ y.natAbs ≤ n) → ∃ r, us = ti r ∧ Bd n r
  | [], _ => ⟨[], rfl, fun x hx => nomatch hx⟩
  | u :: us, h => by
    obtain ⟨y, rfl, hy⟩ := h u (List.mem_cons_self ..)
    obtain ⟨r, rfl, hr⟩ := ints_of us fun v hv => h v (List.mem_cons_of_mem _ hv)
    refine ⟨y :: r, rfl, fun x hx => ?_⟩
    cases hx with
    | head => exact hy
    | tail _ hx => exact hr x hx
theorem foldl_count {α : Type} (l : List α) : ∀ n : Nat, l.foldl (fun n _ => n + 1) n = n + l.length := by
  induction l with
  | nil => intro n; rfl
  | cons a l ih => intro n; rw [List.foldl_cons, ih, List.length_cons]; omega
theorem r_forL {g : DG} {b : DS} {t : T} {ts : List T} {e e1 e2 : List Slot} (h1 : g t e = .ok .nx e1) (h2 : b e1 = .ok .nx e2) : forL g b (t :: ts) e = forL g b ts e2 := by
  have h0 : forL g b (t :: ts) e = onNx (g t e) (dLoop b (forL g b ts)) := rfl
  rw [h0, h1]
  show dLoop b (forL g b ts) e1 = _
  unfold dLoop
  rw [h2]
  rfl
theorem ixN_last (h : Nat) (hh : 1 < h) : ixN h ((h : Int) - 1) = some (h - 1) := by
  have e1 : (0 : Int) ≤ (h : Int) - 1 := by omega
  have e2 : (h : Int) - 1 < h := by omega
  have e3 : ((h : Int) - 1).toNat = h - 1 := by omega
  unfold ixN
  rw [if_pos e1, if_pos e2, e3]
theorem setAt_of {ts : List T} {k : Int} {j : Nat} {u : T} (h : ixN ts.length k = some j) : setAt ts (.int k) u = some (ts.set j u) := by
  have h0 : setAt ts (.int k) u = (ixN ts.length k).map fun j => ts.set j u := rfl
  rw [h0, h]
  rfl
theorem idx_first {t : T} {ts : List T} : fIdx (.lst (t :: ts)) (.int 0) = some (.sh t) := by
  have h0 : fIdx (.lst (t :: ts)) (.int 0) = (atI (t :: ts) 0).map Out.sh := rfl
  have h1 : atI (t :: ts) 0 = some t := by
    unfold atI ixN
    rw [if_pos (by decide), if_pos (by rw [List.length_cons]; omega)]
    rfl
  rw [h0, h1]
  rfl
abbrev lcRow : DE := dLc (dRng (dCons (dVar 2) dNil)) (gN 6) dYes (dOp fSub (dCall 2 f_law_take [] (cLend 0 (cVal (dOp fAdd (dOp fMul (dC (.int 2)) (dVar 3)) (dC (.int 1))) cNil))) (dVar 3)) [6]
theorem row_ok (h w : Nat) (hw : w ≤ 10) (a b : Int) (s4 x5 : Slot) : ∃ r a' b', r.length = w ∧ Bd 9 r ∧ lcRow [.ol true [.int a, .int b], .sh (.int h), .sh (.int w), .sh (.int 9), s4, x5, .un] = .ok (.fr (ti r)) [.ol true [.int a', .int b'], .sh (.int h), .sh (.int w), .sh (.int 9), s4, x5, .un] := by
  have hrg := rng0 (w := (w : Int)) (by omega) (by omega)
  rw [Int.toNat_natCast] at hrg
  obtain ⟨us, e2, ⟨a', b', rfl⟩, hl, hP, hrun⟩ := dLc_run (ts := (List.range w).map fun k => .int ((k : Nat) : Int)) (fun e => ∃ a b, e = [.ol true [.int a, .int b], .sh (.int h), .sh (.int w), .sh (.int 9), s4, x5, .un]) (fun _ u => ∃ y : Int, u = .int y ∧ y.natAbs ≤ 9)
    (di := dRng (dCons (dVar 2) dNil)) (g := gN 6) (de := dOp fSub (dCall 2 f_law_take [] (cLend 0 (cVal (dOp fAdd (dOp fMul (dC (.int 2)) (dVar 3)) (dC (.int 1))) cNil))) (dVar 3)) (vs := [6]) (e := [.ol true [.int a, .int b], .sh (.int h), .sh (.int w), .sh (.int 9), s4, x5, .un])
    (by rw [List.length_map, List.length_range]; omega) (r_rng (r_one (r_var (t := .int w) rfl)) hrg) ⟨a, b, rfl⟩ (fun t ht e he => by
      obtain ⟨a, b, rfl⟩ := he
      obtain ⟨v, a', b', h1, h2, h3⟩ := d_take (i := 0) (p := true) (a := a) (b := b) (m := 19) (e := [.ol true [.int a, .int b], .sh (.int h), .sh (.int w), .sh (.int 9), s4, x5, .sh t]) (dm := dOp fAdd (dOp fMul (dC (.int 2)) (dVar 3)) (dC (.int 1))) (by decide) (by decide) rfl (r_op (r_op r_c (r_var (t := .int 9) rfl) rfl) r_c rfl)
      exact ⟨_, _, _, r_gN (s0 := .un) rfl rfl, r_op h1 (r_var (t := .int 9) rfl) rfl, ⟨a', b', rfl⟩, ⟨v - 9, rfl, by omega⟩⟩)
  obtain ⟨r, rfl, hr⟩ := ints_of us (fun u hu => by
    obtain ⟨i, hi, rfl⟩ := List.getElem_of_mem hu
    rw [List.length_map, List.length_range] at hl
    exact hP i (.int ((i : Nat) : Int)) _ (by rw [List.getElem?_map, List.getElem?_range (by omega)]; rfl) (List.getElem?_eq_getElem hi))
  refine ⟨r, a', b', ?_, hr, hrun⟩
  rw [List.length_map, List.length_range] at hl
  rw [← hl, ti, List.length_map]
theorem rows_loop (h w : Nat) (hw : w ≤ 10) : ∀ (ts : List T) (M : List (List Int)) (a b : Int) (x : Slot), Slot.pk x = none → M.length + ts.length ≤ 1000 → Wd M w → (∀ r ∈ M, Bd 9 r) → ∃ M' a' b' x', M'.length = M.length + ts.length ∧ Wd M' w ∧ (∀ r ∈ M', Bd 9 r) ∧ Slot.pk x' = none ∧ forL (gN 5) (dApp 4 (dCB fTuple (dCons lcRow dNil))) ts [.ol true [.int a, .int b], .sh (.int h), .sh (.int w), .sh (.int 9), .ol false (M.map (row true)), x, .un] = .ok .nx [.ol true [.int a', .int b'], .sh (.int h), .sh (.int w), .sh (.int 9), .ol false (M'.map (row true)), x', .un]
  | [], M, a, b, x, hx, _, hW, hB => ⟨M, a, b, x, rfl, hW, hB, hx, rfl⟩
  | t :: ts, M, a, b, x, hx, hl, hW, hB => by
    rw [List.length_cons] at hl
    obtain ⟨r, a', b', h1, h2, h3⟩ := row_ok h w hw a b (.ol false (M.map (row true))) (.sh t)
    obtain ⟨M', a2, b2, x2, k1, k2, k3, k4, k5⟩ := rows_loop h w hw ts (M ++ [r]) a' b' (.sh t) rfl (by rw [List.length_append, List.length_singleton]; omega) (fun q hq => by
      rcases List.mem_append.mp hq with hq | hq
      · exact hW q hq
      · rw [List.mem_singleton.mp hq]; omega) (fun q hq => by
      rcases List.mem_append.mp hq with hq | hq
      · exact hB q hq
      · rw [List.mem_singleton.mp hq]; exact h2)
    refine ⟨M', a2, b2, x2, by rw [k1, List.length_append, List.length_singleton, List.length_cons]; omega, k2, k3, k4, ?_⟩
    have s1 : gN 5 t [.ol true [.int a, .int b], .sh (.int h), .sh (.int w), .sh (.int 9), .ol false (M.map (row true)), x, .un] = .ok .nx [.ol true [.int a, .int b], .sh (.int h), .sh (.int w), .sh (.int 9), .ol false (M.map (row true)), .sh t, .un] := r_gN (s0 := x) rfl hx
    have s2 : dApp 4 (dCB fTuple (dCons lcRow dNil)) [.ol true [.int a, .int b], .sh (.int h), .sh (.int w), .sh (.int 9), .ol false (M.map (row true)), .sh t, .un] = .ok .nx [.ol true [.int a', .int b'], .sh (.int h), .sh (.int w), .sh (.int 9), .ol false (M.map (row true) ++ [row true r]), .sh t, .un] :=
      r_app (p := false) (q := false) (us := M.map (row true)) (ts := M.map (row true)) (o := .sh (row true r)) rfl (r_cb (r_one h3) rfl) rfl (Nat.ble_eq_true_of_le (by rw [List.length_map]; omega))
    rw [show M.map (row true) ++ [row true r] = (M ++ [r]).map (row true) by rw [List.map_append]; rfl] at s2
    exact (r_forL s1 s2).trans k5
theorem r_setI {i : Nat} {da db : DE} {e e1 e2 : List Slot} {o b : Out} {p q : Bool} {us ts vs : List T} (ha : da e = .ok o e1) (h1 : e1[i]? = some (.ol p us)) (hb : db e1 = .ok b e2) (h2 : e2[i]? = some (.ol q ts)) (hs : setAt ts b.t o.t = some vs) : dSetI i db da e = .ok .nx (e2.set i (.ol q vs)) := by
  have h0 : dSetI i db da e = (da e).bind fun o e1 => onOl i e1 fun _ _ => (db e1).bind fun b e2 => onOl i e2 fun p ts => putOl i p e2 (setAt ts b.t o.t) := rfl
  rw [h0, ha]
  show onOl i e1 _ = _
  unfold onOl
  rw [h1]
  show (db e1).bind _ = _
  rw [hb]
  show (match e2[i]? with | some (.ol p ts) => putOl i p e2 (setAt ts b.t o.t) | _ => .bad) = _
  rw [h2]
  show putOl i q e2 (setAt ts b.t o.t) = _
  rw [hs]
  rfl
/-- what the drawn rows are -/
structure Drawn (M : List (List Int)) (h w : Nat) : Prop where
  len : M.length = h
  wd : Wd M w
  bd : ∀ r ∈ M, Bd 18 r
theorem bd_le {m n : Nat} (h : m ≤ n) {r : List Int} (b : Bd m r) : Bd n r := fun x hx => Nat.le_trans (b x hx) h
theorem rows_ok (h w : Nat) (hh : h ≤ 10) (hw : w ≤ 10) (a b : Int) : ∃ M a' b' r, f_law_rows [.ol true [.int a, .int b], .sh (.int h), .sh (.int w), .sh (.int 9)] = .ok (.sh (tm M)) (.ol true [.int a', .int b'] :: r) ∧ Drawn M h w := by
  obtain ⟨M, a1, b1, x5, k1, k2, k3, k4, k5⟩ := rows_loop h w hw ((List.range h).map fun k => .int ((k : Nat) : Int)) [] a b .un rfl (by rw [List.length_map, List.length_range, List.length_nil]; omega) (fun r hr => (nomatch hr)) (fun r hr => (nomatch hr))
  rw [List.length_map, List.length_range, List.length_nil, Nat.zero_add] at k1
  have hrg := rng0 (w := (h : Int)) (by omega) (by omega)
  rw [Int.toNat_natCast] at hrg
  have hrw := rng0 (w := (w : Int)) (by omega) (by omega)
  rw [Int.toNat_natCast] at hrw
  have start : ∀ {r : Res Fl} {d2 : DS}, d2 [.ol true [.int a1, .int b1], .sh (.int h), .sh (.int w), .sh (.int 9), .ol false (M.map (row true)), x5, .un] = r → dSeq (dSet 4 (dLst dNil)) (dSeq (dFor (dRng (dCons (dVar 1) dNil)) (gN 5) (dApp 4 (dCB fTuple (dCons lcRow dNil)))) d2) [.ol true [.int a, .int b], .sh (.int h), .sh (.int w), .sh (.int 9), .un, .un, .un] = r := by
    intro r d2 hd
    refine (r_seq (r_set (s0 := .un) (r_lst r_nil rfl) rfl rfl)).trans ?_
    exact (r_seq ((r_for (r_rng (r_one (r_var (t := .int h) rfl)) hrg)).trans k5)).trans hd
  have ret : ∀ (M : List (List Int)) (a b : Int) (x5 : Slot), dRet (dCB fTuple (dCons (dVar 4) dNil)) [.ol true [.int a, .int b], .sh (.int h), .sh (.int w), .sh (.int 9), .ol false (M.map (row true)), x5, .un] = .ok (.rt (.sh (tm M))) [.ol true [.int a, .int b], .sh (.int h), .sh (.int w), .sh (.int 9), .sh (.lst (M.map (row true))), x5, .un] := fun M a b x5 => r_ret (r_cb (r_one (r_varO rfl)) rfl)
  have hgt : fGt (.int h) (.int 1) = some (.sh (.bl (decide ((1 : Int) < h)))) := rfl
  by_cases h1 : 1 < h
  · obtain ⟨v, a2, b2, t1, t2, t3⟩ := d_take (i := 0) (p := true) (a := a1) (b := b1) (m := 5) (e := [.ol true [.int a1, .int b1], .sh (.int h), .sh (.int w), .sh (.int 9), .ol false (M.map (row true)), x5, .un]) (dm := dC (.int 5)) (by decide) (by decide) rfl r_c
    have tgt : dTst (dOp fGt (dVar 1) (dC (.int 1))) [.ol true [.int a1, .int b1], .sh (.int h), .sh (.int w), .sh (.int 9), .ol false (M.map (row true)), x5, .un] = .ok true [.ol true [.int a1, .int b1], .sh (.int h), .sh (.int w), .sh (.int 9), .ol false (M.map (row true)), x5, .un] := r_tst (r_op (r_var (t := .int h) rfl) r_c (by
      show fGt (.int h) (.int 1) = _
      rw [hgt, decide_eq_true (by omega)]))
    by_cases hv : v = 0
    · -- the last row is twice the first
      have teq : dTst (dOp fEq (dCall 2 f_law_take [] (cLend 0 (cVal (dC (.int 5)) cNil))) (dC (.int 0))) [.ol true [.int a1, .int b1], .sh (.int h), .sh (.int w), .sh (.int 9), .ol false (M.map (row true)), x5, .un] = .ok true [.ol true [.int a2, .int b2], .sh (.int h), .sh (.int w), .sh (.int 9), .ol false (M.map (row true)), x5, .un] := r_tst (r_op t1 r_c (by
        show fEq (.int v) (.int 0) = _
        rw [eq_int, decide_eq_true hv]))
      obtain ⟨r0, M0, rfl⟩ : ∃ r0 M0, M = r0 :: M0 := by
        cases M with
        | nil => rw [List.length_nil] at k1; omega
        | cons r0 M0 => exact ⟨r0, M0, rfl⟩
      have w0 := k2 r0 (List.mem_cons_self ..)
      have dbl : dLc (dRng (dCons (dVar 2) dNil)) (gN 6) dYes (dOp fMul (dIdx (dIdxN 4 (dC (.int 0))) (dVar 6)) (dC (.int 2))) [6] [.ol true [.int a2, .int b2], .sh (.int h), .sh (.int w), .sh (.int 9), .ol false ((r0 :: M0).map (row true)), x5, .un] = .ok (.fr (ti ((List.range w).map fun k => r0.getD k 0 * 2))) [.ol true [.int a2, .int b2], .sh (.int h), .sh (.int w), .sh (.int 9), .ol false ((r0 :: M0).map (row true)), x5, .un] := by
        rw [← ti_mapA]
        refine dLc_map1 (List.range w) (fun k => .int ((k : Nat) : Int)) (fun k => .int (r0.getD k 0 * 2)) [.ol true [.int a2, .int b2], .sh (.int h), .sh (.int w), .sh (.int 9), .ol false ((r0 :: M0).map (row true)), x5, .un] (fun k => [.ol true [.int a2, .int b2], .sh (.int h), .sh (.int w), .sh (.int 9), .ol false ((r0 :: M0).map (row true)), x5, .sh (.int ((k : Nat) : Int))]) (fun k => .sh (.int (r0.getD k 0 * 2))) (by rw [List.length_range]; omega) (r_rng (r_one (r_var (t := .int w) rfl)) hrw) fun k hk => ⟨r_gN (s0 := .un) rfl rfl, ?_⟩
        have hk := List.mem_range.mp hk
        refine r_op (r_op (r_idxO (p := false) (q := false) (us := (r0 :: M0).map (row true)) (ts := (r0 :: M0).map (row true)) (o := .sh (row true r0)) rfl r_c rfl idx_first) (r_var (t := .int ((k : Nat) : Int)) rfl) (idx_row (by omega))) r_c ?_
        show (if mulFits (r0.getD k 0) 2 then some (Out.sh (.int (r0.getD k 0 * 2))) else none) = _
        rw [if_pos (mulFits_r (by decide) _)]
      have hset : setAt ((r0 :: M0).map (row true)) (.int ((h : Int) - 1)) (row true ((List.range w).map fun k => r0.getD k 0 * 2)) = some (((r0 :: M0).set (h - 1) ((List.range w).map fun k => r0.getD k 0 * 2)).map (row true)) := by
        have hx : ixN ((r0 :: M0).map (row true)).length ((h : Int) - 1) = some (h - 1) := by
          rw [List.length_map, k1]
          exact ixN_last h h1
        rw [setAt_of hx, List.map_set]
      have hst := r_setI (i := 4) (da := dCB fTuple (dCons (dLc (dRng (dCons (dVar 2) dNil)) (gN 6) dYes (dOp fMul (dIdx (dIdxN 4 (dC (.int 0))) (dVar 6)) (dC (.int 2))) [6]) dNil)) (db := dOp fSub (dVar 1) (dC (.int 1))) (e := [.ol true [.int a2, .int b2], .sh (.int h), .sh (.int w), .sh (.int 9), .ol false ((r0 :: M0).map (row true)), x5, .un]) (r_cb (o := .sh (row true ((List.range w).map fun k => r0.getD k 0 * 2))) (r_one dbl) rfl) (p := false) (us := (r0 :: M0).map (row true)) rfl (r_op (r_var (t := .int h) rfl) r_c rfl) (q := false) (ts := (r0 :: M0).map (row true)) rfl hset
      refine ⟨(r0 :: M0).set (h - 1) ((List.range w).map fun k => r0.getD k 0 * 2), a2, b2, _, r_fn (start ((r_seq ((r_ifT ((r_andT tgt).trans teq)).trans hst)).trans (ret _ a2 b2 x5))), by rw [List.length_set]; exact k1, fun r hr => ?_, fun r hr => ?_⟩
      · rcases List.mem_or_eq_of_mem_set hr with hr | rfl
        · exact k2 r hr
        · rw [List.length_map, List.length_range]
      · rcases List.mem_or_eq_of_mem_set hr with hr | rfl
        · exact bd_le (by decide) (k3 r hr)
        · intro x hx
          obtain ⟨k, hk, rfl⟩ := List.mem_map.mp hx
          have hk := List.mem_range.mp hk
          have hin : r0.getD k 0 ∈ r0 := by
            rw [List.getD_eq_getElem?_getD, List.getElem?_eq_getElem (by omega)]
            exact List.getElem_mem _
          have := k3 r0 (List.mem_cons_self ..) _ hin
          omega
    · have teq : dTst (dOp fEq (dCall 2 f_law_take [] (cLend 0 (cVal (dC (.int 5)) cNil))) (dC (.int 0))) [.ol true [.int a1, .int b1], .sh (.int h), .sh (.int w), .sh (.int 9), .ol false (M.map (row true)), x5, .un] = .ok false [.ol true [.int a2, .int b2], .sh (.int h), .sh (.int w), .sh (.int 9), .ol false (M.map (row true)), x5, .un] := r_tst (r_op t1 r_c (by
        show fEq (.int v) (.int 0) = _
        rw [eq_int, decide_eq_false hv]))
      refine ⟨M, a2, b2, _, r_fn (start ((r_seq ((r_ifF ((r_andT tgt).trans teq)).trans r_nx)).trans (ret M a2 b2 x5))), k1, k2, fun r hr => bd_le (by decide) (k3 r hr)⟩
  · have tgt : dTst (dOp fGt (dVar 1) (dC (.int 1))) [.ol true [.int a1, .int b1], .sh (.int h), .sh (.int w), .sh (.int 9), .ol false (M.map (row true)), x5, .un] = .ok false [.ol true [.int a1, .int b1], .sh (.int h), .sh (.int w), .sh (.int 9), .ol false (M.map (row true)), x5, .un] := r_tst (r_op (r_var (t := .int h) rfl) r_c (by
      show fGt (.int h) (.int 1) = _
      rw [hgt, decide_eq_false (by omega)]))
    exact ⟨M, a1, b1, _, r_fn (start ((r_seq ((r_ifF (r_andF tgt)).trans r_nx)).trans (ret M a1 b1 x5))), k1, k2, fun r hr => bd_le (by decide) (k3 r hr)⟩
end L2.VD.K01

namespace L2.VD.K01
open PySem PySem.Spec PyProof.Rows

/-- a loop that folds: E lays the folded value and the leavings out as slots -/
theorem forL_fold {α β γ : Type} {g : DG} {b : DS} (mk : β → T) (step : α → β → α) (E : α → γ → List Slot) (ok : γ → Prop) (I : α → Nat → Prop) : ∀ (L : List β) (a : α) (x : γ), ok x → I a L.length →
    (∀ t ∈ L, ∀ a x n, ok x → I a (n + 1) → ∃ e1 x', ok x' ∧ I (step a t) n ∧ g (mk t) (E a x) = .ok .nx e1 ∧ b e1 = .ok .nx (E (step a t) x')) → ∃ x', ok x' ∧ forL g b (L.map mk) (E a x) = .ok .nx (E (L.foldl step a) x')
  | [], a, x, hx, _, _ => ⟨x, hx, rfl⟩
  | t :: L, a, x, hx, hI, h => by
    obtain ⟨e1, x1, k1, k2, k3, k4⟩ := h t (List.mem_cons_self ..) a x L.length hx hI
    obtain ⟨x', r1, r2⟩ := forL_fold mk step E ok I L (step a t) x1 k1 k2 fun s hs => h s (List.mem_cons_of_mem _ hs)
    exact ⟨x', r1, (r_forL k3 k4).trans r2⟩
theorem foldl_app {α β : Type} (f : β → α) : ∀ (L : List β) (acc : List α), L.foldl (fun acc b => acc ++ [f b]) acc = acc ++ L.map f
  | [], acc => by rw [List.foldl_nil, List.map_nil, List.append_nil]
  | b :: L, acc => by rw [List.foldl_cons, foldl_app f L, List.map_cons, List.append_assoc]; rfl
theorem idx_tm {M : List (List Int)} {j : Nat} (hj : j < M.length) : fIdx (tm M) (.int j) = some (.sh (row true (M.getD j []))) := by
  have h0 : fIdx (tm M) (.int j) = (atI (M.map (row true)) (j : Int)).map Out.sh := rfl
  have h1 : atI (M.map (row true)) (j : Int) = some (row true (M.getD j [])) := by
    unfold atI ixN
    have e1 : (0 : Int) ≤ (j : Int) := by omega
    have e2 : (j : Int) < ((M.map (row true)).length : Nat) := by rw [List.length_map]; omega
    rw [if_pos e1, if_pos e2]
    show (M.map (row true))[(j : Int).toNat]? = _
    rw [Int.toNat_natCast, List.getElem?_map, List.getElem?_eq_getElem hj, List.getD_eq_getElem?_getD, List.getElem?_eq_getElem hj]
    rfl
  rw [h0, h1]
  rfl
def sumJ (r : List Int) (B : List (List Int)) (k : Nat) : Int := (List.range B.length).foldl (fun t j => t + r.getD j 0 * (B.getD j []).getD k 0) 0
def prodM (A B : List (List Int)) (w : Nat) : List (List Int) := A.map fun r => (List.range w).map fun k => sumJ r B k
theorem lenN_tm {i : Nat} {e : List Slot} {M : List (List Int)} (h : e[i]? = some (.sh (tm M))) : dLenN i e = .ok (.sh (.int M.length)) e := by
  have := lenN_box (i := i) (e := e) (k := true) (ts := M.map (row true)) h
  rw [List.length_map] at this
  exact this
theorem product_ok (A B : List (List Int)) (w v : Nat) (hA : Wd A v) (hB : Wd B w) (hv : v = B.length) (hS : ∀ q ∈ A, Bd 1000 q) (hM : A.length ≤ 1000) (hN : B.length ≤ 1000) (hw : w ≤ 1000) : ∃ e', f_law_product [.sh (tm A), .sh (tm B), .sh (.int w)] = .ok (.sh (tm (prodM A B w))) e' := by
  have hrg := rng0 (w := (w : Int)) (by omega) (by omega)
  rw [Int.toNat_natCast] at hrg
  have hrb := rng0 (w := (B.length : Int)) (by omega) (by omega)
  rw [Int.toNat_natCast] at hrb
  -- one cell
  have cell : ∀ (out : List T) (r : List Int) (line : List T) (k : Nat), r ∈ A → k < w → ∀ (x8 : Slot), Slot.pk x8 = none → ∃ x8', Slot.pk x8' = none ∧ forL (gN 8) (dSet 7 (dOp fAdd (dVar 7) (dOp fMul (dIdxN 4 (dVar 8)) (dIdx (dIdxN 1 (dVar 8)) (dVar 6))))) ((List.range B.length).map fun k => .int ((k : Nat) : Int)) [.sh (tm A), .sh (tm B), .sh (.int w), .ol false out, .sh (row true r), .ol false line, .sh (.int k), .sh (.int 0), x8] = .ok .nx [.sh (tm A), .sh (tm B), .sh (.int w), .ol false out, .sh (row true r), .ol false line, .sh (.int k), .sh (.int (sumJ r B k)), x8'] := by
    intro out r line k hr hk x8 hx8
    have hl := hA r hr
    refine forL_fold (α := Int) (γ := Slot) (fun j : Nat => .int (j : Int)) (fun t j => t + r.getD j 0 * (B.getD j []).getD k 0) (fun t x => [.sh (tm A), .sh (tm B), .sh (.int w), .ol false out, .sh (row true r), .ol false line, .sh (.int k), .sh (.int t), x]) (fun x => Slot.pk x = none) (fun _ _ => True) (List.range B.length) 0 x8 hx8 trivial fun j hj t x n hx _ => ?_
    have hj := List.mem_range.mp hj
    have hBj : ((B.getD j []).length : Int) = w := by
      refine hB _ ?_
      rw [List.getD_eq_getElem?_getD, List.getElem?_eq_getElem hj]
      exact List.getElem_mem _
    have hin : r.getD j 0 ∈ r := by
      rw [List.getD_eq_getElem?_getD, List.getElem?_eq_getElem (by omega)]
      exact List.getElem_mem _
    refine ⟨_, .sh (.int j), rfl, trivial, r_gN (s0 := x) rfl hx, ?_⟩
    refine r_set (s0 := .sh (.int t)) (o := .sh (.int (t + r.getD j 0 * (B.getD j []).getD k 0))) (r_op (r_var (t := .int t) rfl) (r_op (a := .sh (.int (r.getD j 0))) (b := .sh (.int ((B.getD j []).getD k 0))) (o := .sh (.int (r.getD j 0 * (B.getD j []).getD k 0))) (r_idxN (t := row true r) rfl (r_var (t := .int (j : Int)) rfl) (idx_row (by omega))) (r_op (r_idxN (t := tm B) rfl (r_var (t := .int (j : Int)) rfl) (idx_tm hj)) (r_var (t := .int (k : Int)) rfl) (idx_row (by omega))) ?_) rfl) rfl rfl
    show (if mulFits (r.getD j 0) ((B.getD j []).getD k 0) then some (Out.sh (.int (r.getD j 0 * (B.getD j []).getD k 0))) else none) = _
    rw [if_pos (mulFits_l (by have := hS r hr _ hin; omega) _)]
  -- one line
  have line : ∀ (out : List T) (r : List Int), r ∈ A → ∀ (x : Slot × Slot × Slot), (Slot.pk x.1 = none ∧ Slot.pk x.2.1 = none ∧ Slot.pk x.2.2 = none) → ∃ x' : Slot × Slot × Slot, (Slot.pk x'.1 = none ∧ Slot.pk x'.2.1 = none ∧ Slot.pk x'.2.2 = none) ∧ forL (gN 6) (dSeq (dSet 7 (dC (.int 0))) (dSeq (dFor (dRng (dCons (dLenN 1) dNil)) (gN 8) (dSet 7 (dOp fAdd (dVar 7) (dOp fMul (dIdxN 4 (dVar 8)) (dIdx (dIdxN 1 (dVar 8)) (dVar 6)))))) (dApp 5 (dVar 7)))) ((List.range w).map fun k => .int ((k : Nat) : Int)) [.sh (tm A), .sh (tm B), .sh (.int w), .ol false out, .sh (row true r), .ol false [], x.1, x.2.1, x.2.2] = .ok .nx [.sh (tm A), .sh (tm B), .sh (.int w), .ol false out, .sh (row true r), .ol false (ti ((List.range w).map fun k => sumJ r B k)), x'.1, x'.2.1, x'.2.2] := by
    intro out r hr x hx
    obtain ⟨x', k1, k2⟩ := forL_fold (g := gN 6) (b := dSeq (dSet 7 (dC (.int 0))) (dSeq (dFor (dRng (dCons (dLenN 1) dNil)) (gN 8) (dSet 7 (dOp fAdd (dVar 7) (dOp fMul (dIdxN 4 (dVar 8)) (dIdx (dIdxN 1 (dVar 8)) (dVar 6)))))) (dApp 5 (dVar 7)))) (α := List T) (γ := Slot × Slot × Slot) (fun k : Nat => .int (k : Int)) (fun acc k => acc ++ [.int (sumJ r B k)]) (fun acc x => [.sh (tm A), .sh (tm B), .sh (.int w), .ol false out, .sh (row true r), .ol false acc, x.1, x.2.1, x.2.2]) (fun x => Slot.pk x.1 = none ∧ Slot.pk x.2.1 = none ∧ Slot.pk x.2.2 = none) (fun acc n => acc.length + n ≤ 1000) (List.range w) [] x hx (by rw [List.length_range, List.length_nil]; omega) (fun k hk acc x n hx hI => by
      have hk := List.mem_range.mp hk
      obtain ⟨x8, c1, c2⟩ := cell out r acc k hr hk x.2.2 hx.2.2
      refine ⟨_, (.sh (.int k), .sh (.int (sumJ r B k)), x8), ⟨rfl, rfl, c1⟩, by rw [List.length_append, List.length_singleton]; omega, r_gN (s0 := x.1) rfl hx.1, ?_⟩
      refine (r_seq (r_set (s0 := x.2.1) r_c rfl hx.2.1)).trans ((r_seq ((r_for (r_rng (r_one (lenN_tm rfl)) hrb)).trans c2)).trans ?_)
      exact r_app (p := false) (q := false) (us := acc) (ts := acc) (o := .sh (.int (sumJ r B k))) rfl (r_var rfl) rfl (Nat.ble_eq_true_of_le (by omega)))
    refine ⟨x', k1, ?_⟩
    rw [foldl_app (fun k => T.int (sumJ r B k)) (List.range w) [], List.nil_append, ti_mapA (L := List.range w) (f := fun k => sumJ r B k)] at k2
    exact k2
  obtain ⟨x', k1, k2⟩ := forL_fold (g := gN 4) (b := dSeq (dSet 5 (dLst dNil)) (dSeq (dFor (dRng (dCons (dVar 2) dNil)) (gN 6) (dSeq (dSet 7 (dC (.int 0))) (dSeq (dFor (dRng (dCons (dLenN 1) dNil)) (gN 8) (dSet 7 (dOp fAdd (dVar 7) (dOp fMul (dIdxN 4 (dVar 8)) (dIdx (dIdxN 1 (dVar 8)) (dVar 6)))))) (dApp 5 (dVar 7))))) (dApp 3 (dCB fTuple (dCons (dVar 5) dNil))))) (α := List T) (γ := Slot × Slot × Slot × Slot × Slot) (fun r : List Int => row true r) (fun acc r => acc ++ [row true ((List.range w).map fun k => sumJ r B k)]) (fun acc x => [.sh (tm A), .sh (tm B), .sh (.int w), .ol false acc, x.1, x.2.1, x.2.2.1, x.2.2.2.1, x.2.2.2.2]) (fun x => Slot.pk x.1 = none ∧ Slot.pk x.2.1 = none ∧ Slot.pk x.2.2.1 = none ∧ Slot.pk x.2.2.2.1 = none ∧ Slot.pk x.2.2.2.2 = none) (fun acc n => acc.length + n ≤ 1000) A [] (.un, .un, .un, .un, .un) ⟨rfl, rfl, rfl, rfl, rfl⟩ (by rw [List.length_nil]; omega) (fun r hr acc x n hx hI => by
      obtain ⟨x2, c1, c2⟩ := line acc r hr (x.2.2.1, x.2.2.2.1, x.2.2.2.2) ⟨hx.2.2.1, hx.2.2.2.1, hx.2.2.2.2⟩
      refine ⟨_, (.sh (row true r), .sh (.lst (ti ((List.range w).map fun k => sumJ r B k))), x2.1, x2.2.1, x2.2.2), ⟨rfl, rfl, c1.1, c1.2.1, c1.2.2⟩, by rw [List.length_append, List.length_singleton]; omega, r_gN (s0 := x.1) rfl hx.1, ?_⟩
      refine (r_seq (r_set (s0 := x.2.1) (r_lst r_nil rfl) rfl hx.2.1)).trans ((r_seq ((r_for (r_rng (r_one (r_var (t := .int w) rfl)) hrg)).trans c2)).trans ?_)
      exact r_app (p := false) (q := false) (us := acc) (ts := acc) (o := .sh (row true ((List.range w).map fun k => sumJ r B k))) rfl (r_cb (r_one (r_varO rfl)) rfl) rfl (Nat.ble_eq_true_of_le (by omega)))
  rw [foldl_app (fun r => row true ((List.range w).map fun k => sumJ r B k)) A [], List.nil_append] at k2
  refine ⟨_, r_fn ((r_seq (r_set (s0 := .un) (r_lst r_nil rfl) rfl rfl)).trans ((r_seq ((r_for (r_items (r_var (t := tm A) rfl) (items_tm A))).trans k2)).trans (r_ret (r_cb (r_one (r_varO rfl)) ?_))))⟩
  show some (Out.sh (.tup _)) = some (Out.sh (.tup _))
  rw [prodM, List.map_map]
  rfl
end L2.VD.K01

namespace L2.VD.K01
open PySem PySem.Spec PyProof.Rows

abbrev tG : List (Nat × Bool) := [(0, false), (1, false), (2, false), (3, false), (4, false), (5, false), (8, true)]
abbrev tT : List (Nat × Bool) := [(0, false), (1, false), (2, false), (3, false), (4, true), (5, false), (8, false)]
theorem is_rows_ok (M : List (List Int)) (w : Int) (hW : Wd M w) (hM : M.length ≤ 1000) (e : List Slot) : runF f_law_is_rows [.v (gr M w), .v (.int M.length), .v (.int w)] e = .ok (.sh (.bl true)) e := by
  have items : ∀ (a3 : T) (r : List Int) (x : Slot), Slot.pk x = none → ∃ x', Slot.pk x' = none ∧ forL (gN 4) (dIfS (dOr (dNot (dTru (dIsi (tab [(0, false), (1, true), (2, true), (3, false), (4, false), (5, false), (8, false)]) (dVar 4)))) (dTru (dIsi (tab [(0, false), (1, true), (2, false), (3, false), (4, false), (5, false), (8, false)]) (dVar 4)))) (dRet (dC (.bl false))) dNx) (r.map T.int) [.sh (gr M w), .sh (.int M.length), .sh (.int w), .sh a3, x] = .ok .nx [.sh (gr M w), .sh (.int M.length), .sh (.int w), .sh a3, x'] := by
    intro a3 r x hx
    exact forL_fold (α := Unit) (γ := Slot) T.int (fun _ _ => ()) (fun _ x => [.sh (gr M w), .sh (.int M.length), .sh (.int w), .sh a3, x]) (fun x => Slot.pk x = none) (fun _ _ => True) r () x hx trivial fun i hi _ x n hx _ =>
      ⟨_, .sh (.int i), rfl, trivial, r_gN (s0 := x) rfl hx, (r_ifF ((r_orF (r_not (r_truB (r_isi (k := true) (r_var (t := .int i) rfl) rfl)))).trans (r_truB (r_isi (k := false) (r_var (t := .int i) rfl) rfl)))).trans r_nx⟩
  obtain ⟨x', k1, k2⟩ := forL_fold (g := gN 3) (b := dSeq (dIfS (dOr (dNot (dTru (dIsi (tab [(0, false), (1, false), (2, false), (3, false), (4, true), (5, false), (8, false)]) (dVar 3)))) (dTst (dOp fNe (dLenN 3) (dVar 2)))) (dRet (dC (.bl false))) dNx) (dFor (dItems (dVar 3)) (gN 4) (dIfS (dOr (dNot (dTru (dIsi (tab [(0, false), (1, true), (2, true), (3, false), (4, false), (5, false), (8, false)]) (dVar 4)))) (dTru (dIsi (tab [(0, false), (1, true), (2, false), (3, false), (4, false), (5, false), (8, false)]) (dVar 4)))) (dRet (dC (.bl false))) dNx)))
    (α := Unit) (γ := Slot × Slot) (row true) (fun _ _ => ()) (fun _ x => [.sh (gr M w), .sh (.int M.length), .sh (.int w), x.1, x.2]) (fun x => Slot.pk x.1 = none ∧ Slot.pk x.2 = none) (fun _ _ => True) M () (.un, .un) ⟨rfl, rfl⟩ trivial fun r hr _ x n hx _ => by
      obtain ⟨x4, c1, c2⟩ := items (row true r) r x.2 hx.2
      refine ⟨_, (.sh (row true r), x4), ⟨rfl, c1⟩, trivial, r_gN (s0 := x.1) rfl hx.1, ?_⟩
      have hn : fNe (.int r.length) (.int w) = some (.sh (.bl false)) := by rw [ne_int, hW r hr]; simp
      refine (r_seq ((r_ifF ((r_orF (r_not (r_truB (r_isi (k := true) (r_var (t := row true r) rfl) rfl)))).trans (r_tst (r_op (lenN_row (k := true) (r := r) rfl) (r_var (t := .int w) rfl) hn)))).trans r_nx)).trans ?_
      exact (r_for (r_items (r_var (t := row true r) rfl) rfl)).trans c2
  have h1 : fNe (.int w) (.int w) = some (.sh (.bl false)) := by rw [ne_int]; simp
  have h2 : fNe (.int M.length) (.int M.length) = some (.sh (.bl false)) := by rw [ne_int]; simp
  have f0 : dFld (tab [(2, 0)]) (dVar 0) [.sh (gr M w), .sh (.int M.length), .sh (.int w), .un, .un] = .ok (.sh (tm M)) [.sh (gr M w), .sh (.int M.length), .sh (.int w), .un, .un] := fld0 rfl
  have f1 : dFld (tab [(2, 1)]) (dVar 0) [.sh (gr M w), .sh (.int M.length), .sh (.int w), .un, .un] = .ok (.sh (.int w)) [.sh (gr M w), .sh (.int M.length), .sh (.int w), .un, .un] := fld1 rfl
  refine runF_eq (ss := [.sh (gr M w), .sh (.int M.length), .sh (.int w)]) rfl rfl (e' := [.sh (gr M w), .sh (.int M.length), .sh (.int w), x'.1, x'.2]) (r_fn ?_)
  refine (r_seq ((r_ifF ((r_orF (r_not (r_truB (r_isi (k := true) (r_var (t := gr M w) rfl) rfl)))).trans ((r_orF (r_not (r_truB (r_isi (k := true) f0 rfl)))).trans ((r_orF (r_tst (r_op f1 (r_var (t := .int w) rfl) h1))).trans (r_tst (r_op (r_cb (r_one (r_var (t := gr M w) rfl)) (len_own M w hM)) (r_var (t := .int M.length) rfl) h2)))))).trans r_nx)).trans ?_
  exact (r_seq ((r_for (r_items f0 (items_tm M))).trans k2)).trans (r_ret r_c)
def dgM (r : List Int) : List (List Int) := (List.range r.length).map fun i => (List.range r.length).map fun k => if ((i : Nat) : Int) = ((k : Nat) : Int) then r.getD i 0 else 0
theorem run_diagonal (r : List Int) (hr : r.length ≤ 1000) (e : List Slot) : runF f_diagonal [.v (row true r)] e = .ok (.sh (gr (dgM r) r.length)) e := by
  have hrg := rng0 (w := (r.length : Int)) (by omega) (by omega)
  rw [Int.toNat_natCast] at hrg
  have comp : dLc (dRng (dCons (dVar 1) dNil)) (gN 2) dYes (dLc (dRng (dCons (dVar 1) dNil)) (gN 3) dYes (dIf (dTst (dOp fEq (dVar 2) (dVar 3))) (dIdxN 0 (dVar 2)) (dC (.int 0))) [3]) [2] [.sh (row true r), .sh (.int r.length), .un, .un] = .ok (.fr ((dgM r).map (row false))) [.sh (row true r), .sh (.int r.length), .un, .un] := by
    unfold dgM
    rw [← rows_of]
    refine dLc_map1 (List.range r.length) (fun k => .int ((k : Nat) : Int)) (fun i => row false ((List.range r.length).map fun k => if ((i : Nat) : Int) = ((k : Nat) : Int) then r.getD i 0 else 0)) [.sh (row true r), .sh (.int r.length), .un, .un] (fun i => [.sh (row true r), .sh (.int r.length), .sh (.int ((i : Nat) : Int)), .un]) (fun i => .fr (ti ((List.range r.length).map fun k => if ((i : Nat) : Int) = ((k : Nat) : Int) then r.getD i 0 else 0))) (by rw [List.length_range]; exact hr) (r_rng (r_one (r_var (t := .int r.length) rfl)) hrg) fun i hi => ⟨r_gN (s0 := .un) rfl rfl, ?_⟩
    have hi := List.mem_range.mp hi
    rw [← ti_mapA]
    refine dLc_map1 (List.range r.length) (fun k => .int ((k : Nat) : Int)) (fun k => .int (if ((i : Nat) : Int) = ((k : Nat) : Int) then r.getD i 0 else 0)) [.sh (row true r), .sh (.int r.length), .sh (.int ((i : Nat) : Int)), .un] (fun k => [.sh (row true r), .sh (.int r.length), .sh (.int ((i : Nat) : Int)), .sh (.int ((k : Nat) : Int))]) (fun k => .sh (.int (if ((i : Nat) : Int) = ((k : Nat) : Int) then r.getD i 0 else 0))) (by rw [List.length_range]; exact hr) (r_rng (r_one (r_var (t := .int r.length) rfl)) hrg) fun k hk => ⟨r_gN (s0 := .un) rfl rfl, ?_⟩
    refine (r_ifE (r_tst (r_op (r_var (t := .int ((i : Nat) : Int)) rfl) (r_var (t := .int ((k : Nat) : Int)) rfl) (eq_int _ _)))).trans ?_
    by_cases h : ((i : Nat) : Int) = ((k : Nat) : Int)
    · rw [decide_eq_true h, if_pos rfl, if_pos h]
      exact r_idxN (t := row true r) rfl (r_var (t := .int ((i : Nat) : Int)) rfl) (idx_row hi)
    · rw [decide_eq_false h, if_neg (by decide), if_neg h]
      exact r_c
  refine runF_eq (ss := [.sh (row true r)]) rfl rfl (e' := [.sh (row true r), .sh (.int r.length), .un, .un]) (r_fn ((r_seq (r_set (s0 := .un) (lenN_row (k := true) (r := r) rfl) rfl rfl)).trans (r_ret ?_)))
  refine (r_make (r_two comp (r_var (t := .int r.length) rfl)) rfl).trans ?_
  exact mk_ok false false (M := dgM r) (w := r.length) (fun q hq => by
    obtain ⟨i, hi, rfl⟩ := List.mem_map.mp hq
    rw [List.length_map, List.length_range]) (by unfold dgM; rw [List.length_map, List.length_range]; exact hr) _
end L2.VD.K01

namespace L2.VD.K01
open PySem PySem.Spec PyProof.Rows

def zs (n : Nat) : List Int := (List.range n).map fun _ => 0
theorem zs_len (n : Nat) : (zs n).length = n := by unfold zs; rw [List.length_map, List.length_range]
def blM (A B : List (List Int)) (w v : Nat) : List (List Int) := (A.map fun r => r ++ zs v) ++ (B.map fun r => zs w ++ r)
theorem add_rows (r s : List Int) (h : r.length + s.length ≤ 5000) : fAdd (.lst (ti r)) (.lst (ti s)) = some (.fr (ti (r ++ s))) := by
  have h0 : fAdd (.lst (ti r)) (.lst (ti s)) = (if fits ((ti r).length + (ti s).length) then some (Out.fr (ti r ++ ti s)) else none) := rfl
  have h1 : fits ((ti r).length + (ti s).length) = true := Nat.ble_eq_true_of_le (by rw [ti, ti, List.length_map, List.length_map]; omega)
  rw [h0, if_pos h1, ti, ti, ti, List.map_append]
theorem run_blocks (A B : List (List Int)) (w v : Nat) (hA : Wd A w) (hB : Wd B v) (hM : A.length ≤ 400) (hN : B.length ≤ 400) (hw : w ≤ 400) (hv : v ≤ 400) (e : List Slot) : runF f_blocks [.v (gr A w), .v (gr B v)] e = .ok (.sh (gr (blM A B w v) (w + v))) e := by
  have hrw := rng0 (w := (w : Int)) (by omega) (by omega)
  rw [Int.toNat_natCast] at hrw
  have hrv := rng0 (w := (v : Int)) (by omega) (by omega)
  rw [Int.toNat_natCast] at hrv
  have fA : ∀ s2 s3 s4 s5, dFld (tab [(2, 0)]) (dVar 0) [.sh (gr A w), .sh (gr B v), s2, s3, s4, s5] = .ok (.sh (tm A)) [.sh (gr A w), .sh (gr B v), s2, s3, s4, s5] := fun _ _ _ _ => fld0 rfl
  have fB : ∀ s2 s3 s4 s5, dFld (tab [(2, 0)]) (dVar 1) [.sh (gr A w), .sh (gr B v), s2, s3, s4, s5] = .ok (.sh (tm B)) [.sh (gr A w), .sh (gr B v), s2, s3, s4, s5] := fun _ _ _ _ => fld0 rfl
  have wA : ∀ s2 s3 s4 s5, dFld (tab [(2, 1)]) (dVar 0) [.sh (gr A w), .sh (gr B v), s2, s3, s4, s5] = .ok (.sh (.int w)) [.sh (gr A w), .sh (gr B v), s2, s3, s4, s5] := fun _ _ _ _ => fld1 rfl
  have wB : ∀ s2 s3 s4 s5, dFld (tab [(2, 1)]) (dVar 1) [.sh (gr A w), .sh (gr B v), s2, s3, s4, s5] = .ok (.sh (.int v)) [.sh (gr A w), .sh (gr B v), s2, s3, s4, s5] := fun _ _ _ _ => fld1 rfl
  have zv : ∀ s2 s4, dLc (dRng (dCons (dFld (tab [(2, 1)]) (dVar 1)) dNil)) (gN 5) dYes (dC (.int 0)) [5] [.sh (gr A w), .sh (gr B v), s2, .un, s4, .un] = .ok (.fr (ti (zs v))) [.sh (gr A w), .sh (gr B v), s2, .un, s4, .un] := fun s2 s4 => by
    unfold zs
    rw [← ti_mapA]
    exact dLc_map1 (List.range v) (fun k => .int ((k : Nat) : Int)) (fun _ => .int 0) [.sh (gr A w), .sh (gr B v), s2, .un, s4, .un] (fun k => [.sh (gr A w), .sh (gr B v), s2, .un, s4, .sh (.int ((k : Nat) : Int))]) (fun _ => .sh (.int 0)) (by rw [List.length_range]; omega) (r_rng (r_one (wB _ _ _ _)) hrv) fun k hk => ⟨r_gN (s0 := .un) rfl rfl, r_c⟩
  have zw : ∀ s2 s4, dLc (dRng (dCons (dFld (tab [(2, 1)]) (dVar 0)) dNil)) (gN 5) dYes (dC (.int 0)) [5] [.sh (gr A w), .sh (gr B v), s2, .un, s4, .un] = .ok (.fr (ti (zs w))) [.sh (gr A w), .sh (gr B v), s2, .un, s4, .un] := fun s2 s4 => by
    unfold zs
    rw [← ti_mapA]
    exact dLc_map1 (List.range w) (fun k => .int ((k : Nat) : Int)) (fun _ => .int 0) [.sh (gr A w), .sh (gr B v), s2, .un, s4, .un] (fun k => [.sh (gr A w), .sh (gr B v), s2, .un, s4, .sh (.int ((k : Nat) : Int))]) (fun _ => .sh (.int 0)) (by rw [List.length_range]; omega) (r_rng (r_one (wA _ _ _ _)) hrw) fun k hk => ⟨r_gN (s0 := .un) rfl rfl, r_c⟩
  have high : dLc (dItems (dFld (tab [(2, 0)]) (dVar 0))) (gN 4) dYes (dOp fAdd (dCB fList (dCons (dVar 4) dNil)) (dLc (dRng (dCons (dFld (tab [(2, 1)]) (dVar 1)) dNil)) (gN 5) dYes (dC (.int 0)) [5])) [4] [.sh (gr A w), .sh (gr B v), .un, .un, .un, .un] = .ok (.fr ((A.map fun r => r ++ zs v).map (row false))) [.sh (gr A w), .sh (gr B v), .un, .un, .un, .un] := by
    rw [← rows_of]
    refine dLc_map1 A (row true) (fun r => row false (r ++ zs v)) [.sh (gr A w), .sh (gr B v), .un, .un, .un, .un] (fun r => [.sh (gr A w), .sh (gr B v), .un, .un, .sh (row true r), .un]) (fun r => .fr (ti (r ++ zs v))) (by omega) (r_items (fA _ _ _ _) (items_tm A)) fun r hr => ⟨r_gN (s0 := .un) rfl rfl, ?_⟩
    have := hA r hr
    exact r_op (r_cb (o := .fr (ti r)) (r_one (r_var (t := row true r) rfl)) rfl) (zv _ _) (add_rows r (zs v) (by rw [zs_len]; omega))
  have low : ∀ s2, dLc (dItems (dFld (tab [(2, 0)]) (dVar 1))) (gN 4) dYes (dOp fAdd (dLc (dRng (dCons (dFld (tab [(2, 1)]) (dVar 0)) dNil)) (gN 5) dYes (dC (.int 0)) [5]) (dCB fList (dCons (dVar 4) dNil))) [4] [.sh (gr A w), .sh (gr B v), s2, .un, .un, .un] = .ok (.fr ((B.map fun r => zs w ++ r).map (row false))) [.sh (gr A w), .sh (gr B v), s2, .un, .un, .un] := fun s2 => by
    rw [← rows_of]
    refine dLc_map1 B (row true) (fun r => row false (zs w ++ r)) [.sh (gr A w), .sh (gr B v), s2, .un, .un, .un] (fun r => [.sh (gr A w), .sh (gr B v), s2, .un, .sh (row true r), .un]) (fun r => .fr (ti (zs w ++ r))) (by omega) (r_items (fB _ _ _ _) (items_tm B)) fun r hr => ⟨r_gN (s0 := .un) rfl rfl, ?_⟩
    have := hB r hr
    exact r_op (zw _ _) (r_cb (o := .fr (ti r)) (r_one (r_var (t := row true r) rfl)) rfl) (add_rows (zs w) r (by rw [zs_len]; omega))
  have hadd : fAdd (.lst ((A.map fun r => r ++ zs v).map (row false))) (.lst ((B.map fun r => zs w ++ r).map (row false))) = some (.fr ((blM A B w v).map (row false))) := by
    have h0 : ∀ a b : List T, fAdd (.lst a) (.lst b) = (if fits (a.length + b.length) then some (Out.fr (a ++ b)) else none) := fun _ _ => rfl
    rw [h0, if_pos (Nat.ble_eq_true_of_le (by rw [List.length_map, List.length_map, List.length_map, List.length_map]; omega)), blM, List.map_append]
  refine runF_eq (ss := [.sh (gr A w), .sh (gr B v)]) rfl rfl (e' := [.sh (gr A w), .sh (gr B v), .sh (.lst ((A.map fun r => r ++ zs v).map (row false))), .sh (.lst ((B.map fun r => zs w ++ r).map (row false))), .un, .un]) (r_fn ?_)
  refine (r_seq (r_set (s0 := .un) high rfl rfl)).trans ((r_seq (r_set (s0 := .un) (low _) rfl rfl)).trans (r_ret ?_))
  refine (r_make (r_two (r_op (r_varO (ts := (A.map fun r => r ++ zs v).map (row false)) rfl) (r_varO (ts := (B.map fun r => zs w ++ r).map (row false)) rfl) hadd) (r_op (wA _ _ _ _) (wB _ _ _ _) rfl)) rfl).trans ?_
  exact mk_ok false false (M := blM A B w v) (w := w + v) (fun q hq => by
    rcases List.mem_append.mp hq with hq | hq
    · obtain ⟨r, hr, rfl⟩ := List.mem_map.mp hq
      have := hA r hr
      rw [List.length_append, zs_len]; omega
    · obtain ⟨r, hr, rfl⟩ := List.mem_map.mp hq
      have := hB r hr
      rw [List.length_append, zs_len]; omega) (by unfold blM; rw [List.length_append, List.length_map, List.length_map]; omega) _
theorem r_setF {i k c : Nat} {fi : Nat → Option Nat} {da : DE} {e e1 : List Slot} {o : Out} {ts : List T} (ha : da e = .ok o e1) (h : e1[i]? = some (.oi c ts)) (hk : fi c = some k) (hl : (Nat.beq ts.length k && decide (k < 900)) = true) : dSetF i fi da e = .ok .nx (e1.set i (.oi c (ts ++ [o.t]))) := by
  unfold dSetF
  rw [ha]
  show (match e1[i]? with | some (.oi c ts) => (match fi c with | some k => (if Nat.beq ts.length k && decide (k < 900) then Res.ok Fl.nx (e1.set i (.oi c (ts ++ [o.t]))) else .bad) | none => .bad) | _ => .bad) = _
  rw [h]
  show (match fi c with | some k => (if Nat.beq ts.length k && decide (k < 900) then Res.ok Fl.nx (e1.set i (.oi c (ts ++ [o.t]))) else .bad) | none => .bad) = _
  rw [hk]
  show (if Nat.beq ts.length k && decide (k < 900) then _ else _) = _
  rw [if_pos hl]
/-- Grid(rows) with rows -/
theorem init_none (k1 k2 : Bool) (r0 : List Int) (M : List (List Int)) (hw : Wd (r0 :: M) r0.length) (hM : (r0 :: M).length ≤ 1000) : ∃ e', f_Grid_init [.oi 2 [], .sh (box k1 ((r0 :: M).map (row k2))), .sh .non] = .ok (.sh .non) e' ∧ e'[0]? = some (.oi 2 [tm (r0 :: M), .int r0.length]) := by
  have hsq : ∀ ts : List T, tab [(0, false), (1, false), (2, false), (3, false), (4, true), (5, true), (8, false)] (box k1 ts).kind = some true := fun ts => isi_box k1 ts
  have hidx : fIdx (box k1 ((r0 :: M).map (row k2))) (.int 0) = some (.sh (row k2 r0)) := by
    cases k1
    · exact idx_first
    · have h0 : ∀ (t : T) (ts : List T), fIdx (.tup (t :: ts)) (.int 0) = (atI (t :: ts) 0).map Out.sh := fun _ _ => rfl
      have h1 : ∀ (t : T) (ts : List T), fIdx (.lst (t :: ts)) (.int 0) = (atI (t :: ts) 0).map Out.sh := fun _ _ => rfl
      show fIdx (.tup (row k2 r0 :: M.map (row k2))) (.int 0) = _
      rw [h0, ← h1, idx_first]
  have hlen : fLen [row k2 r0] = some (.sh (.int r0.length)) := by
    cases k2
    · show some (Out.sh (.int (ti r0).length)) = _
      rw [ti, List.length_map]
    · show some (Out.sh (.int (ti r0).length)) = _
      rw [ti, List.length_map]
  refine ⟨[.oi 2 [tm (r0 :: M), .int r0.length], .sh (box k1 ((r0 :: M).map (row k2))), .sh (.int r0.length)], ?_, rfl⟩
  have l1 : ∀ s2, dLenN 1 [.oi 2 [], .sh (box k1 ((r0 :: M).map (row k2))), s2] = .ok (.sh (.int ((r0 :: M).map (row k2)).length)) [.oi 2 [], .sh (box k1 ((r0 :: M).map (row k2))), s2] := fun s2 => lenN_box (k := k1) rfl
  have hgt : fGt (.int ((r0 :: M).map (row k2)).length) (.int 0) = some (.sh (.bl true)) := by
    have h0 : ∀ a b : Int, fGt (.int a) (.int b) = some (.sh (.bl (decide (b < a)))) := fun _ _ => rfl
    rw [h0, decide_eq_true (by rw [List.length_map, List.length_cons]; omega)]
  have i0 : ∀ s2, dIdxN 1 (dC (.int 0)) [.oi 2 [], .sh (box k1 ((r0 :: M).map (row k2))), s2] = .ok (.sh (row k2 r0)) [.oi 2 [], .sh (box k1 ((r0 :: M).map (row k2))), s2] := fun s2 => r_idxN (t := box k1 ((r0 :: M).map (row k2))) rfl r_c hidx
  have v1 : ∀ s0 s2, dVar 1 [s0, .sh (box k1 ((r0 :: M).map (row k2))), s2] = .ok (.sh (box k1 ((r0 :: M).map (row k2)))) [s0, .sh (box k1 ((r0 :: M).map (row k2))), s2] := fun s0 s2 => r_var rfl
  refine r_fnN ((r_seq ((r_ifF (r_not (r_truB (r_isi (k := true) (v1 _ _) (hsq _))))).trans r_nx)).trans ?_)
  refine (r_seq ((r_ifT (r_tst (r_op (r_var (t := .non) rfl) r_c rfl))).trans ((r_seq (r_set (s0 := .sh .non) r_c rfl rfl)).trans ((r_ifT ((r_andT (r_tst (r_op (l1 _) r_c hgt))).trans (r_truB (r_isi (k := true) (i0 _) (isi_row k2 r0))))).trans (r_set (s0 := .sh (.int 0)) (r_cb (r_one (i0 _)) hlen) rfl rfl))))).trans ?_
  refine (r_seq (r_setF (c := 2) (ts := []) (o := .sh (tm (r0 :: M))) ((r_call1 (r_cval (v1 _ _) (r_cval (r_var (t := .int r0.length) rfl) r_cnil)) rfl).trans (checked_in k1 k2 (r0 :: M) r0.length hw hM _)) rfl tb0 rfl)).trans ?_
  exact r_setF (c := 2) (ts := [tm (r0 :: M)]) (r_var (t := .int r0.length) rfl) rfl tb1 rfl
theorem mk_none (k1 k2 : Bool) (r0 : List Int) (M : List (List Int)) (hw : Wd (r0 :: M) r0.length) (hM : (r0 :: M).length ≤ 1000) (e : List Slot) : mkEnd 2 2 e (f_Grid_init [.oi 2 [], .sh (box k1 ((r0 :: M).map (row k2))), .sh .non]) = .ok (.sh (gr (r0 :: M) r0.length)) e := by
  obtain ⟨e', h1, h2⟩ := init_none k1 k2 r0 M hw hM
  unfold mkEnd
  rw [h1]
  simp only [h2]
  rfl
end L2.VD.K01

namespace L2.VD.K01
open PySem PySem.Spec PyProof.Rows

def okInt (r : Res Out) (n : Int) : Bool := match r with
  | .ok (.sh (.int m)) _ => decide (m = n)
  | _ => false
theorem of_okInt {r : Res Out} {n : Int} (h : okInt r n = true) : ∃ e', r = .ok (.sh (.int n)) e' := by
  unfold okInt at h
  split at h
  · rename_i m e
    exact ⟨e, by rw [of_decide_eq_true h]⟩
  · cases h
theorem malformed0 : okInt (f_law_malformed [.sh (gr [[1, 2], [3, 4]] 2), .sh (.int 0)]) 3 = true := by decide +kernel
theorem malformed1 : okInt (f_law_malformed [.sh (gr [[1, 2], [3, 4]] 2), .sh (.int 1)]) 3 = true := by decide +kernel
theorem malformed2 : okInt (f_law_malformed [.sh (gr [[1, 2], [3, 4]] 2), .sh (.int 2)]) 3 = true := by decide +kernel
theorem malformed3 : okInt (f_law_malformed [.sh (gr [[1, 2], [3, 4]] 2), .sh (.int 3)]) 3 = true := by decide +kernel
theorem run_malformed (k : Int) (h0 : 0 ≤ k) (h1 : k < 4) (e : List Slot) : runF f_law_malformed [.v (gr [[1, 2], [3, 4]] 2), .v (.int k)] e = .ok (.sh (.int 3)) e := by
  have h : ∃ e', f_law_malformed [.sh (gr [[1, 2], [3, 4]] 2), .sh (.int k)] = .ok (.sh (.int 3)) e' := by
    have : k = 0 ∨ k = 1 ∨ k = 2 ∨ k = 3 := by omega
    rcases this with rfl | rfl | rfl | rfl
    · exact of_okInt malformed0
    · exact of_okInt malformed1
    · exact of_okInt malformed2
    · exact of_okInt malformed3
  obtain ⟨e', h⟩ := h
  exact runF_eq (ss := [.sh (gr [[1, 2], [3, 4]] 2), .sh (.int k)]) rfl rfl h
end L2.VD.K01

namespace L2.VD.K01
open PySem PySem.Spec PyProof.Rows

theorem range_getD {α : Type} (d : α) (l : List α) : (List.range l.length).map (fun i => l.getD i d) = l := by
  refine List.ext_getElem (by rw [List.length_map, List.length_range]) fun i h1 h2 => ?_
  rw [List.getElem_map, List.getElem_range, List.getD_eq_getElem?_getD, List.getElem?_eq_getElem h2]
  rfl
theorem range_zip {α β : Type} (d1 : α) (d2 : β) (a : List α) (b : List β) (h : a.length = b.length) : (List.range a.length).map (fun i => (a.getD i d1, b.getD i d2)) = a.zip b := by
  refine List.ext_getElem (by rw [List.length_map, List.length_range, List.length_zip]; omega) fun i h1 h2 => ?_
  rw [List.length_map, List.length_range] at h1
  rw [List.getElem_map, List.getElem_range, List.getElem_zip, List.getD_eq_getElem?_getD, List.getElem?_eq_getElem h1, List.getD_eq_getElem?_getD, List.getElem?_eq_getElem (by omega)]
  rfl
theorem addM_range (A B : List (List Int)) (h : A.length = B.length) : ((List.range A.length).map fun i => ((A.getD i []).zip (B.getD i [])).map fun q => q.1 + q.2) = addM A B := by
  unfold addM
  rw [← range_zip [] [] A B h, List.map_map]
  rfl
theorem subM_range (A B : List (List Int)) (h : A.length = B.length) : ((List.range A.length).map fun i => ((A.getD i []).zip (B.getD i [])).map fun q => q.1 - q.2) = subM A B := by
  unfold subM
  rw [← range_zip [] [] A B h, List.map_map]
  rfl
theorem foldl_sum {α : Type} (f : α → Int) : ∀ (L : List α) (t : Int), L.foldl (fun t j => t + f j) t = t + (L.map f).sum
  | [], t => by rw [List.foldl_nil, List.map_nil, List.sum_nil, Int.add_zero]
  | a :: L, t => by rw [List.foldl_cons, foldl_sum f L, List.map_cons, List.sum_cons, Int.add_assoc]
theorem dot_range (r c : List Int) (h : r.length = c.length) : ((List.range r.length).map fun j => r.getD j 0 * c.getD j 0).sum = dotI r c := by
  unfold dotI
  rw [← range_zip 0 0 r c h, List.map_map]
  rfl
theorem colM_getD (B : List (List Int)) (k j : Nat) (hj : j < B.length) : (colM B k).getD j 0 = (B.getD j []).getD k 0 := by
  have hB : B.getD j [] = B[j] := by
    rw [List.getD_eq_getElem?_getD, List.getElem?_eq_getElem hj]
    rfl
  rw [hB]
  unfold colM
  rw [List.getD_eq_getElem?_getD, List.getElem?_map, List.getElem?_eq_getElem hj]
  rfl
theorem colM_len (B : List (List Int)) (k : Nat) : (colM B k).length = B.length := by unfold colM; rw [List.length_map]
theorem sumJ_dot (r : List Int) (B : List (List Int)) (k : Nat) (h : r.length = B.length) : sumJ r B k = dotI r (colM B k) := by
  unfold sumJ
  rw [foldl_sum (fun j => r.getD j 0 * (B.getD j []).getD k 0), Int.zero_add, ← dot_range r (colM B k) (by rw [colM_len]; exact h), h]
  congr 1
  refine List.map_congr_left fun j hj => ?_
  rw [colM_getD B k j (List.mem_range.mp hj)]
theorem prodM_mul (A B : List (List Int)) (w : Nat) (h : Wd A B.length) : prodM A B w = mulM A B w := by
  unfold prodM mulM
  refine List.map_congr_left fun r hr => List.map_congr_left fun k hk => ?_
  have := h r hr
  exact sumJ_dot r B k (by omega)
/-- one item of a sum -/
theorem sum_one (f : Nat → Int) (i : Nat) : ∀ n : Nat, i < n → (∀ j, j ≠ i → f j = 0) → ((List.range n).map f).sum = f i
  | 0, h, _ => absurd h (Nat.not_lt_zero i)
  | n + 1, h, hz => by
    rw [List.range_succ, List.map_append, List.sum_append]
    show ((List.range n).map f).sum + (f n + 0) = f i
    by_cases e : i = n
    · subst e
      have : ((List.range i).map f).sum = 0 := by
        have : ∀ m, m ≤ i → ((List.range m).map f).sum = 0 := by
          intro m
          induction m with
          | zero => intro _; rfl
          | succ m ih =>
            intro hm
            rw [List.range_succ, List.map_append, List.sum_append, ih (by omega)]
            show 0 + (f m + 0) = 0
            rw [hz m (by omega)]
            rfl
        exact this i (Nat.le_refl _)
      rw [this]; omega
    · rw [sum_one f i n (by omega) hz, hz n (fun q => e q.symm)]; omega

theorem map_getD {n i : Nat} {f : Nat → Int} (h : i < n) : ((List.range n).map f).getD i 0 = f i := by
  rw [List.getD_eq_getElem?_getD, List.getElem?_map, List.getElem?_range h]
  rfl
theorem dg_dot (f : Nat → Int) (n i : Nat) (hi : i < n) (c : List Int) (hc : c.length = n) : dotI ((List.range n).map fun k => if ((i : Nat) : Int) = ((k : Nat) : Int) then f i else 0) c = f i * c.getD i 0 := by
  rw [← dot_range _ c (by rw [List.length_map, List.length_range]; exact hc.symm), List.length_map, List.length_range]
  have e : ((List.range n).map fun j => ((List.range n).map fun k => if ((i : Nat) : Int) = ((k : Nat) : Int) then f i else 0).getD j 0 * c.getD j 0) = (List.range n).map fun j => (if ((i : Nat) : Int) = ((j : Nat) : Int) then f i else 0) * c.getD j 0 := by
    refine List.map_congr_left fun j hj => ?_
    rw [map_getD (List.mem_range.mp hj)]
  rw [e, sum_one (fun j => (if ((i : Nat) : Int) = ((j : Nat) : Int) then f i else 0) * c.getD j 0) i n hi fun j hj => by
    rw [if_neg (by omega), Int.zero_mul]]
  show (if ((i : Nat) : Int) = ((i : Nat) : Int) then f i else 0) * c.getD i 0 = _
  rw [if_pos rfl]
theorem row_eq (r : List Int) (w : Nat) (h : r.length = w) : ((List.range w).map fun k => r.getD k 0) = r := by
  subst h
  exact range_getD 0 r
/-- a diagonal times a matrix -/
theorem dg_mul (f : Nat → Int) (A : List (List Int)) (w : Nat) (hA : Wd A w) : mulM ((List.range A.length).map fun i => (List.range A.length).map fun k => if ((i : Nat) : Int) = ((k : Nat) : Int) then f i else 0) A w = (List.range A.length).map fun i => (A.getD i []).map fun x => f i * x := by
  unfold mulM
  rw [List.map_map]
  refine List.map_congr_left fun i hi => ?_
  have hi := List.mem_range.mp hi
  have hr : ((A.getD i []).length : Int) = w := by
    refine hA _ ?_
    rw [List.getD_eq_getElem?_getD, List.getElem?_eq_getElem hi]
    exact List.getElem_mem _
  show ((List.range w).map fun k => dotI _ (colM A k)) = _
  have e : ((List.range w).map fun k => dotI ((List.range A.length).map fun k => if ((i : Nat) : Int) = ((k : Nat) : Int) then f i else 0) (colM A k)) = (List.range w).map fun k => f i * (A.getD i []).getD k 0 := by
    refine List.map_congr_left fun k hk => ?_
    rw [dg_dot f A.length i hi (colM A k) (colM_len A k), colM_getD A k i hi]
  rw [e]
  have e2 : ((List.range w).map fun k => f i * (A.getD i []).getD k 0) = ((List.range w).map fun k => (A.getD i []).getD k 0).map fun x => f i * x := by
    rw [List.map_map]
    rfl
  rw [e2, row_eq (A.getD i []) w (by omega)]
theorem mul_un (A : List (List Int)) (w : Nat) (hA : Wd A w) : mulM A (unM w) w = A := by
  have e : ∀ r ∈ A, ((List.range w).map fun k => dotI r (colM (unM w) k)) = r := by
    intro r hr
    have hl : r.length = w := by have := hA r hr; omega
    have e1 : ((List.range w).map fun k => dotI r (colM (unM w) k)) = (List.range w).map fun k => r.getD k 0 := by
      refine List.map_congr_left fun k hk => ?_
      have hk := List.mem_range.mp hk
      have hul : (unM w).length = w := by unfold unM; rw [List.length_map, List.length_range]
      rw [← dot_range r (colM (unM w) k) (by rw [colM_len, hul]; exact hl), hl]
      have e2 : ((List.range w).map fun j => r.getD j 0 * (colM (unM w) k).getD j 0) = (List.range w).map fun j => r.getD j 0 * (if ((j : Nat) : Int) = ((k : Nat) : Int) then 1 else 0) := by
        refine List.map_congr_left fun j hj => ?_
        have hj := List.mem_range.mp hj
        rw [colM_getD (unM w) k j (by rw [hul]; exact hj)]
        have e3 : (unM w).getD j [] = (List.range w).map fun k => if ((j : Nat) : Int) = ((k : Nat) : Int) then 1 else 0 := by
          unfold unM
          rw [List.getD_eq_getElem?_getD, List.getElem?_map, List.getElem?_range hj]
          rfl
        rw [e3, map_getD hk]
      rw [e2, sum_one (fun j => r.getD j 0 * (if ((j : Nat) : Int) = ((k : Nat) : Int) then 1 else 0)) k w hk fun j hj => by
        rw [if_neg (by omega), Int.mul_zero]]
      show r.getD k 0 * (if ((k : Nat) : Int) = ((k : Nat) : Int) then 1 else 0) = _
      rw [if_pos rfl, Int.mul_one]
    rw [e1, row_eq r w hl]
  unfold mulM
  have e0 : (A.map fun r => (List.range w).map fun k => dotI r (colM (unM w) k)) = A.map id := List.map_congr_left fun r hr => e r hr
  rw [e0, List.map_id]
theorem un_mul (A : List (List Int)) (w : Nat) (hA : Wd A w) : mulM (unM A.length) A w = A := by
  have h := dg_mul (fun _ => 1) A w hA
  unfold unM
  rw [h]
  have e : ((List.range A.length).map fun i => (A.getD i []).map fun x => (1 : Int) * x) = (List.range A.length).map fun i => A.getD i [] := by
    refine List.map_congr_left fun i _ => ?_
    have : (fun x : Int => (1 : Int) * x) = id := by funext x; show 1 * x = x; omega
    rw [this, List.map_id]
  rw [e, range_getD [] A]
end L2.VD.K01

namespace L2.VD.K01
open PySem PySem.Spec PyProof.Rows

theorem run_rows {i : Nat} {e : List Slot} {p : Bool} {a b : Int} (h w : Nat) (hh : h ≤ 10) (hw : w ≤ 10) (hs : e[i]? = some (.ol p [.int a, .int b])) : ∃ M a' b', runF f_law_rows [.l i, .v (.int h), .v (.int w), .v (.int 9)] e = .ok (.sh (tm M)) (e.set i (.ol p [.int a', .int b'])) ∧ Drawn M h w := by
  obtain ⟨M, a', b', r, h1, h2⟩ := rows_ok h w hh hw a b
  refine ⟨M, a', b', ?_, h2⟩
  have h4 : slotOf e (.l i) = some (.ol true [.int a, .int b]) := by
    show (match e[i]? with | some (.ol _ ts) => some (Slot.ol true ts) | _ => none) = _
    rw [hs]
  have h5 : slotsOf e [.l i, .v (.int h), .v (.int w), .v (.int 9)] = some [.ol true [.int a, .int b], .sh (.int h), .sh (.int w), .sh (.int 9)] := by
    show ((slotOf e (.l i)).bind fun x => (slotsOf e [.v (.int h), .v (.int w), .v (.int 9)]).map fun xs => x :: xs) = _
    rw [h4]
    rfl
  rw [runF_eq h5 rfl h1]
  show Res.ok (Out.sh (tm M)) (back1 e i (.ol true [.int a', .int b'])) = _
  have h6 : back1 e i (.ol true [.int a', .int b']) = e.set i (.ol p [.int a', .int b']) := by
    show (match e[i]? with | some (.ol p _) => e.set i (.ol p [.int a', .int b']) | _ => e) = _
    rw [hs]
  rw [h6]
theorem d_rows {i : Nat} {e : List Slot} {p : Bool} {a b : Int} {dh dw : DE} (h w : Nat) (hh : h ≤ 10) (hw : w ≤ 10) (hs : e[i]? = some (.ol p [.int a, .int b])) (h1 : dh e = .ok (.sh (.int h)) e) (h2 : dw e = .ok (.sh (.int w)) e) : ∃ M a' b', dCall 4 f_law_rows [] (cLend i (cVal dh (cVal dw (cVal (dC (.int 9)) cNil)))) e = .ok (.sh (tm M)) (e.set i (.ol p [.int a', .int b'])) ∧ Drawn M h w := by
  obtain ⟨M, a', b', k1, k2⟩ := run_rows h w hh hw hs
  exact ⟨M, a', b', (r_call1 (r_clend hs (r_cval h1 (r_cval h2 (r_cval r_c r_cnil)))) rfl).trans k1, k2⟩
theorem r_asg {da : DE} {g : DG} {e e1 e2 : List Slot} {o : Out} (ha : da e = .ok o e1) (hg : g o.t e1 = .ok .nx e2) : dAsg da g e = .ok .nx e2 := by
  have h0 : dAsg da g e = (da e).bind fun o e1 => onNx (g o.t e1) fun e2 => .ok .nx e2 := rfl
  rw [h0, ha]
  show onNx (g o.t e1) _ = _
  rw [hg]
  rfl
abbrev st1 : DS := dSet 1 (dCall 1 f_law_state [] (cVal (dVar 0) cNil))
abbrev tk (m : Int) : DE := dCall 2 f_law_take [] (cLend 1 (cVal (dC (.int m)) cNil))
abbrev st2 : DS := dAsg (dTup (dCons (tk 4) (dCons (tk 5) (dCons (tk 4) dNil)))) (gT 3 (gsCons (gN 2) (gsCons (gN 3) (gsCons (gN 4) gsNil))))
abbrev rw_ (i j : Nat) : DE := dCall 4 f_law_rows [] (cLend 1 (cVal (dVar i) (cVal (dVar j) (cVal (dC (.int 9)) cNil))))
abbrev st3 : DS := dAsg (dTup (dCons (rw_ 2 3) (dCons (rw_ 2 3) dNil))) (gT 2 (gsCons (gN 5) (gsCons (gN 6) gsNil)))
abbrev st4 : DS := dSet 7 (rw_ 3 4)
abbrev un16 : List Slot := [.un, .un, .un, .un, .un, .un, .un, .un, .un, .un, .un, .un, .un, .un, .un, .un]
theorem st1_ok (ns : List Int) : ∃ a b, st1 (.sh (.sq (ti ns)) :: .un :: .un :: .un :: .un :: .un :: .un :: .un :: un16) = .ok .nx (.sh (.sq (ti ns)) :: .ol false [.int a, .int b] :: .un :: .un :: .un :: .un :: .un :: .un :: un16) := by
  obtain ⟨a, b, e', h⟩ := state_ok ns
  refine ⟨a, b, ?_⟩
  have hr : runF f_law_state [.v (.sq (ti ns))] (.sh (.sq (ti ns)) :: .un :: .un :: .un :: .un :: .un :: .un :: .un :: un16) = .ok (.fr [.int a, .int b]) (.sh (.sq (ti ns)) :: .un :: .un :: .un :: .un :: .un :: .un :: .un :: un16) := runF_eq (ss := [.sh (.sq (ti ns))]) rfl rfl h
  exact r_set (s0 := .un) ((r_call1 (r_cval (r_var (t := .sq (ti ns)) rfl) r_cnil) rfl).trans hr) rfl rfl
theorem st2_ok (ns : List Int) (a b : Int) : ∃ a' b' x y z, (0 ≤ x ∧ x < 4) ∧ (0 ≤ y ∧ y < 5) ∧ (0 ≤ z ∧ z < 4) ∧ st2 (.sh (.sq (ti ns)) :: .ol false [.int a, .int b] :: .un :: .un :: .un :: .un :: .un :: .un :: un16) = .ok .nx (.sh (.sq (ti ns)) :: .ol false [.int a', .int b'] :: .sh (.int x) :: .sh (.int y) :: .sh (.int z) :: .un :: .un :: .un :: un16) := by
  obtain ⟨x, a1, b1, h1, x1, x2⟩ := d_take (i := 1) (p := false) (a := a) (b := b) (m := 4) (e := .sh (.sq (ti ns)) :: .ol false [.int a, .int b] :: .un :: .un :: .un :: .un :: .un :: .un :: un16) (dm := dC (.int 4)) (by decide) (by decide) rfl r_c
  obtain ⟨y, a2, b2, h2, y1, y2⟩ := d_take (i := 1) (p := false) (a := a1) (b := b1) (m := 5) (e := .sh (.sq (ti ns)) :: .ol false [.int a1, .int b1] :: .un :: .un :: .un :: .un :: .un :: .un :: un16) (dm := dC (.int 5)) (by decide) (by decide) rfl r_c
  obtain ⟨z, a3, b3, h3, z1, z2⟩ := d_take (i := 1) (p := false) (a := a2) (b := b2) (m := 4) (e := .sh (.sq (ti ns)) :: .ol false [.int a2, .int b2] :: .un :: .un :: .un :: .un :: .un :: .un :: un16) (dm := dC (.int 4)) (by decide) (by decide) rfl r_c
  exact ⟨a3, b3, x, y, z, ⟨x1, x2⟩, ⟨y1, y2⟩, ⟨z1, z2⟩, r_asg (o := .sh (.tup [.int x, .int y, .int z])) (r_tup (r_cons h1 (r_cons h2 (r_one h3))) rfl) rfl⟩
theorem st3_ok (ns : List Int) (a b : Int) (h w : Nat) (z : Int) (hh : h ≤ 10) (hw : w ≤ 10) : ∃ A B a' b', Drawn A h w ∧ Drawn B h w ∧ st3 (.sh (.sq (ti ns)) :: .ol false [.int a, .int b] :: .sh (.int h) :: .sh (.int w) :: .sh (.int z) :: .un :: .un :: .un :: un16) = .ok .nx (.sh (.sq (ti ns)) :: .ol false [.int a', .int b'] :: .sh (.int h) :: .sh (.int w) :: .sh (.int z) :: .sh (tm A) :: .sh (tm B) :: .un :: un16) := by
  obtain ⟨A, a1, b1, h1, dA⟩ := d_rows (i := 1) (p := false) (a := a) (b := b) (e := .sh (.sq (ti ns)) :: .ol false [.int a, .int b] :: .sh (.int h) :: .sh (.int w) :: .sh (.int z) :: .un :: .un :: .un :: un16) (dh := dVar 2) (dw := dVar 3) h w hh hw rfl (r_var rfl) (r_var rfl)
  obtain ⟨B, a2, b2, h2, dB⟩ := d_rows (i := 1) (p := false) (a := a1) (b := b1) (e := .sh (.sq (ti ns)) :: .ol false [.int a1, .int b1] :: .sh (.int h) :: .sh (.int w) :: .sh (.int z) :: .un :: .un :: .un :: un16) (dh := dVar 2) (dw := dVar 3) h w hh hw rfl (r_var rfl) (r_var rfl)
  exact ⟨A, B, a2, b2, dA, dB, r_asg (o := .sh (.tup [tm A, tm B])) (r_tup (r_cons h1 (r_one h2)) rfl) rfl⟩
theorem st4_ok (ns : List Int) (a b : Int) (h w o : Nat) (A B : List (List Int)) (hw : w ≤ 10) (ho : o ≤ 10) : ∃ D a' b', Drawn D w o ∧ st4 (.sh (.sq (ti ns)) :: .ol false [.int a, .int b] :: .sh (.int h) :: .sh (.int w) :: .sh (.int o) :: .sh (tm A) :: .sh (tm B) :: .un :: un16) = .ok .nx (.sh (.sq (ti ns)) :: .ol false [.int a', .int b'] :: .sh (.int h) :: .sh (.int w) :: .sh (.int o) :: .sh (tm A) :: .sh (tm B) :: .sh (tm D) :: un16) := by
  obtain ⟨D, a1, b1, h1, dD⟩ := d_rows (i := 1) (p := false) (a := a) (b := b) (e := .sh (.sq (ti ns)) :: .ol false [.int a, .int b] :: .sh (.int h) :: .sh (.int w) :: .sh (.int o) :: .sh (tm A) :: .sh (tm B) :: .un :: un16) (dh := dVar 3) (dw := dVar 4) w o hw ho rfl (r_var rfl) (r_var rfl)
  exact ⟨D, a1, b1, dD, r_set (s0 := .un) h1 rfl rfl⟩
end L2.VD.K01

namespace L2.VD.K01
open PySem PySem.Spec PyProof.Rows

/-- the law's slots: the drawn things, then the rest -/
abbrev EE (ns : List Int) (a b : Int) (h w o : Nat) (A B D : List (List Int)) (r : List Slot) : List Slot := .sh (.sq (ti ns)) :: .ol false [.int a, .int b] :: .sh (.int h) :: .sh (.int w) :: .sh (.int o) :: .sh (tm A) :: .sh (tm B) :: .sh (tm D) :: r
theorem r_par {is : List Nat} {da : DA} {e e1 e2 : List Slot} {ts : List T} (h : da e = .ok ts e1) (hn : ts.length = is.length) (hp : dPar.parE is ts e1 = .ok .nx e2) : dPar is da e = .ok .nx e2 := by
  have h0 : dPar is da e = (da e).bind fun ts e1 => if Nat.beq ts.length is.length then dPar.parE is ts e1 else .bad := rfl
  rw [h0, h]
  show (if Nat.beq ts.length is.length then dPar.parE is ts e1 else .bad) = _
  rw [if_pos (by rw [hn]; exact Nat.beq_refl _)]
  exact hp
abbrev un13 : List Slot := [.un, .un, .un, .un, .un, .un, .un, .un, .un, .un, .un, .un, .un]
abbrev st5 : DS := dPar [8, 9, 10] (dCons (dMake 2 2 3 f_Grid_init [] (dCons (dVar 5) (dCons (dVar 3) dNil))) (dCons (dMake 2 2 3 f_Grid_init [] (dCons (dLc (dItems (dVar 6)) (gN 16) dYes (dCB fList (dCons (dVar 16) dNil)) [16]) (dCons (dVar 3) dNil))) (dCons (dMake 2 2 3 f_Grid_init [] (dCons (dVar 7) (dCons (dVar 4) dNil))) dNil)))
section
variable (ns : List Int) (a b : Int) (h w o : Nat) (A B D : List (List Int))
theorem st5_ok (hA : Drawn A h w) (hB : Drawn B h w) (hD : Drawn D w o) (hh : h ≤ 10) (hw : w ≤ 10) : st5 (EE ns a b h w o A B D un16) = .ok .nx (EE ns a b h w o A B D (.sh (gr A w) :: .sh (gr B w) :: .sh (gr D o) :: un13)) := by
  have lc : dLc (dItems (dVar 6)) (gN 16) dYes (dCB fList (dCons (dVar 16) dNil)) [16] (EE ns a b h w o A B D un16) = .ok (.fr (B.map (row false))) (EE ns a b h w o A B D un16) :=
    dLc_map1 B (row true) (row false) (EE ns a b h w o A B D un16) (fun r => EE ns a b h w o A B D [.un, .un, .un, .un, .un, .un, .un, .un, .sh (row true r), .un, .un, .un, .un, .un, .un, .un]) (fun r => .fr (ti r)) (by rw [hB.len]; omega) (r_items (r_var (t := tm B) rfl) (items_tm B)) fun r hr => ⟨r_gN (s0 := .un) rfl rfl, r_cb (r_one (r_var (t := row true r) rfl)) rfl⟩
  have m1 := (r_make (F := f_Grid_init) (c := 2) (nf := 2) (np := 3) (ds := []) (r_two (r_var (i := 5) (e := EE ns a b h w o A B D un16) (t := tm A) rfl) (r_var (i := 3) (t := .int w) rfl)) rfl).trans (mk_ok true true hA.wd (by rw [hA.len]; omega) (EE ns a b h w o A B D un16))
  have m2 := (r_make (F := f_Grid_init) (c := 2) (nf := 2) (np := 3) (ds := []) (r_two lc (r_var (i := 3) (t := .int w) rfl)) rfl).trans (mk_ok false false hB.wd (by rw [hB.len]; omega) (EE ns a b h w o A B D un16))
  have m3 := (r_make (F := f_Grid_init) (c := 2) (nf := 2) (np := 3) (ds := []) (r_two (r_var (i := 7) (e := EE ns a b h w o A B D un16) (t := tm D) rfl) (r_var (i := 4) (t := .int o) rfl)) rfl).trans (mk_ok true true hD.wd (by rw [hD.len]; omega) (EE ns a b h w o A B D un16))
  exact r_par (r_cons m1 (r_cons m2 (r_one m3))) rfl rfl
abbrev st6 : DS := dSet 11 (dOp fSub (tk 9) (dC (.int 4)))
abbrev un12 : List Slot := [.un, .un, .un, .un, .un, .un, .un, .un, .un, .un, .un, .un]
theorem st6_ok : ∃ k a' b', k.natAbs ≤ 4 ∧ st6 (EE ns a b h w o A B D (.sh (gr A w) :: .sh (gr B w) :: .sh (gr D o) :: un13)) = .ok .nx (EE ns a' b' h w o A B D (.sh (gr A w) :: .sh (gr B w) :: .sh (gr D o) :: .sh (.int k) :: un12)) := by
  obtain ⟨x, a1, b1, h1, x1, x2⟩ := d_take (i := 1) (p := false) (a := a) (b := b) (m := 9) (e := EE ns a b h w o A B D (.sh (gr A w) :: .sh (gr B w) :: .sh (gr D o) :: un13)) (dm := dC (.int 9)) (by decide) (by decide) rfl r_c
  exact ⟨x - 4, a1, b1, by omega, r_set (i := 11) (s0 := .un) (o := .sh (.int (x - 4))) (r_op (o := .sh (.int (x - 4))) h1 r_c rfl) rfl rfl⟩
/-- the sums that are due -/
abbrev lcZ (f : T → T → Option Out) : DE := dCB fTuple (dCons (dLc (dRng (dCons (dVar 2) dNil)) (gN 19) dYes (dCB fTuple (dCons (dLc (dZip (dCons (dIdxN 5 (dVar 19)) (dCons (dIdxN 6 (dVar 19)) dNil))) (gT 2 (gsCons (gN 20) (gsCons (gN 21) gsNil))) dYes (dOp f (dVar 20) (dVar 21)) [20, 21]) dNil)) [19]) dNil)
theorem lcZ_ok (f : T → T → Option Out) (F : Int × Int → Int) (hf : ∀ x y : Int, f (.int x) (.int y) = some (.sh (.int (F (x, y))))) (hA : Drawn A h w) (hB : Drawn B h w) (hh : h ≤ 10) (hw : w ≤ 10) (s8 s9 s10 s11 s12 : Slot) :
    lcZ f (EE ns a b h w o A B D (s8 :: s9 :: s10 :: s11 :: s12 :: [.un, .un, .un, .un, .un, .un, .un, .un, .un, .un, .un])) = .ok (.sh (tm ((List.range h).map fun i => ((A.getD i []).zip (B.getD i [])).map F))) (EE ns a b h w o A B D (s8 :: s9 :: s10 :: s11 :: s12 :: [.un, .un, .un, .un, .un, .un, .un, .un, .un, .un, .un])) := by
  have hrg := rng0 (w := (h : Int)) (by omega) (by omega)
  rw [Int.toNat_natCast] at hrg
  have comp : dLc (dRng (dCons (dVar 2) dNil)) (gN 19) dYes (dCB fTuple (dCons (dLc (dZip (dCons (dIdxN 5 (dVar 19)) (dCons (dIdxN 6 (dVar 19)) dNil))) (gT 2 (gsCons (gN 20) (gsCons (gN 21) gsNil))) dYes (dOp f (dVar 20) (dVar 21)) [20, 21]) dNil)) [19] (EE ns a b h w o A B D (s8 :: s9 :: s10 :: s11 :: s12 :: [.un, .un, .un, .un, .un, .un, .un, .un, .un, .un, .un])) = .ok (.fr ((List.range h).map fun i => row true (((A.getD i []).zip (B.getD i [])).map F))) (EE ns a b h w o A B D (s8 :: s9 :: s10 :: s11 :: s12 :: [.un, .un, .un, .un, .un, .un, .un, .un, .un, .un, .un])) := by
    refine dLc_map1 (List.range h) (fun k => .int ((k : Nat) : Int)) (fun i => row true (((A.getD i []).zip (B.getD i [])).map F)) (EE ns a b h w o A B D (s8 :: s9 :: s10 :: s11 :: s12 :: [.un, .un, .un, .un, .un, .un, .un, .un, .un, .un, .un])) (fun i => EE ns a b h w o A B D (s8 :: s9 :: s10 :: s11 :: s12 :: [.un, .un, .un, .un, .un, .un, .sh (.int ((i : Nat) : Int)), .un, .un, .un, .un])) (fun i => .sh (row true (((A.getD i []).zip (B.getD i [])).map F))) (by rw [List.length_range]; omega) (r_rng (r_one (r_var (t := .int h) rfl)) hrg) fun i hi => ⟨r_gN (s0 := .un) rfl rfl, ?_⟩
    have hi := List.mem_range.mp hi
    have hl : ((A.getD i []).length : Int) = w := by
      refine hA.wd _ ?_
      rw [List.getD_eq_getElem?_getD, List.getElem?_eq_getElem (by rw [hA.len]; exact hi)]
      exact List.getElem_mem _
    have inner : dLc (dZip (dCons (dIdxN 5 (dVar 19)) (dCons (dIdxN 6 (dVar 19)) dNil))) (gT 2 (gsCons (gN 20) (gsCons (gN 21) gsNil))) dYes (dOp f (dVar 20) (dVar 21)) [20, 21] (EE ns a b h w o A B D (s8 :: s9 :: s10 :: s11 :: s12 :: [.un, .un, .un, .un, .un, .un, .sh (.int ((i : Nat) : Int)), .un, .un, .un, .un])) = Res.ok (Out.fr (ti (((A.getD i []).zip (B.getD i [])).map F))) (EE ns a b h w o A B D (s8 :: s9 :: s10 :: s11 :: s12 :: [.un, .un, .un, .un, .un, .un, .sh (.int ((i : Nat) : Int)), .un, .un, .un, .un])) := by
      rw [← ti_zip]
      refine dLc_map1 ((A.getD i []).zip (B.getD i [])) (fun p => .tup [.int p.1, .int p.2]) (fun p => .int (F p)) (EE ns a b h w o A B D (s8 :: s9 :: s10 :: s11 :: s12 :: [.un, .un, .un, .un, .un, .un, .sh (.int ((i : Nat) : Int)), .un, .un, .un, .un])) (fun p => EE ns a b h w o A B D (s8 :: s9 :: s10 :: s11 :: s12 :: [.un, .un, .un, .un, .un, .un, .sh (.int ((i : Nat) : Int)), .sh (.int p.1), .sh (.int p.2), .un, .un])) (fun p => .sh (.int (F p))) (by rw [List.length_zip]; omega) ?_ fun p hp => ⟨rfl, r_op (r_var (t := .int p.1) rfl) (r_var (t := .int p.2) rfl) (hf p.1 p.2)⟩
      refine r_zip (r_two (r_idxN (t := tm A) rfl (r_var (t := .int ((i : Nat) : Int)) rfl) (idx_tm (by rw [hA.len]; exact hi))) (r_idxN (t := tm B) rfl (r_var (t := .int ((i : Nat) : Int)) rfl) (idx_tm (by rw [hB.len]; exact hi)))) ?_
      have h0 : ∀ t u : T, asZip [t, u] = (seqT t).bind fun xs => (seqT u).map fun ys => zipT xs ys := fun _ _ => rfl
      show asZip [row true (A.getD i []), row true (B.getD i [])] = _
      rw [h0, seq_row, seq_row]
      show some (zipT (ti (A.getD i [])) (ti (B.getD i []))) = _
      rw [zip_ti]
    exact r_cb (o := .sh (row true (((A.getD i []).zip (B.getD i [])).map F))) (r_one inner) rfl
  refine r_cb (r_one comp) ?_
  show some (Out.sh (.tup _)) = some (Out.sh (.tup _))
  rw [List.map_map]
  rfl
end
end L2.VD.K01

namespace L2.VD.K01
open PySem PySem.Spec PyProof.Rows
abbrev u11 : List Slot := [.un, .un, .un, .un, .un, .un, .un, .un, .un, .un, .un]
abbrev E5 (ns : List Int) (a b : Int) (h w o : Nat) (A B D : List (List Int)) (k : Int) (s12 : Slot) (r : List Slot) : List Slot := EE ns a b h w o A B D (.sh (gr A w) :: .sh (gr B w) :: .sh (gr D o) :: .sh (.int k) :: s12 :: r)
abbrev lcR (d : DE) : DE := dCB fTuple (dCons (dLc (dItems (dVar 5)) (gN 16) dYes (dCB fTuple (dCons (dLc (dItems (dVar 16)) (gN 20) dYes d [20]) dNil)) [16]) dNil)
section
variable (ns : List Int) (a b : Int) (h w o : Nat) (A B D : List (List Int)) (k : Int) (s12 : Slot)
theorem lcR_ok (d : DE) (F : Int → Int) (hA : Drawn A h w) (hh : h ≤ 10) (hw : w ≤ 10)
    (hd : ∀ r ∈ A, ∀ x : Int, d (E5 ns a b h w o A B D k s12 [.un, .un, .un, .sh (row true r), .un, .un, .un, .sh (.int x), .un, .un, .un]) = .ok (.sh (.int (F x))) (E5 ns a b h w o A B D k s12 [.un, .un, .un, .sh (row true r), .un, .un, .un, .sh (.int x), .un, .un, .un])) :
    lcR d (E5 ns a b h w o A B D k s12 u11) = .ok (.sh (tm (A.map fun r => r.map F))) (E5 ns a b h w o A B D k s12 u11) := by
  have comp : dLc (dItems (dVar 5)) (gN 16) dYes (dCB fTuple (dCons (dLc (dItems (dVar 16)) (gN 20) dYes d [20]) dNil)) [16] (E5 ns a b h w o A B D k s12 u11) = .ok (.fr (A.map fun r => row true (r.map F))) (E5 ns a b h w o A B D k s12 u11) := by
    refine dLc_map1 A (row true) (fun r => row true (r.map F)) (E5 ns a b h w o A B D k s12 u11) (fun r => E5 ns a b h w o A B D k s12 [.un, .un, .un, .sh (row true r), .un, .un, .un, .un, .un, .un, .un]) (fun r => .sh (row true (r.map F))) (by rw [hA.len]; omega) (r_items (r_var (t := tm A) rfl) (items_tm A)) fun r hr => ⟨r_gN (s0 := .un) rfl rfl, ?_⟩
    have hl := hA.wd r hr
    have inner : dLc (dItems (dVar 16)) (gN 20) dYes d [20] (E5 ns a b h w o A B D k s12 [.un, .un, .un, .sh (row true r), .un, .un, .un, .un, .un, .un, .un]) = Res.ok (Out.fr (ti (r.map F))) (E5 ns a b h w o A B D k s12 [.un, .un, .un, .sh (row true r), .un, .un, .un, .un, .un, .un, .un]) := by
      rw [← ti_map]
      exact dLc_map1 r T.int (fun x => .int (F x)) (E5 ns a b h w o A B D k s12 [.un, .un, .un, .sh (row true r), .un, .un, .un, .un, .un, .un, .un]) (fun x => E5 ns a b h w o A B D k s12 [.un, .un, .un, .sh (row true r), .un, .un, .un, .sh (.int x), .un, .un, .un]) (fun x => .sh (.int (F x))) (by omega) (r_items (r_var (t := row true r) rfl) (row_items true r)) fun x hx => ⟨r_gN (s0 := .un) rfl rfl, hd r hr x⟩
    exact r_cb (o := .sh (row true (r.map F))) (r_one inner) rfl
  refine r_cb (r_one comp) ?_
  show some (Out.sh (.tup _)) = some (Out.sh (.tup _))
  rw [List.map_map]
  rfl
abbrev st7 : DS := dSet 12 (dLst (dCons (lcZ fAdd) dNil))
abbrev st8 : DS := dApp 12 (lcZ fSub)
abbrev st9 : DS := dApp 12 (lcR (dUn fNeg (dVar 20)))
abbrev st10 : DS := dApp 12 (lcR (dOp fMul (dVar 11) (dVar 20)))
abbrev st11 : DS := dApp 12 (dOp fAdd (dVar 5) (dVar 6))
abbrev ngM (A : List (List Int)) : List (List Int) := A.map fun r => r.map fun x => -x
abbrev scM (k : Int) (A : List (List Int)) : List (List Int) := A.map fun r => r.map fun x => k * x
theorem st7_ok (hA : Drawn A h w) (hB : Drawn B h w) (hh : h ≤ 10) (hw : w ≤ 10) : st7 (E5 ns a b h w o A B D k .un u11) = .ok .nx (E5 ns a b h w o A B D k (.ol false [tm (addM A B)]) u11) := by
  have h1 := lcZ_ok ns a b h w o A B D fAdd (fun q => q.1 + q.2) (fun x y => rfl) hA hB hh hw (.sh (gr A w)) (.sh (gr B w)) (.sh (gr D o)) (.sh (.int k)) .un
  have h2 := addM_range A B (by rw [hA.len, hB.len])
  rw [hA.len] at h2
  rw [h2] at h1
  exact r_set (i := 12) (s0 := .un) (o := .fr [tm (addM A B)]) (r_lst (ts := [tm (addM A B)]) (r_one h1) rfl) rfl rfl
theorem st8_ok (hA : Drawn A h w) (hB : Drawn B h w) (hh : h ≤ 10) (hw : w ≤ 10) : st8 (E5 ns a b h w o A B D k (.ol false [tm (addM A B)]) u11) = .ok .nx (E5 ns a b h w o A B D k (.ol false [tm (addM A B), tm (subM A B)]) u11) := by
  have h1 := lcZ_ok ns a b h w o A B D fSub (fun q => q.1 - q.2) (fun x y => rfl) hA hB hh hw (.sh (gr A w)) (.sh (gr B w)) (.sh (gr D o)) (.sh (.int k)) (.ol false [tm (addM A B)])
  have h2 := subM_range A B (by rw [hA.len, hB.len])
  rw [hA.len] at h2
  rw [h2] at h1
  exact r_app (i := 12) (p := false) (q := false) (us := [tm (addM A B)]) (ts := [tm (addM A B)]) rfl h1 rfl rfl
theorem st9_ok (hA : Drawn A h w) (hh : h ≤ 10) (hw : w ≤ 10) (t1 t2 : T) : st9 (E5 ns a b h w o A B D k (.ol false [t1, t2]) u11) = .ok .nx (E5 ns a b h w o A B D k (.ol false [t1, t2, tm (ngM A)]) u11) := by
  have h1 := lcR_ok ns a b h w o A B D k (.ol false [t1, t2]) (dUn fNeg (dVar 20)) (fun x => -x) hA hh hw fun r hr x => r_un (r_var (t := .int x) rfl) rfl
  exact r_app (i := 12) (p := false) (q := false) (us := [t1, t2]) (ts := [t1, t2]) rfl h1 rfl rfl
theorem st10_ok (hA : Drawn A h w) (hh : h ≤ 10) (hw : w ≤ 10) (hk : k.natAbs ≤ 4) (t1 t2 t3 : T) : st10 (E5 ns a b h w o A B D k (.ol false [t1, t2, t3]) u11) = .ok .nx (E5 ns a b h w o A B D k (.ol false [t1, t2, t3, tm (scM k A)]) u11) := by
  have hm : ∀ x : Int, fMul (.int k) (.int x) = some (.sh (.int (k * x))) := by
    intro x
    show (if mulFits k x then some (Out.sh (.int (k * x))) else none) = _
    rw [mulFits_l (by omega), if_pos rfl]
  have h1 := lcR_ok ns a b h w o A B D k (.ol false [t1, t2, t3]) (dOp fMul (dVar 11) (dVar 20)) (fun x => k * x) hA hh hw fun r hr x => r_op (r_var (t := .int k) rfl) (r_var (t := .int x) rfl) (hm x)
  exact r_app (i := 12) (p := false) (q := false) (us := [t1, t2, t3]) (ts := [t1, t2, t3]) rfl h1 rfl rfl
theorem st11_ok (hA : Drawn A h w) (hB : Drawn B h w) (hh : h ≤ 10) (t1 t2 t3 t4 : T) : st11 (E5 ns a b h w o A B D k (.ol false [t1, t2, t3, t4]) u11) = .ok .nx (E5 ns a b h w o A B D k (.ol false [t1, t2, t3, t4, tm (A ++ B)]) u11) := by
  have hm : fAdd (tm A) (tm B) = some (.sh (tm (A ++ B))) := by
    show (if fits ((A.map (row true)).length + (B.map (row true)).length) then some (Out.sh (.tup (A.map (row true) ++ B.map (row true)))) else none) = _
    rw [if_pos (by rw [List.length_map, List.length_map, hA.len, hB.len]; exact Nat.ble_eq_true_of_le (by omega)), ← List.map_append]
    rfl
  exact r_app (i := 12) (p := false) (q := false) (us := [t1, t2, t3, t4]) (ts := [t1, t2, t3, t4]) rfl (r_op (r_var (t := tm A) rfl) (r_var (t := tm B) rfl) hm) rfl rfl
end
end L2.VD.K01

namespace L2.VD.K01
open PySem PySem.Spec PyProof.Rows
abbrev u10 : List Slot := [.un, .un, .un, .un, .un, .un, .un, .un, .un, .un]
abbrev u9 : List Slot := [.un, .un, .un, .un, .un, .un, .un, .un, .un]
abbrev u8 : List Slot := [.un, .un, .un, .un, .un, .un, .un, .un]
theorem r_opO {f : T → T → Option Out} {F : DF} {da db : DE} {e e1 e2 : List Slot} {A B : List (List Int)} {w v : Int} {r : Res Out} (ha : da e = .ok (.sh (gr A w)) e1) (hb : db e1 = .ok (.sh (gr B v)) e2) (h : runF F [.v (gr A w), .v (gr B v)] e2 = r) : dOpO f (tab [(2, F)]) da db e = r := by
  have h0 : dOpO f (tab [(2, F)]) da db e = (da e).bind fun a e1 => (db e1).bind fun b e2 => opO f (tab [(2, F)]) a.t b.t e2 := rfl
  rw [h0, ha]
  show (db e1).bind (fun b e2 => opO f (tab [(2, F)]) (gr A w) b.t e2) = r
  rw [hb]
  exact h
theorem r_negO {F : DF} {da : DE} {e e1 e' : List Slot} {A : List (List Int)} {w : Int} {o : Out} (ha : da e = .ok (.sh (gr A w)) e1) (h : F [.sh (gr A w)] = .ok o e') : dUn (fNegO (tab [(2, F)])) da e = .ok o e1 := by
  refine r_un ha ?_
  show (match F [.sh (gr A w)] with | .ok o _ => some o | _ => none) = some o
  rw [h]
theorem r_m0 {F : DF} {da : DE} {e e1 : List Slot} {A : List (List Int)} {w : Int} {r : Res Out} (ha : da e = .ok (.sh (gr A w)) e1) (h : runF F [.v (gr A w)] e1 = r) : dMeth (tab [(2, ⟨1, F, []⟩)]) da cNil e = r := by
  rw [r_meth (c := 2) (me := ⟨1, F, []⟩) ha rfl r_cnil rfl]; exact h
theorem r_m1 {F : DF} {da db : DE} {e e1 e2 : List Slot} {A : List (List Int)} {w : Int} {t : Out} {r : Res Out} (ha : da e = .ok (.sh (gr A w)) e1) (hb : db e1 = .ok t e2) (h : runF F [.v (gr A w), .v t.t] e2 = r) : dMeth (tab [(2, ⟨2, F, []⟩)]) da (cVal db cNil) e = r := by
  rw [r_meth (c := 2) (me := ⟨2, F, []⟩) ha rfl (r_cval hb r_cnil) rfl]; exact h
section
variable (ns : List Int) (a b : Int) (h w o : Nat) (A B D : List (List Int)) (k : Int)
abbrev st12 : DS := dSet 13 (dLst (dCons (dOpO fAdd (tab [(2, f_Grid_add)]) (dVar 8) (dVar 9)) (dCons (dOpO fSub (tab [(2, f_Grid_sub)]) (dVar 8) (dVar 9)) (dCons (dUn (fNegO (tab [(2, f_Grid_neg)])) (dVar 8)) (dCons (dMeth (tab [(2, ⟨2, f_Grid_scaled, []⟩)]) (dVar 8) (cVal (dVar 11) cNil)) (dCons (dMeth (tab [(2, ⟨2, f_Grid_stacked, []⟩)]) (dVar 8) (cVal (dVar 9) cNil)) dNil))))))
abbrev due5 : List T := [tm (addM A B), tm (subM A B), tm (ngM A), tm (scM k A), tm (A ++ B)]
abbrev told5 : List T := [gr (addM A B) w, gr (subM A B) w, gr (ngM A) w, gr (scM k A) w, gr (A ++ B) w]
theorem st12_ok (hA : Drawn A h w) (hB : Drawn B h w) (hh : h ≤ 10) (hw : w ≤ 10) (hk : k.natAbs ≤ 4) (s12 : Slot) : st12 (E5 ns a b h w o A B D k s12 u11) = .ok .nx (E5 ns a b h w o A B D k s12 (.ol false (told5 w A B k) :: u10)) := by
  have lA := hA.len
  have lB := hB.len
  have hx : dVar 8 (E5 ns a b h w o A B D k s12 u11) = .ok (.sh (gr A w)) (E5 ns a b h w o A B D k s12 u11) := r_var rfl
  have hy : dVar 9 (E5 ns a b h w o A B D k s12 u11) = .ok (.sh (gr B w)) (E5 ns a b h w o A B D k s12 u11) := r_var rfl
  obtain ⟨e3, hn⟩ := run_neg A w hA.wd (by omega) (by omega) []
  have h1 := r_opO (f := fAdd) hx hy (run_add A B w hA.wd hB.wd (by omega) (by omega) (by omega) _)
  have h2 := r_opO (f := fSub) hx hy (run_sub A B w hA.wd hB.wd (by omega) (by omega) (by omega) _)
  have h3 := r_negO hx hn
  have h4 := r_m1 hx (r_var (i := 11) (t := .int k) rfl) (run_scaled A w k (by omega) hA.wd (by omega) (by omega) (E5 ns a b h w o A B D k s12 u11))
  have h5 := r_m1 hx hy (run_stacked A B w hA.wd hB.wd (by omega) (E5 ns a b h w o A B D k s12 u11))
  exact r_set (i := 13) (s0 := .un) (o := .fr (told5 w A B k)) (r_lst (ts := told5 w A B k) (r_cons h1 (r_cons h2 (r_cons h3 (r_cons h4 (r_one h5))))) rfl) rfl rfl
abbrev bd13 : DS := dIfS (dOr (dTst (dOp fNe (dFld (tab [(2, 0)]) (dIdxN 13 (dVar 14))) (dIdxN 12 (dVar 14)))) (dNot (dTru (dCall 3 f_law_is_rows [] (cVal (dIdxN 13 (dVar 14)) (cVal (dCB fLen (dCons (dIdxN 12 (dVar 14)) dNil)) (cVal (dVar 3) cNil))))))) (dRet (dC (.bl false))) dNx
abbrev st13 : DS := dFor (dRng (dCons (dC (.int 5)) dNil)) (gN 14) bd13
theorem bd13_ok (ds ts : List T) (i : Int) (M : List (List Int)) (h1 : fIdx (.lst ds) (.int i) = some (.sh (tm M))) (h2 : fIdx (.lst ts) (.int i) = some (.sh (gr M w))) (hM : Wd M w) (hl : M.length ≤ 1000) :
    bd13 (E5 ns a b h w o A B D k (.ol false ds) (.ol false ts :: .sh (.int i) :: u9)) = .ok .nx (E5 ns a b h w o A B D k (.ol false ds) (.ol false ts :: .sh (.int i) :: u9)) := by
  let e := E5 ns a b h w o A B D k (.ol false ds) (.ol false ts :: .sh (.int i) :: u9)
  have hv : dVar 14 e = .ok (.sh (.int i)) e := r_var rfl
  have hd : dIdxN 12 (dVar 14) e = .ok (.sh (tm M)) e := r_idxO (p := false) (q := false) (us := ds) (ts := ds) rfl hv rfl h1
  have ht : dIdxN 13 (dVar 14) e = .ok (.sh (gr M w)) e := r_idxO (p := false) (q := false) (us := ts) (ts := ts) rfl hv rfl h2
  have hf : dFld (tab [(2, 0)]) (dIdxN 13 (dVar 14)) e = .ok (.sh (tm M)) e := r_fld (c := 2) (ts := [tm M, .int w]) ht tb0 rfl
  have hne : fNe (tm M) (tm M) = some (.sh (.bl false)) := by rw [fNe_tm]; simp
  have hc : dCall 3 f_law_is_rows [] (cVal (dIdxN 13 (dVar 14)) (cVal (dCB fLen (dCons (dIdxN 12 (dVar 14)) dNil)) (cVal (dVar 3) cNil))) e = .ok (.sh (.bl true)) e := (r_call1 (r_cval ht (r_cval (r_cb (r_one hd) (len_tm M)) (r_cval (r_var (t := .int w) rfl) r_cnil))) rfl).trans (is_rows_ok M w hM hl e)
  exact (r_ifF ((r_orF (r_tst (r_op hf hd hne))).trans (r_not (r_truB hc)))).trans r_nx
theorem st13_ok (hA : Drawn A h w) (hB : Drawn B h w) (hh : h ≤ 10) : ∃ s14, Slot.pk s14 = none ∧ st13 (E5 ns a b h w o A B D k (.ol false (due5 A B k)) (.ol false (told5 w A B k) :: u10)) = .ok .nx (E5 ns a b h w o A B D k (.ol false (due5 A B k)) (.ol false (told5 w A B k) :: s14 :: u9)) := by
  have lA := hA.len
  have lB := hB.len
  have hrg : asRng [.int 5] = some [.int 0, .int 1, .int 2, .int 3, .int 4] := rfl
  refine ⟨.sh (.int 4), rfl, (r_for (r_rng (r_one r_c) hrg)).trans ?_⟩
  have q0 := bd13_ok ns a b h w o A B D k (due5 A B k) (told5 w A B k) 0 (addM A B) rfl rfl (wd_zip hA.wd hB.wd) (by unfold addM; rw [List.length_map, List.length_zip]; omega)
  have q1 := bd13_ok ns a b h w o A B D k (due5 A B k) (told5 w A B k) 1 (subM A B) rfl rfl (wd_zip hA.wd hB.wd) (by unfold subM; rw [List.length_map, List.length_zip]; omega)
  have q2 := bd13_ok ns a b h w o A B D k (due5 A B k) (told5 w A B k) 2 (ngM A) rfl rfl (wd_map hA.wd) (by rw [List.length_map]; omega)
  have q3 := bd13_ok ns a b h w o A B D k (due5 A B k) (told5 w A B k) 3 (scM k A) rfl rfl (wd_map hA.wd) (by rw [List.length_map]; omega)
  have q4 := bd13_ok ns a b h w o A B D k (due5 A B k) (told5 w A B k) 4 (A ++ B) rfl rfl (fun r hr => (List.mem_append.mp hr).elim (hA.wd r) (hB.wd r)) (by rw [List.length_append]; omega)
  exact (r_forL (r_gN (s0 := .un) rfl rfl) q0).trans ((r_forL (r_gN (s0 := .sh (.int 0)) rfl rfl) q1).trans ((r_forL (r_gN (s0 := .sh (.int 1)) rfl rfl) q2).trans ((r_forL (r_gN (s0 := .sh (.int 2)) rfl rfl) q3).trans ((r_forL (r_gN (s0 := .sh (.int 3)) rfl rfl) q4).trans rfl))))
end
end L2.VD.K01

namespace L2.VD.K01
open PySem PySem.Spec PyProof.Rows
theorem sm_of {r : List Int} (b : Bd 18 r) : Sm r := fun x hx => Nat.le_trans (b x hx) (by decide)
theorem wd_mul (A B : List (List Int)) (v : Nat) : Wd (mulM A B v) v := by
  intro r hr
  obtain ⟨p, hp, rfl⟩ := List.mem_map.mp hr
  rw [List.length_map, List.length_range]
theorem mul_len (A B : List (List Int)) (v : Nat) : (mulM A B v).length = A.length := by unfold mulM; rw [List.length_map]
theorem call3 {F : DF} {da db dc : DE} {e e1 e2 e3 : List Slot} {o p q : Out} {r : Res Out} (h1 : da e = .ok o e1) (h2 : db e1 = .ok p e2) (h3 : dc e2 = .ok q e3) (h : runF F [.v o.t, .v p.t, .v q.t] e3 = r) : dCall 3 F [] (cVal da (cVal db (cVal dc cNil))) e = r := by
  exact (r_call1 (np := 3) (F := F) (r_cval h1 (r_cval h2 (r_cval h3 r_cnil))) rfl).trans h
theorem call1 {F : DF} {da : DE} {e e1 : List Slot} {o : Out} {r : Res Out} (h1 : da e = .ok o e1) (h : runF F [.v o.t] e1 = r) : dCall 1 F [] (cVal da cNil) e = r := by
  exact (r_call1 (np := 1) (F := F) (r_cval h1 r_cnil) rfl).trans h
theorem r_fldE {da : DE} {e e1 : List Slot} {M : List (List Int)} {w : Int} (h : da e = .ok (.sh (gr M w)) e1) : dFld (tab [(2, 0)]) da e = .ok (.sh (tm M)) e1 := r_fld (c := 2) (ts := [tm M, .int w]) h tb0 rfl
theorem r_fldW {da : DE} {e e1 : List Slot} {M : List (List Int)} {w : Int} (h : da e = .ok (.sh (gr M w)) e1) : dFld (tab [(2, 1)]) da e = .ok (.sh (.int w)) e1 := r_fld (c := 2) (ts := [tm M, .int w]) h tb1 rfl
theorem ne_tm_self (M : List (List Int)) : fNe (tm M) (tm M) = some (.sh (.bl false)) := by rw [fNe_tm]; simp
theorem ne_row_self (k : Bool) (r : List Int) : fNe (row k r) (row k r) = some (.sh (.bl false)) := by rw [fNe_row]; simp
theorem rows_call {da db dc : DE} {e : List Slot} {M : List (List Int)} {h : Nat} {w : Int} (h1 : da e = .ok (.sh (gr M w)) e) (h2 : db e = .ok (.sh (.int h)) e) (h3 : dc e = .ok (.sh (.int w)) e) (hl : M.length = h) (hW : Wd M w) (hh : h ≤ 1000) : dNot (dTru (dCall 3 f_law_is_rows [] (cVal da (cVal db (cVal dc cNil))))) e = .ok false e := by
  subst hl
  exact r_not (r_truB (call3 h1 h2 h3 (is_rows_ok M w hW hh e)))
abbrev dXZ : DE := dOpO fMul (tab [(2, f_Grid_mul)]) (dVar 8) (dVar 10)
abbrev st14 : DS := dIfS (dOr (dTst (dOp fNe (dFld (tab [(2, 0)]) dXZ) (dCall 3 f_law_product [] (cVal (dVar 5) (cVal (dVar 7) (cVal (dVar 4) cNil)))))) (dNot (dTru (dCall 3 f_law_is_rows [] (cVal dXZ (cVal (dVar 2) (cVal (dVar 4) cNil))))))) (dRet (dC (.bl false))) dNx
abbrev st15 : DS := dSet 15 (dMeth (tab [(2, ⟨1, f_Grid_transposed, []⟩)]) (dVar 8) cNil)
abbrev st16 : DS := dIfS (dOr (dTst (dOp fNe (dFld (tab [(2, 0)]) (dVar 15)) (dCB fTuple (dCons (dLc (dRng (dCons (dVar 3) dNil)) (gN 22) dYes (dCB fTuple (dCons (dLc (dItems (dVar 5)) (gN 16) dYes (dIdxN 16 (dVar 22)) [16]) dNil)) [22]) dNil)))) (dNot (dTru (dCall 3 f_law_is_rows [] (cVal (dVar 15) (cVal (dVar 3) (cVal (dVar 2) cNil))))))) (dRet (dC (.bl false))) dNx
section
variable (ns : List Int) (a b : Int) (h w o : Nat) (A B D : List (List Int)) (k : Int) (s12 s13 s14 : Slot)
abbrev E6 (r : List Slot) : List Slot := E5 ns a b h w o A B D k s12 (s13 :: s14 :: r)
theorem st14_ok (hA : Drawn A h w) (hD : Drawn D w o) (hh : h ≤ 10) (hw : w ≤ 10) (ho : o ≤ 10) : st14 (E6 ns a b h w o A B D k s12 s13 s14 u9) = .ok .nx (E6 ns a b h w o A B D k s12 s13 s14 u9) := by
  have lA := hA.len
  have lD := hD.len
  let e := E6 ns a b h w o A B D k s12 s13 s14 u9
  have hm : dXZ e = .ok (.sh (gr (mulM A D o) o)) e := r_opO (r_var (i := 8) (t := gr A w) rfl) (r_var (i := 10) (t := gr D o) rfl) (run_mul A D w o hA.wd hD.wd (fun q hq => sm_of (hA.bd q hq)) (by omega) (by omega) (by omega) (by omega) e)
  obtain ⟨e', hp⟩ := product_ok A D o w hA.wd hD.wd (by omega) (fun q hq => bd_le (by decide) (hA.bd q hq)) (by omega) (by omega) (by omega)
  rw [prodM_mul A D o (by rw [lD]; exact hA.wd)] at hp
  have hc : dCall 3 f_law_product [] (cVal (dVar 5) (cVal (dVar 7) (cVal (dVar 4) cNil))) e = .ok (.sh (tm (mulM A D o))) e := call3 (r_var (i := 5) (t := tm A) rfl) (r_var (i := 7) (t := tm D) rfl) (r_var (i := 4) (t := .int o) rfl) (runF_eq (avs := [.v (tm A), .v (tm D), .v (.int o)]) (e := e) rfl rfl hp)
  have hr := rows_call hm (r_var (i := 2) (t := .int h) rfl) (r_var (i := 4) (t := .int o) rfl) (by rw [mul_len, lA]) (wd_mul A D o) (by omega)
  exact (r_ifF ((r_orF (r_tst (r_op (r_fldE hm) hc (ne_tm_self _)))).trans hr)).trans r_nx
theorem st15_ok (hA : Drawn A h w) (hh : h ≤ 10) (hw : w ≤ 10) : st15 (E6 ns a b h w o A B D k s12 s13 s14 u9) = .ok .nx (E6 ns a b h w o A B D k s12 s13 s14 (.sh (gr (trM A w) h) :: u8)) := by
  have lA := hA.len
  have ht := run_transposed A w hA.wd (by omega) (by omega) (E6 ns a b h w o A B D k s12 s13 s14 u9)
  rw [lA] at ht
  exact r_set (i := 15) (s0 := .un) (o := .sh (gr (trM A w) h)) (r_m0 (r_var (i := 8) (t := gr A w) rfl) ht) rfl rfl
theorem lcT_ok (hA : Drawn A h w) (hh : h ≤ 10) (hw : w ≤ 10) (s15 : Slot) : dCB fTuple (dCons (dLc (dRng (dCons (dVar 3) dNil)) (gN 22) dYes (dCB fTuple (dCons (dLc (dItems (dVar 5)) (gN 16) dYes (dIdxN 16 (dVar 22)) [16]) dNil)) [22]) dNil) (E6 ns a b h w o A B D k s12 s13 s14 (s15 :: u8)) = .ok (.sh (tm (trM A w))) (E6 ns a b h w o A B D k s12 s13 s14 (s15 :: u8)) := by
  have hrg := rng0 (w := (w : Int)) (by omega) (by omega)
  rw [Int.toNat_natCast] at hrg
  have comp : dLc (dRng (dCons (dVar 3) dNil)) (gN 22) dYes (dCB fTuple (dCons (dLc (dItems (dVar 5)) (gN 16) dYes (dIdxN 16 (dVar 22)) [16]) dNil)) [22] (E6 ns a b h w o A B D k s12 s13 s14 (s15 :: u8)) = .ok (.fr ((List.range w).map fun j => row true (colM A j))) (E6 ns a b h w o A B D k s12 s13 s14 (s15 :: u8)) := by
    refine dLc_map1 (List.range w) (fun k => .int ((k : Nat) : Int)) (fun j => row true (colM A j)) (E6 ns a b h w o A B D k s12 s13 s14 (s15 :: u8)) (fun j => E6 ns a b h w o A B D k s12 s13 s14 (s15 :: [.un, .un, .un, .un, .un, .un, .sh (.int ((j : Nat) : Int)), .un])) (fun j => .sh (row true (colM A j))) (by rw [List.length_range]; omega) (r_rng (r_one (r_var (t := .int w) rfl)) hrg) fun j hj => ⟨r_gN (s0 := .un) rfl rfl, ?_⟩
    have hj := List.mem_range.mp hj
    have inner : dLc (dItems (dVar 5)) (gN 16) dYes (dIdxN 16 (dVar 22)) [16] (E6 ns a b h w o A B D k s12 s13 s14 (s15 :: [.un, .un, .un, .un, .un, .un, .sh (.int ((j : Nat) : Int)), .un])) = Res.ok (Out.fr (ti (colM A j))) (E6 ns a b h w o A B D k s12 s13 s14 (s15 :: [.un, .un, .un, .un, .un, .un, .sh (.int ((j : Nat) : Int)), .un])) := by
      unfold colM
      rw [← ti_mapA]
      exact dLc_map1 A (row true) (fun r => .int (r.getD j 0)) (E6 ns a b h w o A B D k s12 s13 s14 (s15 :: [.un, .un, .un, .un, .un, .un, .sh (.int ((j : Nat) : Int)), .un])) (fun r => E6 ns a b h w o A B D k s12 s13 s14 (s15 :: [.sh (row true r), .un, .un, .un, .un, .un, .sh (.int ((j : Nat) : Int)), .un])) (fun r => .sh (.int (r.getD j 0))) (by rw [hA.len]; omega) (r_items (r_var (t := tm A) rfl) (items_tm A)) fun r hr => ⟨r_gN (s0 := .un) rfl rfl, r_idxN (t := row true r) rfl (r_var (t := .int ((j : Nat) : Int)) rfl) (idx_row (by have := hA.wd r hr; omega))⟩
    exact r_cb (o := .sh (row true (colM A j))) (r_one inner) rfl
  refine r_cb (r_one comp) ?_
  show some (Out.sh (.tup _)) = some (Out.sh (.tup _))
  unfold trM
  rw [List.map_map]
  rfl
theorem st16_ok (hA : Drawn A h w) (hh : h ≤ 10) (hw : w ≤ 10) : st16 (E6 ns a b h w o A B D k s12 s13 s14 (.sh (gr (trM A w) h) :: u8)) = .ok .nx (E6 ns a b h w o A B D k s12 s13 s14 (.sh (gr (trM A w) h) :: u8)) := by
  let e := E6 ns a b h w o A B D k s12 s13 s14 (.sh (gr (trM A w) h) :: u8)
  have hv : dVar 15 e = .ok (.sh (gr (trM A w) h)) e := r_var rfl
  have hW := wd_tr A w
  rw [hA.len] at hW
  have hr := rows_call hv (r_var (i := 3) (t := .int w) rfl) (r_var (i := 2) (t := .int h) rfl) (by unfold trM; rw [List.length_map, List.length_range]) hW (by omega)
  exact (r_ifF ((r_orF (r_tst (r_op (r_fldE hv) (lcT_ok ns a b h w o A B D k s12 s13 s14 hA hh hw _) (ne_tm_self _)))).trans hr)).trans r_nx
end
end L2.VD.K01

namespace L2.VD.K01
open PySem PySem.Spec PyProof.Rows
abbrev u6 : List Slot := [.un, .un, .un, .un, .un, .un]
section
variable (ns : List Int) (a b : Int) (h w o : Nat) (A B D : List (List Int)) (k : Int) (s12 s13 s14 s15 s16 s17 : Slot)
abbrev E7 (r : List Slot) : List Slot := E6 ns a b h w o A B D k s12 s13 s14 (s15 :: s16 :: s17 :: r)
abbrev lcTk (j : Nat) : DE := dLc (dRng (dCons (dVar j) dNil)) (gN 22) dYes (dOp fSub (tk 9) (dC (.int 4))) [22]
theorem lcTk_ok (j n : Nat) (hn : n ≤ 10) (hv : dVar j (E7 ns a b h w o A B D k s12 s13 s14 s15 s16 s17 u6) = .ok (.sh (.int n)) (E7 ns a b h w o A B D k s12 s13 s14 s15 s16 s17 u6)) : ∃ r a' b', r.length = n ∧ Bd 9 r ∧ lcTk j (E7 ns a b h w o A B D k s12 s13 s14 s15 s16 s17 u6) = .ok (.fr (ti r)) (E7 ns a' b' h w o A B D k s12 s13 s14 s15 s16 s17 u6) := by
  have hrg := rng0 (w := (n : Int)) (by omega) (by omega)
  rw [Int.toNat_natCast] at hrg
  obtain ⟨us, e2, ⟨a', b', rfl⟩, hl, hP, hrun⟩ := dLc_run (ts := (List.range n).map fun k => .int ((k : Nat) : Int)) (fun e => ∃ a b, e = E7 ns a b h w o A B D k s12 s13 s14 s15 s16 s17 u6) (fun _ u => ∃ y : Int, u = .int y ∧ y.natAbs ≤ 9)
    (di := dRng (dCons (dVar j) dNil)) (g := gN 22) (de := dOp fSub (tk 9) (dC (.int 4))) (vs := [22]) (e := E7 ns a b h w o A B D k s12 s13 s14 s15 s16 s17 u6)
    (by rw [List.length_map, List.length_range]; omega) (r_rng (r_one hv) hrg) ⟨a, b, rfl⟩ (fun t ht e he => by
      obtain ⟨a, b, rfl⟩ := he
      obtain ⟨v, a', b', h1, h2, h3⟩ := d_take (i := 1) (p := false) (a := a) (b := b) (m := 9) (e := E7 ns a b h w o A B D k s12 s13 s14 s15 s16 s17 [.un, .un, .un, .un, .sh t, .un]) (dm := dC (.int 9)) (by decide) (by decide) rfl r_c
      exact ⟨_, .sh (.int (v - 4)), _, r_gN (s0 := .un) rfl rfl, r_op h1 r_c rfl, ⟨a', b', rfl⟩, ⟨v - 4, rfl, by omega⟩⟩)
  obtain ⟨r, rfl, hr⟩ := ints_of us (fun u hu => by
    obtain ⟨i, hi, rfl⟩ := List.getElem_of_mem hu
    rw [List.length_map, List.length_range] at hl
    exact hP i (.int ((i : Nat) : Int)) _ (by rw [List.getElem?_map, List.getElem?_range (by omega)]; rfl) (List.getElem?_eq_getElem hi))
  refine ⟨r, a', b', ?_, hr, hrun⟩
  rw [List.length_map, List.length_range] at hl
  rw [← hl, ti, List.length_map]
abbrev st17 : DS := dSet 16 (dCB fTuple (dCons (lcTk 3) dNil))
abbrev st18 : DS := dSet 17 (dCB fTuple (dCons (lcTk 2) dNil))
theorem st17_ok (hw : w ≤ 10) : ∃ r a' b', r.length = w ∧ Bd 9 r ∧ st17 (E7 ns a b h w o A B D k s12 s13 s14 s15 .un .un u6) = .ok .nx (E7 ns a' b' h w o A B D k s12 s13 s14 s15 (.sh (row true r)) .un u6) := by
  obtain ⟨r, a', b', hl, hb, hr⟩ := lcTk_ok ns a b h w o A B D k s12 s13 s14 s15 .un .un 3 w hw (r_var rfl)
  exact ⟨r, a', b', hl, hb, r_set (i := 16) (s0 := .un) (o := .sh (row true r)) (r_cb (o := .sh (row true r)) (r_one hr) rfl) rfl rfl⟩
theorem st18_ok (hh : h ≤ 10) : ∃ r a' b', r.length = h ∧ Bd 9 r ∧ st18 (E7 ns a b h w o A B D k s12 s13 s14 s15 s16 .un u6) = .ok .nx (E7 ns a' b' h w o A B D k s12 s13 s14 s15 s16 (.sh (row true r)) u6) := by
  obtain ⟨r, a', b', hl, hb, hr⟩ := lcTk_ok ns a b h w o A B D k s12 s13 s14 s15 s16 .un 2 h hh (r_var rfl)
  exact ⟨r, a', b', hl, hb, r_set (i := 17) (s0 := .un) (o := .sh (row true r)) (r_cb (o := .sh (row true r)) (r_one hr) rfl) rfl rfl⟩
end
end L2.VD.K01

namespace L2.VD.K01
open PySem PySem.Spec PyProof.Rows
theorem mul_sm {x y : Int} (h : x.natAbs ≤ 100) : fMul (.int x) (.int y) = some (.sh (.int (x * y))) := by
  show (if mulFits x y then some (Out.sh (.int (x * y))) else none) = _
  rw [mulFits_l (by omega), if_pos rfl]
section
variable (ns : List Int) (a b : Int) (h w o : Nat) (A B D : List (List Int)) (k : Int) (s12 s13 s14 s15 : Slot) (r l : List Int)
abbrev E8 (q : List Slot) : List Slot := E6 ns a b h w o A B D k s12 s13 s14 (s15 :: .sh (row true r) :: .sh (row true l) :: q)
abbrev st19 : DS := dIfS (dTst (dOp fNe (dMeth (tab [(2, ⟨2, f_Grid_times, []⟩)]) (dVar 8) (cVal (dVar 16) cNil)) (dCB fTuple (dCons (dLc (dItems (dVar 5)) (gN 23) dYes (dCB fSum (dCons (dLc (dZip (dCons (dVar 23) (dCons (dVar 16) dNil))) (gT 2 (gsCons (gN 20) (gsCons (gN 21) gsNil))) dYes (dOp fMul (dVar 20) (dVar 21)) [20, 21]) dNil)) [23]) dNil)))) (dRet (dC (.bl false))) dNx
theorem lcD_ok (q : List Int) (hq : Bd 18 q) (hl : q.length ≤ 10) : dCB fSum (dCons (dLc (dZip (dCons (dVar 23) (dCons (dVar 16) dNil))) (gT 2 (gsCons (gN 20) (gsCons (gN 21) gsNil))) dYes (dOp fMul (dVar 20) (dVar 21)) [20, 21]) dNil) (E8 ns a b h w o A B D k s12 s13 s14 s15 r l [.un, .un, .un, .un, .un, .sh (row true q)]) = .ok (.sh (.int (dotI q r))) (E8 ns a b h w o A B D k s12 s13 s14 s15 r l [.un, .un, .un, .un, .un, .sh (row true q)]) := by
  have inner : dLc (dZip (dCons (dVar 23) (dCons (dVar 16) dNil))) (gT 2 (gsCons (gN 20) (gsCons (gN 21) gsNil))) dYes (dOp fMul (dVar 20) (dVar 21)) [20, 21] (E8 ns a b h w o A B D k s12 s13 s14 s15 r l [.un, .un, .un, .un, .un, .sh (row true q)]) = Res.ok (Out.fr (ti ((q.zip r).map fun p => p.1 * p.2))) (E8 ns a b h w o A B D k s12 s13 s14 s15 r l [.un, .un, .un, .un, .un, .sh (row true q)]) := by
    rw [← ti_zip]
    refine dLc_map1 (q.zip r) (fun p => .tup [.int p.1, .int p.2]) (fun p => .int (p.1 * p.2)) (E8 ns a b h w o A B D k s12 s13 s14 s15 r l [.un, .un, .un, .un, .un, .sh (row true q)]) (fun p => E8 ns a b h w o A B D k s12 s13 s14 s15 r l [.un, .un, .sh (.int p.1), .sh (.int p.2), .un, .sh (row true q)]) (fun p => .sh (.int (p.1 * p.2))) (by rw [List.length_zip]; omega) ?_ fun p hp => ⟨rfl, r_op (r_var (t := .int p.1) rfl) (r_var (t := .int p.2) rfl) (mul_sm (Nat.le_trans (hq p.1 (List.of_mem_zip hp).1) (by decide)))⟩
    refine r_zip (r_two (r_var (i := 23) (t := row true q) rfl) (r_var (i := 16) (t := row true r) rfl)) ?_
    have h0 : ∀ t u : T, asZip [t, u] = (seqT t).bind fun xs => (seqT u).map fun ys => zipT xs ys := fun _ _ => rfl
    show asZip [row true q, row true r] = _
    rw [h0, seq_row, seq_row]
    show some (zipT (ti q) (ti r)) = _
    rw [zip_ti]
  refine r_cb (r_one inner) ?_
  have h1 : ∀ ts, fSum [.lst ts] = (intsT ts).map fun xs => .sh (.int xs.sum) := fun _ => rfl
  show fSum [.lst (ti _)] = _
  rw [h1, ints_ti]
  rfl
theorem st19_ok (hA : Drawn A h w) (hh : h ≤ 10) (hw : w ≤ 10) (hr : r.length = w) : st19 (E8 ns a b h w o A B D k s12 s13 s14 s15 r l u6) = .ok .nx (E8 ns a b h w o A B D k s12 s13 s14 s15 r l u6) := by
  have lA := hA.len
  have comp : dLc (dItems (dVar 5)) (gN 23) dYes (dCB fSum (dCons (dLc (dZip (dCons (dVar 23) (dCons (dVar 16) dNil))) (gT 2 (gsCons (gN 20) (gsCons (gN 21) gsNil))) dYes (dOp fMul (dVar 20) (dVar 21)) [20, 21]) dNil)) [23] (E8 ns a b h w o A B D k s12 s13 s14 s15 r l u6) = Res.ok (Out.fr (ti (A.map fun q => dotI q r))) (E8 ns a b h w o A B D k s12 s13 s14 s15 r l u6) := by
    rw [← ti_mapA]
    exact dLc_map1 A (row true) (fun q => .int (dotI q r)) (E8 ns a b h w o A B D k s12 s13 s14 s15 r l u6) (fun q => E8 ns a b h w o A B D k s12 s13 s14 s15 r l [.un, .un, .un, .un, .un, .sh (row true q)]) (fun q => .sh (.int (dotI q r))) (by omega) (r_items (r_var (t := tm A) rfl) (items_tm A)) fun q hq => ⟨r_gN (s0 := .un) rfl rfl, lcD_ok ns a b h w o A B D k s12 s13 s14 s15 r l q (hA.bd q hq) (by have := hA.wd q hq; omega)⟩
  have ht := r_m1 (r_var (i := 8) (t := gr A w) rfl) (r_var (i := 16) (t := row true r) rfl) (run_times A w r hA.wd (fun q hq => sm_of (hA.bd q hq)) (by omega) (by omega) (by omega) (E8 ns a b h w o A B D k s12 s13 s14 s15 r l u6))
  exact (r_ifF (r_tst (r_op ht (r_cb (o := .sh (row true (A.map fun q => dotI q r))) (r_one comp) rfl) (ne_row_self true _)))).trans r_nx
end
end L2.VD.K01

namespace L2.VD.K01
open PySem PySem.Spec PyProof.Rows
section
variable (ns : List Int) (a b : Int) (h w o : Nat) (A B D : List (List Int)) (k : Int) (s12 s13 s14 s15 : Slot) (r l : List Int)
abbrev lcS : DE := dLc (dRng (dCons (dVar 2) dNil)) (gN 19) dYes (dOp fMul (dIdxN 17 (dVar 19)) (dIdx (dIdxN 5 (dVar 19)) (dVar 22))) [19]
abbrev st20 : DS := dIfS (dTst (dOp fNe (dMeth (tab [(2, ⟨2, f_Grid_before, []⟩)]) (dVar 8) (cVal (dVar 17) cNil)) (dCB fTuple (dCons (dLc (dRng (dCons (dVar 3) dNil)) (gN 22) dYes (dCB fSum (dCons lcS dNil)) [22]) dNil)))) (dRet (dC (.bl false))) dNx
theorem lcS_ok (hA : Drawn A h w) (hh : h ≤ 10) (hw : w ≤ 10) (hl : l.length = h) (hb : Bd 9 l) (c : Nat) (hc : c < w) : dCB fSum (dCons lcS dNil) (E8 ns a b h w o A B D k s12 s13 s14 s15 r l [.un, .un, .un, .un, .sh (.int ((c : Nat) : Int)), .un]) = .ok (.sh (.int (dotI l (colM A c)))) (E8 ns a b h w o A B D k s12 s13 s14 s15 r l [.un, .un, .un, .un, .sh (.int ((c : Nat) : Int)), .un]) := by
  have lA := hA.len
  have hrg := rng0 (w := (h : Int)) (by omega) (by omega)
  rw [Int.toNat_natCast] at hrg
  have inner : lcS (E8 ns a b h w o A B D k s12 s13 s14 s15 r l [.un, .un, .un, .un, .sh (.int ((c : Nat) : Int)), .un]) = Res.ok (Out.fr (ti ((List.range h).map fun i => l.getD i 0 * (colM A c).getD i 0))) (E8 ns a b h w o A B D k s12 s13 s14 s15 r l [.un, .un, .un, .un, .sh (.int ((c : Nat) : Int)), .un]) := by
    rw [← ti_mapA]
    refine dLc_map1 (List.range h) (fun k => .int ((k : Nat) : Int)) (fun i => .int (l.getD i 0 * (colM A c).getD i 0)) (E8 ns a b h w o A B D k s12 s13 s14 s15 r l [.un, .un, .un, .un, .sh (.int ((c : Nat) : Int)), .un]) (fun i => E8 ns a b h w o A B D k s12 s13 s14 s15 r l [.un, .sh (.int ((i : Nat) : Int)), .un, .un, .sh (.int ((c : Nat) : Int)), .un]) (fun i => .sh (.int (l.getD i 0 * (colM A c).getD i 0))) (by rw [List.length_range]; omega) (r_rng (r_one (r_var (t := .int h) rfl)) hrg) fun i hi => ⟨r_gN (s0 := .un) rfl rfl, ?_⟩
    have hi := List.mem_range.mp hi
    have hr : (A.getD i []).length = w := by
      have := hA.wd (A.getD i []) (by rw [List.getD_eq_getElem?_getD, List.getElem?_eq_getElem (by rw [lA]; exact hi)]; exact List.getElem_mem _)
      omega
    have hx : (l.getD i 0).natAbs ≤ 100 := by
      refine Nat.le_trans (hb (l.getD i 0) ?_) (by decide)
      rw [List.getD_eq_getElem?_getD, List.getElem?_eq_getElem (by rw [hl]; exact hi)]
      exact List.getElem_mem _
    rw [colM_getD A c i (by omega)]
    exact r_op (r_idxN (t := row true l) rfl (r_var (t := .int ((i : Nat) : Int)) rfl) (idx_row (by omega))) (r_op (r_idxN (t := tm A) rfl (r_var (t := .int ((i : Nat) : Int)) rfl) (idx_tm (by omega))) (r_var (t := .int ((c : Nat) : Int)) rfl) (idx_row (by omega))) (mul_sm hx)
  refine r_cb (r_one inner) ?_
  have h1 : ∀ ts, fSum [.lst ts] = (intsT ts).map fun xs => .sh (.int xs.sum) := fun _ => rfl
  show fSum [.lst (ti _)] = _
  rw [h1, ints_ti]
  have h2 := dot_range l (colM A c) (by rw [colM_len]; omega)
  rw [hl] at h2
  rw [← h2]
  rfl
theorem st20_ok (hA : Drawn A h w) (hh : h ≤ 10) (hw : w ≤ 10) (hl : l.length = h) (hb : Bd 9 l) : st20 (E8 ns a b h w o A B D k s12 s13 s14 s15 r l u6) = .ok .nx (E8 ns a b h w o A B D k s12 s13 s14 s15 r l u6) := by
  have lA := hA.len
  have hrg := rng0 (w := (w : Int)) (by omega) (by omega)
  rw [Int.toNat_natCast] at hrg
  have comp : dLc (dRng (dCons (dVar 3) dNil)) (gN 22) dYes (dCB fSum (dCons lcS dNil)) [22] (E8 ns a b h w o A B D k s12 s13 s14 s15 r l u6) = Res.ok (Out.fr (ti ((List.range w).map fun c => dotI l (colM A c)))) (E8 ns a b h w o A B D k s12 s13 s14 s15 r l u6) := by
    rw [← ti_mapA]
    exact dLc_map1 (List.range w) (fun k => .int ((k : Nat) : Int)) (fun c => .int (dotI l (colM A c))) (E8 ns a b h w o A B D k s12 s13 s14 s15 r l u6) (fun c => E8 ns a b h w o A B D k s12 s13 s14 s15 r l [.un, .un, .un, .un, .sh (.int ((c : Nat) : Int)), .un]) (fun c => .sh (.int (dotI l (colM A c)))) (by rw [List.length_range]; omega) (r_rng (r_one (r_var (t := .int w) rfl)) hrg) fun c hc => ⟨r_gN (s0 := .un) rfl rfl, lcS_ok ns a b h w o A B D k s12 s13 s14 s15 r l hA hh hw hl hb c (List.mem_range.mp hc)⟩
  have hS : Sm l := sm_of (bd_le (by decide) hb)
  have ht := r_m1 (r_var (i := 8) (t := gr A w) rfl) (r_var (i := 17) (t := row true l) rfl) (run_before A w l hA.wd (by omega) (by omega) hS (by omega) (E8 ns a b h w o A B D k s12 s13 s14 s15 r l u6))
  exact (r_ifF (r_tst (r_op ht (r_cb (o := .sh (row true ((List.range w).map fun c => dotI l (colM A c)))) (r_one comp) rfl) (ne_row_self true _)))).trans r_nx
end
end L2.VD.K01

namespace L2.VD.K01
open PySem PySem.Spec PyProof.Rows
theorem neO_self (M : List (List Int)) (w : Int) : fNeO (tab [(2, f_Grid_eq)]) (gr M w) (gr M w) = some (.sh (.bl false)) := by rw [fNeO_gr]; simp
theorem sm_un (n : Nat) : ∀ q ∈ unM n, Sm q := by
  intro q hq x hx
  obtain ⟨i, hi, rfl⟩ := List.mem_map.mp hq
  obtain ⟨j, hj, rfl⟩ := List.mem_map.mp hx
  split <;> decide
theorem un_len (n : Nat) : (unM n).length = n := by unfold unM; rw [List.length_map, List.length_range]
theorem dg_len (r : List Int) : (dgM r).length = r.length := by unfold dgM; rw [List.length_map, List.length_range]
theorem wd_dg (r : List Int) : Wd (dgM r) r.length := by
  intro q hq
  obtain ⟨i, hi, rfl⟩ := List.mem_map.mp hq
  rw [List.length_map, List.length_range]
theorem getD_bd {n : Nat} {r : List Int} (hb : Bd n r) (i : Nat) : (r.getD i 0).natAbs ≤ n := by
  rw [List.getD_eq_getElem?_getD]
  cases e : r[i]? with
  | none => exact Nat.zero_le _
  | some x => exact hb x (List.mem_of_getElem? e)
theorem sm_dg (r : List Int) (hb : Bd 9 r) : ∀ q ∈ dgM r, Sm q := by
  intro q hq x hx
  obtain ⟨i, hi, rfl⟩ := List.mem_map.mp hq
  obtain ⟨j, hj, rfl⟩ := List.mem_map.mp hx
  split
  · exact Nat.le_trans (getD_bd hb i) (by decide)
  · decide
end L2.VD.K01

namespace L2.VD.K01
open PySem PySem.Spec PyProof.Rows
section
variable (ns : List Int) (a b : Int) (h w o : Nat) (A B D : List (List Int)) (k : Int) (s12 s13 s14 s15 : Slot) (r l : List Int)
abbrev lcG : DE := dLc (dRng (dCons (dVar 2) dNil)) (gN 19) dYes (dLc (dItems (dIdxN 5 (dVar 19))) (gN 20) dYes (dOp fMul (dIdxN 17 (dVar 19)) (dVar 20)) [20]) [19]
abbrev st21 : DS := dIfS (dOr (dTst (dOp (fNeO (tab [(2, f_Grid_eq)])) (dOpO fMul (tab [(2, f_Grid_mul)]) (dCall 1 f_unit [] (cVal (dVar 2) cNil)) (dVar 8)) (dVar 8))) (dOr (dTst (dOp (fNeO (tab [(2, f_Grid_eq)])) (dOpO fMul (tab [(2, f_Grid_mul)]) (dVar 8) (dCall 1 f_unit [] (cVal (dVar 3) cNil))) (dVar 8))) (dTst (dOp (fNeO (tab [(2, f_Grid_eq)])) (dOpO fMul (tab [(2, f_Grid_mul)]) (dCall 1 f_diagonal [] (cVal (dVar 17) cNil)) (dVar 8)) (dMake 2 2 3 f_Grid_init [] (dCons lcG (dCons (dVar 3) dNil))))))) (dRet (dC (.bl false))) dNx
abbrev sdM (A : List (List Int)) (l : List Int) : List (List Int) := (List.range A.length).map fun i => (A.getD i []).map fun x => l.getD i 0 * x
theorem lcG_ok (hA : Drawn A h w) (hh : h ≤ 10) (hw : w ≤ 10) (hl : l.length = h) (hb : Bd 9 l) : lcG (E8 ns a b h w o A B D k s12 s13 s14 s15 r l u6) = .ok (.fr ((sdM A l).map (row false))) (E8 ns a b h w o A B D k s12 s13 s14 s15 r l u6) := by
  have lA := hA.len
  have hrg := rng0 (w := (h : Int)) (by omega) (by omega)
  rw [Int.toNat_natCast] at hrg
  unfold sdM
  rw [lA, ← rows_of]
  refine dLc_map1 (List.range h) (fun k => .int ((k : Nat) : Int)) (fun i => row false ((A.getD i []).map fun x => l.getD i 0 * x)) (E8 ns a b h w o A B D k s12 s13 s14 s15 r l u6) (fun i => E8 ns a b h w o A B D k s12 s13 s14 s15 r l [.un, .sh (.int ((i : Nat) : Int)), .un, .un, .un, .un]) (fun i => .fr (ti ((A.getD i []).map fun x => l.getD i 0 * x))) (by rw [List.length_range]; omega) (r_rng (r_one (r_var (t := .int h) rfl)) hrg) fun i hi => ⟨r_gN (s0 := .un) rfl rfl, ?_⟩
  have hi := List.mem_range.mp hi
  have hq : (A.getD i []).length = w := by
    have := hA.wd (A.getD i []) (by rw [List.getD_eq_getElem?_getD, List.getElem?_eq_getElem (by rw [lA]; exact hi)]; exact List.getElem_mem _)
    omega
  rw [← ti_map]
  exact dLc_map1 (A.getD i []) T.int (fun x => .int (l.getD i 0 * x)) (E8 ns a b h w o A B D k s12 s13 s14 s15 r l [.un, .sh (.int ((i : Nat) : Int)), .un, .un, .un, .un]) (fun x => E8 ns a b h w o A B D k s12 s13 s14 s15 r l [.un, .sh (.int ((i : Nat) : Int)), .sh (.int x), .un, .un, .un]) (fun x => .sh (.int (l.getD i 0 * x))) (by omega) (r_items (r_idxN (t := tm A) rfl (r_var (t := .int ((i : Nat) : Int)) rfl) (idx_tm (by omega))) (row_items true _)) fun x hx => ⟨r_gN (s0 := .un) rfl rfl, r_op (r_idxN (t := row true l) rfl (r_var (t := .int ((i : Nat) : Int)) rfl) (idx_row (by omega))) (r_var (t := .int x) rfl) (mul_sm (Nat.le_trans (getD_bd hb i) (by decide)))⟩
end
end L2.VD.K01

namespace L2.VD.K01
open PySem PySem.Spec PyProof.Rows
section
variable (ns : List Int) (a b : Int) (h w o : Nat) (A B D : List (List Int)) (k : Int) (s12 s13 s14 s15 : Slot) (r l : List Int)
theorem st21_ok (hA : Drawn A h w) (hh : h ≤ 10) (hw : w ≤ 10) (hl : l.length = h) (hb : Bd 9 l) : st21 (E8 ns a b h w o A B D k s12 s13 s14 s15 r l u6) = .ok .nx (E8 ns a b h w o A B D k s12 s13 s14 s15 r l u6) := by
  have lA := hA.len
  let e := E8 ns a b h w o A B D k s12 s13 s14 s15 r l u6
  have hx : dVar 8 e = .ok (.sh (gr A w)) e := r_var rfl
  have hu : dCall 1 f_unit [] (cVal (dVar 2) cNil) e = .ok (.sh (gr (unM h) h)) e := call1 (r_var (i := 2) (t := .int h) rfl) (run_unit h (by omega) e)
  have hv : dCall 1 f_unit [] (cVal (dVar 3) cNil) e = .ok (.sh (gr (unM w) w)) e := call1 (r_var (i := 3) (t := .int w) rfl) (run_unit w (by omega) e)
  have hd : dCall 1 f_diagonal [] (cVal (dVar 17) cNil) e = .ok (.sh (gr (dgM l) l.length)) e := call1 (r_var (i := 17) (t := row true l) rfl) (run_diagonal l (by omega) e)
  have m1 := run_mul (unM h) A h w (wd_un h) hA.wd (sm_un h) (by omega) (by rw [un_len]; omega) (by omega) (by omega) e
  have m2 := run_mul A (unM w) w w hA.wd (wd_un w) (fun q hq => sm_of (hA.bd q hq)) (by rw [un_len]) (by omega) (by rw [un_len]; omega) (by omega) e
  have m3 := run_mul (dgM l) A l.length w (wd_dg l) hA.wd (sm_dg l hb) (by omega) (by rw [dg_len]; omega) (by omega) (by omega) e
  have q1 := un_mul A w hA.wd
  rw [lA] at q1
  have q3 : mulM (dgM l) A w = sdM A l := by
    have h0 := dg_mul (fun i => l.getD i 0) A w hA.wd
    unfold dgM
    rw [hl, ← lA]
    exact h0
  rw [q1] at m1
  rw [mul_un A w hA.wd] at m2
  rw [q3] at m3
  have hW : Wd (sdM A l) w := by rw [← q3]; exact wd_mul _ _ _
  have hm : dMake 2 2 3 f_Grid_init [] (dCons lcG (dCons (dVar 3) dNil)) e = .ok (.sh (gr (sdM A l) w)) e := (r_make (F := f_Grid_init) (c := 2) (nf := 2) (np := 3) (ds := []) (r_two (lcG_ok ns a b h w o A B D k s12 s13 s14 s15 r l hA hh hw hl hb) (r_var (i := 3) (t := .int w) rfl)) rfl).trans (mk_ok false false hW (by unfold sdM; rw [List.length_map, List.length_range]; omega) e)
  exact (r_ifF ((r_orF (r_tst (r_op (r_opO hu hx m1) hx (neO_self A w)))).trans ((r_orF (r_tst (r_op (r_opO hx hv m2) hx (neO_self A w)))).trans (r_tst (r_op (r_opO hd hx m3) hm (neO_self (sdM A l) w)))))).trans r_nx
end
end L2.VD.K01

namespace L2.VD.K01
open PySem PySem.Spec PyProof.Rows
abbrev u5 : List Slot := [.un, .un, .un, .un, .un]
section
variable (ns : List Int) (a b : Int) (h w o : Nat) (A B D : List (List Int)) (k : Int) (s12 s13 s14 s15 : Slot) (r l : List Int)
abbrev st22 : DS := dSet 18 (dCall 2 f_blocks [] (cVal (dVar 8) (cVal (dVar 10) cNil)))
theorem st22_ok (hA : Drawn A h w) (hD : Drawn D w o) (hh : h ≤ 10) (hw : w ≤ 10) (ho : o ≤ 10) : st22 (E8 ns a b h w o A B D k s12 s13 s14 s15 r l u6) = .ok .nx (E8 ns a b h w o A B D k s12 s13 s14 s15 r l (.sh (gr (blM A D w o) (w + o)) :: u5)) := by
  have lA := hA.len
  have lD := hD.len
  exact r_set (i := 18) (s0 := .un) (o := .sh (gr (blM A D w o) (w + o))) (call2 (r_var (i := 8) (t := gr A w) rfl) (r_var (i := 10) (t := gr D o) rfl) (run_blocks A D w o hA.wd hD.wd (by omega) (by omega) (by omega) (by omega) (E8 ns a b h w o A B D k s12 s13 s14 s15 r l u6))) rfl rfl
end
end L2.VD.K01

namespace L2.VD.K01
open PySem PySem.Spec PyProof.Rows
theorem cut_front (xs ys : List T) : cutT (xs ++ ys) none (some (xs.length : Int)) = xs := by
  unfold cutT
  rw [HT.sIx_none, HT.sIx_nat, List.length_append, Nat.min_eq_left (Nat.le_add_right _ _), Nat.sub_zero, List.drop_zero]
  exact List.take_left
theorem cut_back (xs ys : List T) : cutT (xs ++ ys) (some (xs.length : Int)) none = ys := by
  unfold cutT
  rw [HT.sIx_none, HT.sIx_nat, List.length_append, Nat.min_eq_left (Nat.le_add_right _ _), List.drop_left]
  exact List.take_of_length_le (by omega)
end L2.VD.K01

namespace L2.VD.K01
open PySem PySem.Spec PyProof.Rows
section
variable (ns : List Int) (a b : Int) (h w o : Nat) (A B D : List (List Int)) (k : Int) (s12 s13 s14 s15 : Slot) (r l : List Int)
abbrev E9 (q : List Slot) : List Slot := E8 ns a b h w o A B D k s12 s13 s14 s15 r l (.sh (gr (blM A D w o) (w + o)) :: q)
abbrev lc0 (j : Nat) : DE := dCB fTuple (dCons (dLc (dRng (dCons (dVar j) dNil)) (gN 22) dYes (dC (.int 0)) [22]) dNil)
theorem lc0_ok (j n : Nat) (hn : n ≤ 10) (s20 : Slot) (hv : dVar j (E9 ns a b h w o A B D k s12 s13 s14 s15 r l [.un, s20, .un, .un, .un]) = .ok (.sh (.int n)) (E9 ns a b h w o A B D k s12 s13 s14 s15 r l [.un, s20, .un, .un, .un])) : lc0 j (E9 ns a b h w o A B D k s12 s13 s14 s15 r l [.un, s20, .un, .un, .un]) = .ok (.sh (row true (zs n))) (E9 ns a b h w o A B D k s12 s13 s14 s15 r l [.un, s20, .un, .un, .un]) := by
  have hrg := rng0 (w := (n : Int)) (by omega) (by omega)
  rw [Int.toNat_natCast] at hrg
  have comp : dLc (dRng (dCons (dVar j) dNil)) (gN 22) dYes (dC (.int 0)) [22] (E9 ns a b h w o A B D k s12 s13 s14 s15 r l [.un, s20, .un, .un, .un]) = Res.ok (Out.fr (ti (zs n))) (E9 ns a b h w o A B D k s12 s13 s14 s15 r l [.un, s20, .un, .un, .un]) := by
    unfold zs
    rw [← ti_mapA]
    exact dLc_map1 (List.range n) (fun k => .int ((k : Nat) : Int)) (fun _ => .int 0) (E9 ns a b h w o A B D k s12 s13 s14 s15 r l [.un, s20, .un, .un, .un]) (fun i => E9 ns a b h w o A B D k s12 s13 s14 s15 r l [.un, s20, .un, .sh (.int ((i : Nat) : Int)), .un]) (fun _ => .sh (.int 0)) (by rw [List.length_range]; omega) (r_rng (r_one hv) hrg) fun i hi => ⟨r_gN (s0 := .un) rfl rfl, r_c⟩
  exact r_cb (o := .sh (row true (zs n))) (r_one comp) rfl
end
end L2.VD.K01

namespace L2.VD.K01
open PySem PySem.Spec PyProof.Rows
theorem add_tups (r s : List Int) (h : r.length + s.length ≤ 5000) : fAdd (row true r) (row true s) = some (.sh (row true (r ++ s))) := by
  have h0 : fAdd (.tup (ti r)) (.tup (ti s)) = (if fits ((ti r).length + (ti s).length) then some (Out.sh (.tup (ti r ++ ti s))) else none) := rfl
  have h1 : fits ((ti r).length + (ti s).length) = true := Nat.ble_eq_true_of_le (by rw [ti, ti, List.length_map, List.length_map]; omega)
  show fAdd (.tup (ti r)) (.tup (ti s)) = _
  rw [h0, h1, if_pos rfl]
  show some (Out.sh (.tup (ti r ++ ti s))) = some (Out.sh (.tup (ti (r ++ s))))
  unfold ti
  rw [List.map_append]
section
variable (ns : List Int) (a b : Int) (h w o : Nat) (A B D : List (List Int)) (k : Int) (s12 s13 s14 s15 : Slot) (r l : List Int)
abbrev lcF : DE := dCB fTuple (dCons (dLc (dItems (dVar 5)) (gN 20) dYes (dOp fAdd (dVar 20) (lc0 4)) [20]) dNil)
abbrev lcB : DE := dCB fTuple (dCons (dLc (dItems (dVar 7)) (gN 20) dYes (dOp fAdd (lc0 3) (dVar 20)) [20]) dNil)
theorem lcF_ok (hA : Drawn A h w) (hh : h ≤ 10) (hw : w ≤ 10) (ho : o ≤ 10) : lcF (E9 ns a b h w o A B D k s12 s13 s14 s15 r l u5) = .ok (.sh (tm (A.map fun q => q ++ zs o))) (E9 ns a b h w o A B D k s12 s13 s14 s15 r l u5) := by
  have comp : dLc (dItems (dVar 5)) (gN 20) dYes (dOp fAdd (dVar 20) (lc0 4)) [20] (E9 ns a b h w o A B D k s12 s13 s14 s15 r l u5) = Res.ok (Out.fr (A.map fun q => row true (q ++ zs o))) (E9 ns a b h w o A B D k s12 s13 s14 s15 r l u5) :=
    dLc_map1 A (row true) (fun q => row true (q ++ zs o)) (E9 ns a b h w o A B D k s12 s13 s14 s15 r l u5) (fun q => E9 ns a b h w o A B D k s12 s13 s14 s15 r l [.un, .sh (row true q), .un, .un, .un]) (fun q => .sh (row true (q ++ zs o))) (by rw [hA.len]; omega) (r_items (r_var (t := tm A) rfl) (items_tm A)) fun q hq => ⟨r_gN (s0 := .un) rfl rfl, r_op (r_var (t := row true q) rfl) (lc0_ok ns a b h w o A B D k s12 s13 s14 s15 r l 4 o ho _ (r_var rfl)) (add_tups q (zs o) (by have := hA.wd q hq; rw [zs_len]; omega))⟩
  refine r_cb (r_one comp) ?_
  show some (Out.sh (.tup _)) = some (Out.sh (.tup _))
  rw [List.map_map]
  rfl
theorem lcB_ok (hD : Drawn D w o) (hw : w ≤ 10) (ho : o ≤ 10) : lcB (E9 ns a b h w o A B D k s12 s13 s14 s15 r l u5) = .ok (.sh (tm (D.map fun q => zs w ++ q))) (E9 ns a b h w o A B D k s12 s13 s14 s15 r l u5) := by
  have comp : dLc (dItems (dVar 7)) (gN 20) dYes (dOp fAdd (lc0 3) (dVar 20)) [20] (E9 ns a b h w o A B D k s12 s13 s14 s15 r l u5) = Res.ok (Out.fr (D.map fun q => row true (zs w ++ q))) (E9 ns a b h w o A B D k s12 s13 s14 s15 r l u5) :=
    dLc_map1 D (row true) (fun q => row true (zs w ++ q)) (E9 ns a b h w o A B D k s12 s13 s14 s15 r l u5) (fun q => E9 ns a b h w o A B D k s12 s13 s14 s15 r l [.un, .sh (row true q), .un, .un, .un]) (fun q => .sh (row true (zs w ++ q))) (by rw [hD.len]; omega) (r_items (r_var (t := tm D) rfl) (items_tm D)) fun q hq => ⟨r_gN (s0 := .un) rfl rfl, r_op (lc0_ok ns a b h w o A B D k s12 s13 s14 s15 r l 3 w hw _ (r_var rfl)) (r_var (t := row true q) rfl) (add_tups (zs w) q (by have := hD.wd q hq; rw [zs_len]; omega))⟩
  refine r_cb (r_one comp) ?_
  show some (Out.sh (.tup _)) = some (Out.sh (.tup _))
  rw [List.map_map]
  rfl
end
end L2.VD.K01

namespace L2.VD.K01
open PySem PySem.Spec PyProof.Rows
theorem ne_int_self (i : Int) : fNe (.int i) (.int i) = some (.sh (.bl false)) := by rw [ne_int]; simp
theorem bl_len (A B : List (List Int)) (w v : Nat) : (blM A B w v).length = A.length + B.length := by unfold blM; rw [List.length_append, List.length_map, List.length_map]
theorem sl_front (A B : List (List Int)) (w v h : Nat) (hA : A.length = h) : fSl (tm (blM A B w v)) none (some (h : Int)) = some (.sh (tm (A.map fun q => q ++ zs v))) := by
  have h0 : ∀ ts lo hi, fSl (.tup ts) lo hi = some (.sh (.tup (cutT ts lo hi))) := fun _ _ _ => rfl
  unfold tm blM
  rw [h0, List.map_append]
  have hl : ((A.map fun q => q ++ zs v).map (row true)).length = h := by rw [List.length_map, List.length_map, hA]
  rw [← hl, cut_front]
theorem sl_back (A B : List (List Int)) (w v h : Nat) (hA : A.length = h) : fSl (tm (blM A B w v)) (some (h : Int)) none = some (.sh (tm (B.map fun q => zs w ++ q))) := by
  have h0 : ∀ ts lo hi, fSl (.tup ts) lo hi = some (.sh (.tup (cutT ts lo hi))) := fun _ _ _ => rfl
  unfold tm blM
  rw [h0, List.map_append]
  have hl : ((A.map fun q => q ++ zs v).map (row true)).length = h := by rw [List.length_map, List.length_map, hA]
  rw [← hl, cut_back]
section
variable (ns : List Int) (a b : Int) (h w o : Nat) (A B D : List (List Int)) (k : Int) (s12 s13 s14 s15 : Slot) (r l : List Int)
abbrev st23 : DS := dIfS (dOr (dTst (dOp fNe (dFld (tab [(2, 1)]) (dVar 18)) (dOp fAdd (dVar 3) (dVar 4)))) (dOr (dTst (dOp fNe (dCB (fLenO (tab [(2, f_Grid_len)])) (dCons (dVar 18) dNil)) (dOp fAdd (dVar 2) (dVar 3)))) (dTst (dOp fNe (dSl (dFld (tab [(2, 0)]) (dVar 18)) dNoPart (dPart (dVar 2))) lcF)))) (dRet (dC (.bl false))) dNx
abbrev st24 : DS := dIfS (dTst (dOp fNe (dSl (dFld (tab [(2, 0)]) (dVar 18)) (dPart (dVar 2)) dNoPart) lcB)) (dRet (dC (.bl false))) dNx
theorem st23_ok (hA : Drawn A h w) (hD : Drawn D w o) (hh : h ≤ 10) (hw : w ≤ 10) (ho : o ≤ 10) : st23 (E9 ns a b h w o A B D k s12 s13 s14 s15 r l u5) = .ok .nx (E9 ns a b h w o A B D k s12 s13 s14 s15 r l u5) := by
  have lA := hA.len
  have lD := hD.len
  let e := E9 ns a b h w o A B D k s12 s13 s14 s15 r l u5
  have hv : dVar 18 e = .ok (.sh (gr (blM A D w o) (w + o))) e := r_var rfl
  have hsum : dOp fAdd (dVar 3) (dVar 4) e = .ok (.sh (.int ((w : Int) + o))) e := r_op (r_var (t := .int w) rfl) (r_var (t := .int o) rfl) rfl
  have hsum2 : dOp fAdd (dVar 2) (dVar 3) e = .ok (.sh (.int ((h : Int) + w))) e := r_op (r_var (t := .int h) rfl) (r_var (t := .int w) rfl) rfl
  have hl := len_own (blM A D w o) (w + o) (by rw [bl_len]; omega)
  have hlen : ((blM A D w o).length : Int) = (h : Int) + w := by rw [bl_len]; omega
  rw [hlen] at hl
  have c1 : dTst (dOp fNe (dFld (tab [(2, 1)]) (dVar 18)) (dOp fAdd (dVar 3) (dVar 4))) e = .ok false e := r_tst (r_op (r_fldW hv) hsum (ne_int_self _))
  have c2 : dTst (dOp fNe (dCB (fLenO (tab [(2, f_Grid_len)])) (dCons (dVar 18) dNil)) (dOp fAdd (dVar 2) (dVar 3))) e = .ok false e := r_tst (r_op (r_cb (r_one hv) hl) hsum2 (ne_int_self _))
  have c3 : dTst (dOp fNe (dSl (dFld (tab [(2, 0)]) (dVar 18)) dNoPart (dPart (dVar 2))) lcF) e = .ok false e := r_tst (r_op (r_sl (r_fldE hv) r_noPart (r_part (r_var (t := .int h) rfl)) (sl_front A D w o h lA)) (lcF_ok ns a b h w o A B D k s12 s13 s14 s15 r l hA hh hw ho) (ne_tm_self _))
  exact (r_ifF ((r_orF c1).trans ((r_orF c2).trans c3))).trans r_nx
theorem st24_ok (hA : Drawn A h w) (hD : Drawn D w o) (hw : w ≤ 10) (ho : o ≤ 10) : st24 (E9 ns a b h w o A B D k s12 s13 s14 s15 r l u5) = .ok .nx (E9 ns a b h w o A B D k s12 s13 s14 s15 r l u5) := by
  let e := E9 ns a b h w o A B D k s12 s13 s14 s15 r l u5
  have hv : dVar 18 e = .ok (.sh (gr (blM A D w o) (w + o))) e := r_var rfl
  exact (r_ifF (r_tst (r_op (r_sl (r_fldE hv) (r_part (r_var (t := .int h) rfl)) r_noPart (sl_back A D w o h hA.len)) (lcB_ok ns a b h w o A B D k s12 s13 s14 s15 r l hD hw ho) (ne_tm_self _)))).trans r_nx
end
end L2.VD.K01

namespace L2.VD.K01
open PySem PySem.Spec PyProof.Rows
theorem ne_bl_self (b : Bool) : fNe (.bl b) (.bl b) = some (.sh (.bl false)) := by cases b <;> rfl
theorem ne_box_self (M : List (List Int)) : fNe (.lst (M.map (row true))) (.lst (M.map (row true))) = some (.sh (.bl false)) := by
  have h := eqT_box false true M M
  unfold fNe
  show (eqT (box false (M.map (row true))) (box false (M.map (row true)))).map _ = _
  rw [h]
  simp
theorem r_itemsO {tbl : Nat → Option Nat} {da : DE} {e e1 : List Slot} {a : Out} {ts : List T} (ha : da e = .ok a e1) (hf : itemsO tbl a.t = some ts) : dItemsO tbl da e = .ok ts e1 := by
  have h0 : dItemsO tbl da e = (da e).bind fun o e1 => Res.of (itemsO tbl o.t) e1 := rfl
  rw [h0, ha]
  show Res.of (itemsO tbl a.t) e1 = _
  rw [hf]
  rfl
section
variable (ns : List Int) (a b : Int) (h w o : Nat) (A B D : List (List Int)) (k : Int) (s12 s13 s14 s15 : Slot) (r l : List Int)
abbrev lcI : DE := dLc (dItemsO (tab [(2, 0)]) (dVar 8)) (gN 20) dYes (dVar 20) [20]
abbrev st25 : DS := dIfS (dOr (dTst (dOp fNe (dOp (fEqO (tab [(2, f_Grid_eq)])) (dVar 8) (dVar 9)) (dOp fEq (dVar 5) (dVar 6)))) (dOr (dTst (dOp (fEqO (tab [(2, f_Grid_eq)])) (dVar 8) (dVar 5))) (dOr (dTst (dOp fNe lcI (dCB fList (dCons (dVar 5) dNil)))) (dOr (dTst (dOp fNe (dCB (fLenO (tab [(2, f_Grid_len)])) (dCons (dVar 8) dNil)) (dVar 2))) (dTst (dOp fNe (dMeth (tab [(2, ⟨1, f_Grid_is_square, []⟩)]) (dVar 8) cNil) (dOp fEq (dVar 2) (dVar 3)))))))) (dRet (dC (.bl false))) dNx
theorem lcI_ok (hA : Drawn A h w) (hh : h ≤ 10) : lcI (E9 ns a b h w o A B D k s12 s13 s14 s15 r l u5) = .ok (.fr (A.map (row true))) (E9 ns a b h w o A B D k s12 s13 s14 s15 r l u5) :=
  dLc_map1 A (row true) (row true) (E9 ns a b h w o A B D k s12 s13 s14 s15 r l u5) (fun q => E9 ns a b h w o A B D k s12 s13 s14 s15 r l [.un, .sh (row true q), .un, .un, .un]) (fun q => .sh (row true q)) (by rw [hA.len]; omega) (r_itemsO (r_var (t := gr A w) rfl) rfl) fun q hq => ⟨r_gN (s0 := .un) rfl rfl, r_var (t := row true q) rfl⟩
theorem st25_ok (hA : Drawn A h w) (hB : Drawn B h w) (hh : h ≤ 10) : st25 (E9 ns a b h w o A B D k s12 s13 s14 s15 r l u5) = .ok .nx (E9 ns a b h w o A B D k s12 s13 s14 s15 r l u5) := by
  have lA := hA.len
  let e := E9 ns a b h w o A B D k s12 s13 s14 s15 r l u5
  have hx : dVar 8 e = .ok (.sh (gr A w)) e := r_var rfl
  have hy : dVar 9 e = .ok (.sh (gr B w)) e := r_var rfl
  have h5 : dVar 5 e = .ok (.sh (tm A)) e := r_var rfl
  have h6 : dVar 6 e = .ok (.sh (tm B)) e := r_var rfl
  have q1 : fEqO (tab [(2, f_Grid_eq)]) (gr A w) (gr B w) = some (.sh (.bl (decide (A = B)))) := by rw [fEqO_gr]; simp
  have hl := len_own A w (by omega)
  have hs := run_square A w e
  rw [lA] at hl hs
  have c1 : dTst (dOp fNe (dOp (fEqO (tab [(2, f_Grid_eq)])) (dVar 8) (dVar 9)) (dOp fEq (dVar 5) (dVar 6))) e = .ok false e := r_tst (r_op (r_op hx hy q1) (r_op h5 h6 (fEq_tm A B)) (ne_bl_self _))
  have c2 : dTst (dOp (fEqO (tab [(2, f_Grid_eq)])) (dVar 8) (dVar 5)) e = .ok false e := r_tst (r_op hx h5 (fEqO_other A w (tm A) rfl))
  have c3 : dTst (dOp fNe lcI (dCB fList (dCons (dVar 5) dNil))) e = .ok false e := r_tst (r_op (lcI_ok ns a b h w o A B D k s12 s13 s14 s15 r l hA hh) (r_cb (o := .fr (A.map (row true))) (r_one h5) rfl) (ne_box_self A))
  have c4 : dTst (dOp fNe (dCB (fLenO (tab [(2, f_Grid_len)])) (dCons (dVar 8) dNil)) (dVar 2)) e = .ok false e := r_tst (r_op (r_cb (r_one hx) hl) (r_var (t := .int h) rfl) (ne_int_self _))
  have c5 : dTst (dOp fNe (dMeth (tab [(2, ⟨1, f_Grid_is_square, []⟩)]) (dVar 8) cNil) (dOp fEq (dVar 2) (dVar 3))) e = .ok false e := r_tst (r_op (r_m0 hx hs) (r_op (r_var (t := .int h) rfl) (r_var (t := .int w) rfl) (eq_int _ _)) (ne_bl_self _))
  exact (r_ifF ((r_orF c1).trans ((r_orF c2).trans ((r_orF c3).trans ((r_orF c4).trans c5))))).trans r_nx
end
end L2.VD.K01

namespace L2.VD.K01
open PySem PySem.Spec PyProof.Rows
section
variable (ns : List Int) (a b : Int) (h w o : Nat) (A B D : List (List Int)) (k : Int) (s12 s13 s14 s15 : Slot) (r l : List Int)
abbrev st26 : DS := dIfS (dAnd (dTst (dOp fGt (dVar 2) (dC (.int 0)))) (dTst (dOp (fNeO (tab [(2, f_Grid_eq)])) (dMake 2 2 3 f_Grid_init [.non] (dCons (dVar 5) dNil)) (dVar 8)))) (dRet (dC (.bl false))) dNx
abbrev mk22 : DE := dMake 2 2 3 f_Grid_init [.non] (dCons (dTup (dCons (dTup (dCons (dC (.int 1)) (dCons (dC (.int 2)) dNil))) (dCons (dTup (dCons (dC (.int 3)) (dCons (dC (.int 4)) dNil))) dNil))) dNil)
abbrev st27 : DS := dRet (dOp fEq (dCall 2 f_law_malformed [] (cVal mk22 (cVal (tk 4) cNil))) (dC (.int 3)))
theorem gt0 (h : Nat) : fGt (.int h) (.int 0) = some (.sh (.bl (decide ((0 : Int) < h)))) := rfl
theorem st26_ok (hA : Drawn A h w) (hh : h ≤ 10) : st26 (E9 ns a b h w o A B D k s12 s13 s14 s15 r l u5) = .ok .nx (E9 ns a b h w o A B D k s12 s13 s14 s15 r l u5) := by
  have lA := hA.len
  let e := E9 ns a b h w o A B D k s12 s13 s14 s15 r l u5
  have hx : dVar 8 e = .ok (.sh (gr A w)) e := r_var rfl
  have c1 : dTst (dOp fGt (dVar 2) (dC (.int 0))) e = .ok (decide ((0 : Int) < h)) e := r_tst (r_op (r_var (t := .int h) rfl) r_c (gt0 h))
  by_cases hp : (0 : Int) < h
  · rw [decide_eq_true hp] at c1
    have hm : dMake 2 2 3 f_Grid_init [.non] (dCons (dVar 5) dNil) e = .ok (.sh (gr A w)) e := by
      cases A with
      | nil => exact absurd hp (by rw [← lA]; simp)
      | cons r0 M =>
        have h0 : (r0.length : Int) = w := hA.wd r0 (List.mem_cons_self ..)
        have hW : Wd (r0 :: M) r0.length := by rw [h0]; exact hA.wd
        have h1 := (r_make (F := f_Grid_init) (c := 2) (nf := 2) (np := 3) (ds := [.non]) (r_one (r_var (i := 5) (e := e) (t := tm (r0 :: M)) rfl)) rfl).trans (mk_none true true r0 M hW (by omega) e)
        rw [h0] at h1
        exact h1
    exact (r_ifF ((r_andT c1).trans (r_tst (r_op hm hx (neO_self A w))))).trans r_nx
  · rw [decide_eq_false hp] at c1
    exact (r_ifF (r_andF c1)).trans r_nx
theorem st27_ok : ∃ e', st27 (E9 ns a b h w o A B D k s12 s13 s14 s15 r l u5) = .ok (.rt (.sh (.bl true))) e' := by
  let e := E9 ns a b h w o A B D k s12 s13 s14 s15 r l u5
  have hW : Wd ([1, 2] :: [[3, 4]]) ([1, 2] : List Int).length := by
    intro q hq
    simp only [List.mem_cons, List.not_mem_nil, or_false] at hq
    rcases hq with rfl | rfl <;> rfl
  have ht : dTup (dCons (dTup (dCons (dC (.int 1)) (dCons (dC (.int 2)) dNil))) (dCons (dTup (dCons (dC (.int 3)) (dCons (dC (.int 4)) dNil))) dNil)) e = .ok (.sh (tm [[1, 2], [3, 4]])) e := r_tup (ts := [row true [1, 2], row true [3, 4]]) (r_two (r_tup (ts := [.int 1, .int 2]) (r_two r_c r_c) rfl) (r_tup (ts := [.int 3, .int 4]) (r_two r_c r_c) rfl)) rfl
  have hm : mk22 e = .ok (.sh (gr [[1, 2], [3, 4]] 2)) e := (r_make (F := f_Grid_init) (c := 2) (nf := 2) (np := 3) (ds := [.non]) (r_one ht) rfl).trans (mk_none true true [1, 2] [[3, 4]] hW (by decide) e)
  obtain ⟨x, a1, b1, h1, x1, x2⟩ := d_take (i := 1) (p := false) (a := a) (b := b) (m := 4) (e := e) (dm := dC (.int 4)) (by decide) (by decide) rfl r_c
  exact ⟨_, r_ret (r_op (call2 hm h1 (run_malformed x x1 x2 _)) r_c (eq_int 3 3))⟩
end
end L2.VD.K01

namespace L2.VD.K01
open PySem PySem.Spec PyProof.Rows
theorem b_law_eq : b_law = dSeq st1 (dSeq st2 (dSeq st3 (dSeq st4 (dSeq st5 (dSeq st6 (dSeq st7 (dSeq st8 (dSeq st9 (dSeq st10 (dSeq st11 (dSeq st12 (dSeq st13 (dSeq st14 (dSeq st15 (dSeq st16 (dSeq st17 (dSeq st18 (dSeq st19 (dSeq st20 (dSeq st21 (dSeq st22 (dSeq st23 (dSeq st24 (dSeq st25 (dSeq st26 st27))))))))))))))))))))))))) := rfl
theorem law_all (ns : List Int) : ∃ e', f_law [.sh (.sq (ti ns))] = .ok (.sh (.bl true)) e' := by
  obtain ⟨a1, b1, h1⟩ := st1_ok ns
  obtain ⟨a2, b2, x, y, z, hx, hy, hz, h2⟩ := st2_ok ns a1 b1
  obtain ⟨h, rfl⟩ := Int.eq_ofNat_of_zero_le hx.1
  obtain ⟨w, rfl⟩ := Int.eq_ofNat_of_zero_le hy.1
  obtain ⟨o, rfl⟩ := Int.eq_ofNat_of_zero_le hz.1
  have hh : h ≤ 10 := by omega
  have hw : w ≤ 10 := by omega
  have ho : o ≤ 10 := by omega
  obtain ⟨A, B, a3, b3, hA, hB, h3⟩ := st3_ok ns a2 b2 h w (o : Int) hh hw
  obtain ⟨D, a4, b4, hD, h4⟩ := st4_ok ns a3 b3 h w o A B hw ho
  have h5 := st5_ok ns a4 b4 h w o A B D hA hB hD hh hw
  obtain ⟨k, a6, b6, hk, h6⟩ := st6_ok ns a4 b4 h w o A B D
  have h7 := st7_ok ns a6 b6 h w o A B D k hA hB hh hw
  have h8 := st8_ok ns a6 b6 h w o A B D k hA hB hh hw
  have h9 := st9_ok ns a6 b6 h w o A B D k hA hh hw (tm (addM A B)) (tm (subM A B))
  have h10 := st10_ok ns a6 b6 h w o A B D k hA hh hw hk (tm (addM A B)) (tm (subM A B)) (tm (ngM A))
  have h11 := st11_ok ns a6 b6 h w o A B D k hA hB hh (tm (addM A B)) (tm (subM A B)) (tm (ngM A)) (tm (scM k A))
  have h12 := st12_ok ns a6 b6 h w o A B D k hA hB hh hw hk (.ol false (due5 A B k))
  obtain ⟨s14, p14, h13⟩ := st13_ok ns a6 b6 h w o A B D k hA hB hh
  have h14 := st14_ok ns a6 b6 h w o A B D k (.ol false (due5 A B k)) (.ol false (told5 w A B k)) s14 hA hD hh hw ho
  have h15 := st15_ok ns a6 b6 h w o A B D k (.ol false (due5 A B k)) (.ol false (told5 w A B k)) s14 hA hh hw
  have h16 := st16_ok ns a6 b6 h w o A B D k (.ol false (due5 A B k)) (.ol false (told5 w A B k)) s14 hA hh hw
  obtain ⟨r, a7, b7, lr, br, h17⟩ := st17_ok ns a6 b6 h w o A B D k (.ol false (due5 A B k)) (.ol false (told5 w A B k)) s14 (.sh (gr (trM A w) h)) hw
  obtain ⟨l, a8, b8, ll, bl, h18⟩ := st18_ok ns a7 b7 h w o A B D k (.ol false (due5 A B k)) (.ol false (told5 w A B k)) s14 (.sh (gr (trM A w) h)) (.sh (row true r)) hh
  have h19 := st19_ok ns a8 b8 h w o A B D k (.ol false (due5 A B k)) (.ol false (told5 w A B k)) s14 (.sh (gr (trM A w) h)) r l hA hh hw lr
  have h20 := st20_ok ns a8 b8 h w o A B D k (.ol false (due5 A B k)) (.ol false (told5 w A B k)) s14 (.sh (gr (trM A w) h)) r l hA hh hw ll bl
  have h21 := st21_ok ns a8 b8 h w o A B D k (.ol false (due5 A B k)) (.ol false (told5 w A B k)) s14 (.sh (gr (trM A w) h)) r l hA hh hw ll bl
  have h22 := st22_ok ns a8 b8 h w o A B D k (.ol false (due5 A B k)) (.ol false (told5 w A B k)) s14 (.sh (gr (trM A w) h)) r l hA hD hh hw ho
  have h23 := st23_ok ns a8 b8 h w o A B D k (.ol false (due5 A B k)) (.ol false (told5 w A B k)) s14 (.sh (gr (trM A w) h)) r l hA hD hh hw ho
  have h24 := st24_ok ns a8 b8 h w o A B D k (.ol false (due5 A B k)) (.ol false (told5 w A B k)) s14 (.sh (gr (trM A w) h)) r l hA hD hw ho
  have h25 := st25_ok ns a8 b8 h w o A B D k (.ol false (due5 A B k)) (.ol false (told5 w A B k)) s14 (.sh (gr (trM A w) h)) r l hA hB hh
  have h26 := st26_ok ns a8 b8 h w o A B D k (.ol false (due5 A B k)) (.ol false (told5 w A B k)) s14 (.sh (gr (trM A w) h)) r l hA hh
  obtain ⟨e', h27⟩ := st27_ok ns a8 b8 h w o A B D k (.ol false (due5 A B k)) (.ol false (told5 w A B k)) s14 (.sh (gr (trM A w) h)) r l
  refine ⟨e', r_fn (d1 := b_law) ?_⟩
  rw [b_law_eq]
  exact (r_seq h1).trans ((r_seq h2).trans ((r_seq h3).trans ((r_seq h4).trans ((r_seq h5).trans ((r_seq h6).trans ((r_seq h7).trans ((r_seq h8).trans ((r_seq h9).trans ((r_seq h10).trans ((r_seq h11).trans ((r_seq h12).trans ((r_seq h13).trans ((r_seq h14).trans ((r_seq h15).trans ((r_seq h16).trans ((r_seq h17).trans ((r_seq h18).trans ((r_seq h19).trans ((r_seq h20).trans ((r_seq h21).trans ((r_seq h22).trans ((r_seq h23).trans ((r_seq h24).trans ((r_seq h25).trans ((r_seq h26).trans h27)))))))))))))))))))))))))
theorem law_true (ns : List Int) (h : ns.length ≤ 63) : ∃ e', f_law [.sh (.sq (ns.map T.int))] = .ok (.sh (.bl true)) e' := law_all ns
end L2.VD.K01

namespace L2.VD.K01
open PySem PySem.Spec PyProof.Rows
def spLaw (K : PySem.W.Frag) : Sp := fun vs H Q _ => ∃ (a : Addr) (ns : List Int), vs = [.ref a] ∧ SqL K H a (ns.map V.int) ∧ ns.length ≤ 63 ∧ ∀ H', Q (.bl true) H'
theorem sp_law {K : PySem.W.Frag} {mg : Str → Option Value} (tx : Tx K mg) : ∀ vs H Q E, spLaw K vs H Q E → spD tx.C 1 f_law vs H Q E := by
  rintro vs H Q E ⟨a, ns, rfl, hS, hl, q⟩
  obtain ⟨e', he⟩ := law_true ns hl
  have no : ∀ i a', ¬ Owns ⟨[.sh (.sq (ns.map T.int))], [some (.ref a)], H, H⟩ i a' := by
    rintro i a' ⟨sl, v, h1, h2, h3⟩
    match i, h1 with
    | 0, h1 => cases h1; exact h3
  refine ⟨rfl, [.sh (.sq (ns.map T.int))], H, ⟨fun _ _ h => h, rfl, fun i sl h => ?_, fun i a' h => absurd h (no i a'), fun i j a' h _ => absurd h (no i a')⟩, ?_⟩
  · match i, h with
    | 0, h => cases h; exact ⟨.ref a, rfl, a, _, rfl, hS, Rps.ints.mpr rfl⟩
  · rw [he]
    exact fun σ' H' G' _ _ v ov => by
      have ov : v = .bl true := ov
      rw [ov]; exact q _
theorem all_mk {l : PySem.W.OpenLaw} {w : World} {K : PySem.W.Frag} {h : Heap} {mg : Str → Option Value} {fa : Addr} {D4 f0 f1 f2 f3 f4 f5 f7 f8 f9 f10 f11 f12 f13 f14 f15 f16 f17 f18 f19 f20 f21 f22 f23 f24 f25 f26 f27 f6 C1 C2 : Addr} (X : K.In h) (G : h.Ns mainGlobals mg) (hfa : mg "law" = some (.ref fa))
    {od0 an0 od1 an1 od2 an2 od3 an3 od4 an4 vd4 od5 an5 od7 an7 od8 an8 od9 an9 od10 an10 od11 an11 od12 an12 od13 an13 od14 an14 od15 an15 od16 an16 od17 an17 od18 an18 od19 an19 od20 an20 od21 an21 od22 an22 od23 an23 od24 an24 od25 an25 od26 an26 od27 an27 od6 an6 : Option Addr} {sl0 sl1 sl2 sl3 sl4 vs4 sl5 sl7 sl8 sl9 sl10 sl11 sl12 sl13 sl14 sl15 sl16 sl17 sl18 sl19 sl20 sl21 sl22 sl23 sl24 sl25 sl26 sl27 sl6 : Array (Option Value)} {oc0 kV0 dc0 pm0 cd0 ct0 oc1 kV1 dc1 pm1 cd1 ct1 oc2 kV2 dc2 pm2 cd2 ct2 oc3 kV3 dc3 pm3 cd3 ct3 oc4 kV4 dc4 pm4 cd4 ct4 vc4 oc5 kV5 dc5 pm5 cd5 ct5 oc7 kV7 dc7 pm7 cd7 ct7 oc8 kV8 dc8 pm8 cd8 ct8 oc9 kV9 dc9 pm9 cd9 ct9 oc10 kV10 dc10 pm10 cd10 ct10 oc11 kV11 dc11 pm11 cd11 ct11 oc12 kV12 dc12 pm12 cd12 ct12 oc13 kV13 dc13 pm13 cd13 ct13 oc14 kV14 dc14 pm14 cd14 ct14 oc15 kV15 dc15 pm15 cd15 ct15 oc16 kV16 dc16 pm16 cd16 ct16 oc17 kV17 dc17 pm17 cd17 ct17 oc18 kV18 dc18 pm18 cd18 ct18 oc19 kV19 dc19 pm19 cd19 ct19 oc20 kV20 dc20 pm20 cd20 ct20 oc21 kV21 dc21 pm21 cd21 ct21 oc22 kV22 dc22 pm22 cd22 ct22 oc23 kV23 dc23 pm23 cd23 ct23 oc24 kV24 dc24 pm24 cd24 ct24 oc25 kV25 dc25 pm25 cd25 ct25 oc26 kV26 dc26 pm26 cd26 ct26 oc27 kV27 dc27 pm27 cd27 ct27 oc6 kV6 dc6 pm6 cd6 ct6 : Value} {vn4 : Nat}
    (B1 : PySem.W.nsIn K mainGlobals "Malformed" = some (some (.ref C1)))
    (B2 : PySem.W.nsIn K mainGlobals "Grid" = some (some (.ref C2)))
    (A0 : PySem.W.nsIn K mainGlobals "is_integer" = some (some (.ref f0)))
    (hL0 : K.lookup f0 = some ⟨oc0, od0, .func (PySem.W.fnOf "is_integer" "is_integer" (defArgs s_is_integer) (defBody s_is_integer) (defScope s_is_integer) .none kV0 dc0 pm0 an0 cd0 ct0), sl0⟩)
    (P0 : PySem.W.codeIn K cd0 "is_integer" = true)
    (K0 : PySem.W.keepIn K (.ref f0) = true)
    (A1 : PySem.W.nsIn K mainGlobals "dot" = some (some (.ref f1)))
    (hL1 : K.lookup f1 = some ⟨oc1, od1, .func (PySem.W.fnOf "dot" "dot" (defArgs s_dot) (defBody s_dot) (defScope s_dot) .none kV1 dc1 pm1 an1 cd1 ct1), sl1⟩)
    (P1 : PySem.W.codeIn K cd1 "dot" = true)
    (K1 : PySem.W.keepIn K (.ref f1) = true)
    (A2 : PySem.W.nsIn K mainGlobals "_checked" = some (some (.ref f2)))
    (hL2 : K.lookup f2 = some ⟨oc2, od2, .func (PySem.W.fnOf "_checked" "_checked" (defArgs s_checked) (defBody s_checked) (defScope s_checked) .none kV2 dc2 pm2 an2 cd2 ct2), sl2⟩)
    (P2 : PySem.W.codeIn K cd2 "_checked" = true)
    (K2 : PySem.W.keepIn K (.ref f2) = true)
    (A3 : PySem.W.nsIn K mainGlobals "_unit_rows" = some (some (.ref f3)))
    (hL3 : K.lookup f3 = some ⟨oc3, od3, .func (PySem.W.fnOf "_unit_rows" "_unit_rows" (defArgs s_unit_rows) (defBody s_unit_rows) (defScope s_unit_rows) .none kV3 dc3 pm3 an3 cd3 ct3), sl3⟩)
    (P3 : PySem.W.codeIn K cd3 "_unit_rows" = true)
    (K3 : PySem.W.keepIn K (.ref f3) = true)
    (A4 : PySem.W.findIn K (.ref C2) "__init__" = some (some (.ref f4)))
    (G4 : PySem.W.isFn K (.ref f4) = true)
    (hL4 : K.lookup f4 = some ⟨oc4, od4, .func (PySem.W.fnOf "__init__" "Grid.__init__" (defArgs s_Grid_init) (defBody s_Grid_init) (defScope s_Grid_init) (.ref D4) kV4 dc4 pm4 an4 cd4 ct4), sl4⟩)
    (P4 : PySem.W.codeIn K cd4 "Grid.__init__" = true)
    (K4 : PySem.W.keepIn K (.ref f4) = true)
    (V4 : K.lookup D4 = some ⟨vc4, vd4, .seq #[Value.none] vn4, vs4⟩)
    (A5 : PySem.W.findIn K (.ref C2) "__len__" = some (some (.ref f5)))
    (G5 : PySem.W.isFn K (.ref f5) = true)
    (hL5 : K.lookup f5 = some ⟨oc5, od5, .func (PySem.W.fnOf "__len__" "Grid.__len__" (defArgs s_Grid_len) (defBody s_Grid_len) (defScope s_Grid_len) .none kV5 dc5 pm5 an5 cd5 ct5), sl5⟩)
    (P5 : PySem.W.codeIn K cd5 "Grid.__len__" = true)
    (K5 : PySem.W.keepIn K (.ref f5) = true)
    (A7 : PySem.W.findIn K (.ref C2) "__eq__" = some (some (.ref f7)))
    (G7 : PySem.W.isFn K (.ref f7) = true)
    (hL7 : K.lookup f7 = some ⟨oc7, od7, .func (PySem.W.fnOf "__eq__" "Grid.__eq__" (defArgs s_Grid_eq) (defBody s_Grid_eq) (defScope s_Grid_eq) .none kV7 dc7 pm7 an7 cd7 ct7), sl7⟩)
    (P7 : PySem.W.codeIn K cd7 "Grid.__eq__" = true)
    (K7 : PySem.W.keepIn K (.ref f7) = true)
    (A8 : PySem.W.findIn K (.ref C2) "__add__" = some (some (.ref f8)))
    (G8 : PySem.W.isFn K (.ref f8) = true)
    (hL8 : K.lookup f8 = some ⟨oc8, od8, .func (PySem.W.fnOf "__add__" "Grid.__add__" (defArgs s_Grid_add) (defBody s_Grid_add) (defScope s_Grid_add) .none kV8 dc8 pm8 an8 cd8 ct8), sl8⟩)
    (P8 : PySem.W.codeIn K cd8 "Grid.__add__" = true)
    (K8 : PySem.W.keepIn K (.ref f8) = true)
    (A9 : PySem.W.findIn K (.ref C2) "__sub__" = some (some (.ref f9)))
    (G9 : PySem.W.isFn K (.ref f9) = true)
    (hL9 : K.lookup f9 = some ⟨oc9, od9, .func (PySem.W.fnOf "__sub__" "Grid.__sub__" (defArgs s_Grid_sub) (defBody s_Grid_sub) (defScope s_Grid_sub) .none kV9 dc9 pm9 an9 cd9 ct9), sl9⟩)
    (P9 : PySem.W.codeIn K cd9 "Grid.__sub__" = true)
    (K9 : PySem.W.keepIn K (.ref f9) = true)
    (A10 : PySem.W.findIn K (.ref C2) "__mul__" = some (some (.ref f10)))
    (G10 : PySem.W.isFn K (.ref f10) = true)
    (hL10 : K.lookup f10 = some ⟨oc10, od10, .func (PySem.W.fnOf "__mul__" "Grid.__mul__" (defArgs s_Grid_mul) (defBody s_Grid_mul) (defScope s_Grid_mul) .none kV10 dc10 pm10 an10 cd10 ct10), sl10⟩)
    (P10 : PySem.W.codeIn K cd10 "Grid.__mul__" = true)
    (K10 : PySem.W.keepIn K (.ref f10) = true)
    (A11 : PySem.W.findIn K (.ref C2) "__neg__" = some (some (.ref f11)))
    (G11 : PySem.W.isFn K (.ref f11) = true)
    (hL11 : K.lookup f11 = some ⟨oc11, od11, .func (PySem.W.fnOf "__neg__" "Grid.__neg__" (defArgs s_Grid_neg) (defBody s_Grid_neg) (defScope s_Grid_neg) .none kV11 dc11 pm11 an11 cd11 ct11), sl11⟩)
    (P11 : PySem.W.codeIn K cd11 "Grid.__neg__" = true)
    (K11 : PySem.W.keepIn K (.ref f11) = true)
    (A12 : PySem.W.findIn K (.ref C2) "scaled" = some (some (.ref f12)))
    (G12 : PySem.W.isFn K (.ref f12) = true)
    (hL12 : K.lookup f12 = some ⟨oc12, od12, .func (PySem.W.fnOf "scaled" "Grid.scaled" (defArgs s_Grid_scaled) (defBody s_Grid_scaled) (defScope s_Grid_scaled) .none kV12 dc12 pm12 an12 cd12 ct12), sl12⟩)
    (P12 : PySem.W.codeIn K cd12 "Grid.scaled" = true)
    (K12 : PySem.W.keepIn K (.ref f12) = true)
    (A13 : PySem.W.findIn K (.ref C2) "transposed" = some (some (.ref f13)))
    (G13 : PySem.W.isFn K (.ref f13) = true)
    (hL13 : K.lookup f13 = some ⟨oc13, od13, .func (PySem.W.fnOf "transposed" "Grid.transposed" (defArgs s_Grid_transposed) (defBody s_Grid_transposed) (defScope s_Grid_transposed) .none kV13 dc13 pm13 an13 cd13 ct13), sl13⟩)
    (P13 : PySem.W.codeIn K cd13 "Grid.transposed" = true)
    (K13 : PySem.W.keepIn K (.ref f13) = true)
    (A14 : PySem.W.findIn K (.ref C2) "times" = some (some (.ref f14)))
    (G14 : PySem.W.isFn K (.ref f14) = true)
    (hL14 : K.lookup f14 = some ⟨oc14, od14, .func (PySem.W.fnOf "times" "Grid.times" (defArgs s_Grid_times) (defBody s_Grid_times) (defScope s_Grid_times) .none kV14 dc14 pm14 an14 cd14 ct14), sl14⟩)
    (P14 : PySem.W.codeIn K cd14 "Grid.times" = true)
    (K14 : PySem.W.keepIn K (.ref f14) = true)
    (A15 : PySem.W.findIn K (.ref C2) "before" = some (some (.ref f15)))
    (G15 : PySem.W.isFn K (.ref f15) = true)
    (hL15 : K.lookup f15 = some ⟨oc15, od15, .func (PySem.W.fnOf "before" "Grid.before" (defArgs s_Grid_before) (defBody s_Grid_before) (defScope s_Grid_before) .none kV15 dc15 pm15 an15 cd15 ct15), sl15⟩)
    (P15 : PySem.W.codeIn K cd15 "Grid.before" = true)
    (K15 : PySem.W.keepIn K (.ref f15) = true)
    (A16 : PySem.W.findIn K (.ref C2) "stacked" = some (some (.ref f16)))
    (G16 : PySem.W.isFn K (.ref f16) = true)
    (hL16 : K.lookup f16 = some ⟨oc16, od16, .func (PySem.W.fnOf "stacked" "Grid.stacked" (defArgs s_Grid_stacked) (defBody s_Grid_stacked) (defScope s_Grid_stacked) .none kV16 dc16 pm16 an16 cd16 ct16), sl16⟩)
    (P16 : PySem.W.codeIn K cd16 "Grid.stacked" = true)
    (K16 : PySem.W.keepIn K (.ref f16) = true)
    (A17 : PySem.W.findIn K (.ref C2) "is_square" = some (some (.ref f17)))
    (G17 : PySem.W.isFn K (.ref f17) = true)
    (hL17 : K.lookup f17 = some ⟨oc17, od17, .func (PySem.W.fnOf "is_square" "Grid.is_square" (defArgs s_Grid_is_square) (defBody s_Grid_is_square) (defScope s_Grid_is_square) .none kV17 dc17 pm17 an17 cd17 ct17), sl17⟩)
    (P17 : PySem.W.codeIn K cd17 "Grid.is_square" = true)
    (K17 : PySem.W.keepIn K (.ref f17) = true)
    (A18 : PySem.W.nsIn K mainGlobals "unit" = some (some (.ref f18)))
    (hL18 : K.lookup f18 = some ⟨oc18, od18, .func (PySem.W.fnOf "unit" "unit" (defArgs s_unit) (defBody s_unit) (defScope s_unit) .none kV18 dc18 pm18 an18 cd18 ct18), sl18⟩)
    (P18 : PySem.W.codeIn K cd18 "unit" = true)
    (K18 : PySem.W.keepIn K (.ref f18) = true)
    (A19 : PySem.W.nsIn K mainGlobals "diagonal" = some (some (.ref f19)))
    (hL19 : K.lookup f19 = some ⟨oc19, od19, .func (PySem.W.fnOf "diagonal" "diagonal" (defArgs s_diagonal) (defBody s_diagonal) (defScope s_diagonal) .none kV19 dc19 pm19 an19 cd19 ct19), sl19⟩)
    (P19 : PySem.W.codeIn K cd19 "diagonal" = true)
    (K19 : PySem.W.keepIn K (.ref f19) = true)
    (A20 : PySem.W.nsIn K mainGlobals "blocks" = some (some (.ref f20)))
    (hL20 : K.lookup f20 = some ⟨oc20, od20, .func (PySem.W.fnOf "blocks" "blocks" (defArgs s_blocks) (defBody s_blocks) (defScope s_blocks) .none kV20 dc20 pm20 an20 cd20 ct20), sl20⟩)
    (P20 : PySem.W.codeIn K cd20 "blocks" = true)
    (K20 : PySem.W.keepIn K (.ref f20) = true)
    (A21 : PySem.W.nsIn K mainGlobals "_law_state" = some (some (.ref f21)))
    (hL21 : K.lookup f21 = some ⟨oc21, od21, .func (PySem.W.fnOf "_law_state" "_law_state" (defArgs s_law_state) (defBody s_law_state) (defScope s_law_state) .none kV21 dc21 pm21 an21 cd21 ct21), sl21⟩)
    (P21 : PySem.W.codeIn K cd21 "_law_state" = true)
    (K21 : PySem.W.keepIn K (.ref f21) = true)
    (A22 : PySem.W.nsIn K mainGlobals "_law_take" = some (some (.ref f22)))
    (hL22 : K.lookup f22 = some ⟨oc22, od22, .func (PySem.W.fnOf "_law_take" "_law_take" (defArgs s_law_take) (defBody s_law_take) (defScope s_law_take) .none kV22 dc22 pm22 an22 cd22 ct22), sl22⟩)
    (P22 : PySem.W.codeIn K cd22 "_law_take" = true)
    (K22 : PySem.W.keepIn K (.ref f22) = true)
    (A23 : PySem.W.nsIn K mainGlobals "_law_rows" = some (some (.ref f23)))
    (hL23 : K.lookup f23 = some ⟨oc23, od23, .func (PySem.W.fnOf "_law_rows" "_law_rows" (defArgs s_law_rows) (defBody s_law_rows) (defScope s_law_rows) .none kV23 dc23 pm23 an23 cd23 ct23), sl23⟩)
    (P23 : PySem.W.codeIn K cd23 "_law_rows" = true)
    (K23 : PySem.W.keepIn K (.ref f23) = true)
    (A24 : PySem.W.nsIn K mainGlobals "_law_product" = some (some (.ref f24)))
    (hL24 : K.lookup f24 = some ⟨oc24, od24, .func (PySem.W.fnOf "_law_product" "_law_product" (defArgs s_law_product) (defBody s_law_product) (defScope s_law_product) .none kV24 dc24 pm24 an24 cd24 ct24), sl24⟩)
    (P24 : PySem.W.codeIn K cd24 "_law_product" = true)
    (K24 : PySem.W.keepIn K (.ref f24) = true)
    (A25 : PySem.W.nsIn K mainGlobals "_law_is_rows" = some (some (.ref f25)))
    (hL25 : K.lookup f25 = some ⟨oc25, od25, .func (PySem.W.fnOf "_law_is_rows" "_law_is_rows" (defArgs s_law_is_rows) (defBody s_law_is_rows) (defScope s_law_is_rows) .none kV25 dc25 pm25 an25 cd25 ct25), sl25⟩)
    (P25 : PySem.W.codeIn K cd25 "_law_is_rows" = true)
    (K25 : PySem.W.keepIn K (.ref f25) = true)
    (A26 : PySem.W.nsIn K mainGlobals "_law_malformed" = some (some (.ref f26)))
    (hL26 : K.lookup f26 = some ⟨oc26, od26, .func (PySem.W.fnOf "_law_malformed" "_law_malformed" (defArgs s_law_malformed) (defBody s_law_malformed) (defScope s_law_malformed) .none kV26 dc26 pm26 an26 cd26 ct26), sl26⟩)
    (P26 : PySem.W.codeIn K cd26 "_law_malformed" = true)
    (K26 : PySem.W.keepIn K (.ref f26) = true)
    (A27 : PySem.W.nsIn K mainGlobals "law" = some (some (.ref f27)))
    (hL27 : K.lookup f27 = some ⟨oc27, od27, .func (PySem.W.fnOf "law" "law" (defArgs s_law) (defBody s_law) (defScope s_law) .none kV27 dc27 pm27 an27 cd27 ct27), sl27⟩)
    (P27 : PySem.W.codeIn K cd27 "law" = true)
    (K27 : PySem.W.keepIn K (.ref f27) = true)
    (A6 : PySem.W.findIn K (.ref C2) "__iter__" = some (some (.ref f6)))
    (G6 : PySem.W.isFn K (.ref f6) = true)
    (hL6 : K.lookup f6 = some ⟨oc6, od6, .func (PySem.W.fnOf "__iter__" "Grid.__iter__" (defArgs s_Grid_iter) (defBody s_Grid_iter) (defScope s_Grid_iter) .none kV6 dc6 pm6 an6 cd6 ct6), sl6⟩)
    (P6 : PySem.W.codeIn K cd6 "Grid.__iter__" = true)
    (K6 : PySem.W.keepIn K (.ref f6) = true)
    (ca2a : PySem.W.plainGet K C2 Str.empty = true)
    (ca2b : PySem.W.hasDictIn K C2 = true)
    (ca2c : PySem.W.plainOver K C2 = true)
    (ca2d : PySem.W.findIn K (.ref C2) "__setattr__" = some (some (.builtin "object.__setattr__")))
    (in2a : PySem.W.findIn K (.ref C2) "__class__" = some (some (.builtin "object.__class__")))
    (in2c : PySem.W.mroIn K C2 (.type "object") = some true)
    (mk2a : PySem.W.makesIn K C2 = true)
    (mk2b : PySem.W.keepIn K (.ref C2) = true)
    (sf2 : PySem.W.selfFirst K C2 = true)
    (e2n1 : PySem.W.subIn K (.type "tuple") (.ref C2) = some false)
    (e2n2 : PySem.W.subIn K (.type "list") (.ref C2) = some false)
    (e2n3 : PySem.W.subIn K (.type "int") (.ref C2) = some false)
    (e2n4 : PySem.W.subIn K (.type "NoneType") (.ref C2) = some false)
    (e2n5 : PySem.W.subIn K (.type "str") (.ref C2) = some false)
    (e2n6 : PySem.W.subIn K (.type "bool") (.ref C2) = some false)
    (e2ne : PySem.W.findIn K (.ref C2) "__ne__" = some (some (.builtin "object.__ne__")))
    (kd2_1 : PySem.W.subIn K (.ref C1) (.ref C2) = some false)
    (inb : PySem.W.specialIn K (.builtin "object.__class__") "__get__" = some (some (.builtin "getset_descriptor.__get__")))
    (inc : PySem.W.takesIn K (.builtin "object.__class__") = some true)
    (ic2 : PySem.W.isClsIn K C2 = true)
    (ty2 : PySem.W.typeIn K (.ref C2) = some (.type "type"))
    (rt2_bool : PySem.W.subIn K (.ref C2) (.type "bool") = some false)
    (rt2_int : PySem.W.subIn K (.ref C2) (.type "int") = some false)
    (rt2_list : PySem.W.subIn K (.ref C2) (.type "list") = some false)
    (rt2_tuple : PySem.W.subIn K (.ref C2) (.type "tuple") = some false)
    (xra1 : PySem.W.subIn K (.ref C1) (.type "BaseException") = some true)
    (ic1 : PySem.W.isClsIn K C1 = true)
    (xrb1 : PySem.W.typeIn K (.ref C1) = some (.type "type"))
    (rr1_1 : PySem.W.subIn K (.ref C1) (.ref C1) = some true)
    (xna2_rows : PySem.W.findIn K (.ref C2) "rows" = some none)
    (xna2_width : PySem.W.findIn K (.ref C2) "width" = some none)
    (xex1 : PySem.W.excIn K C1 [.type "ValueError", .type "Exception", .type "BaseException", .type "object"] "ValueError.__new__" = true)
    (xkp1 : PySem.W.keepIn K (.ref C1) = true)
    (xz_abs : PySem.W.nsIn K mainGlobals "abs" = some none)
    (xz_bool : PySem.W.nsIn K mainGlobals "bool" = some none)
    (xz_int : PySem.W.nsIn K mainGlobals "int" = some none)
    (xz_isinstance : PySem.W.nsIn K mainGlobals "isinstance" = some none)
    (xz_iter : PySem.W.nsIn K mainGlobals "iter" = some none)
    (xz_len : PySem.W.nsIn K mainGlobals "len" = some none)
    (xz_list : PySem.W.nsIn K mainGlobals "list" = some none)
    (xz_range : PySem.W.nsIn K mainGlobals "range" = some none)
    (xz_sum : PySem.W.nsIn K mainGlobals "sum" = some none)
    (xz_tuple : PySem.W.nsIn K mainGlobals "tuple" = some none)
    (xz_zip : PySem.W.nsIn K mainGlobals "zip" = some none)
    : ∃ fd : FuncData, (∀ (s : Shared) (v : Value), BindsTo s fd ⟨[v], []⟩ [("_law_script", v)]) ∧ ∀ base : Heap, K.In base → base.Ns mainGlobals mg → FnOk l.prog w K mg base (L2.CX l.prog w) 16 fa fd ["_law_script"] (spLaw K) := by
  have e := hfa.symm.trans (PySem.W.mg_of X G A27)
  cases e
  have F0 := fun_mk (st := s_is_integer) hL0 P0 K0
  have b0 := F0.binds (ps := ["value"]) fun _ _ _ _ _ _ us hl => match us, hl with | [_], _ => rfl
  have F1 := fun_mk (st := s_dot) hL1 P1 K1
  have b1 := F1.binds (ps := ["a", "b"]) fun _ _ _ _ _ _ us hl => match us, hl with | [_, _], _ => rfl
  have F2 := fun_mk (st := s_checked) hL2 P2 K2
  have b2 := F2.binds (ps := ["rows", "width"]) fun _ _ _ _ _ _ us hl => match us, hl with | [_, _], _ => rfl
  have F3 := fun_mk (st := s_unit_rows) hL3 P3 K3
  have b3 := F3.binds (ps := ["n"]) fun _ _ _ _ _ _ us hl => match us, hl with | [_], _ => rfl
  have F4 : FunD K "__init__" "Grid.__init__" (defArgs s_Grid_init) (defBody s_Grid_init) (defScope s_Grid_init) [V.non] [] f4 (PySem.W.fnOf "__init__" "Grid.__init__" (defArgs s_Grid_init) (defBody s_Grid_init) (defScope s_Grid_init) (.ref D4) kV4 dc4 pm4 an4 cd4 ct4) := ⟨⟨_, _, _, _, _, _, _, _, _, _, rfl, hL4, P4, .inr ⟨(fun z => nomatch z), D4, _, [Value.none], _, rfl, V4, rfl, .cons rfl .nil⟩, .inl rfl⟩, K4⟩
  obtain ⟨u4, v4, bd4⟩ := FunD.binds1 (ps := ["self", "rows", "width"]) F4 2 0 (fun z => nomatch z) rfl (fun T kV doc pm an cdv ct us its hl hi => by
    match us, hl, its, hi with
    | [_, _], _, [_], _ => exact ⟨_, rfl, rfl⟩)
  obtain ⟨ux4, vx4, b4⟩ := FunD.binds1 (ps := ["self", "rows", "width"]) F4 3 1 (fun z => nomatch z) rfl (fun T kV doc pm an cdv ct us its hl hi => by
    match us, hl, its, hi with
    | [_, _, _], _, [_], _ => exact ⟨_, rfl, rfl⟩)
  cases vx4
  have F5 := fun_mk (st := s_Grid_len) hL5 P5 K5
  have b5 := F5.binds (ps := ["self"]) fun _ _ _ _ _ _ us hl => match us, hl with | [_], _ => rfl
  have F7 := fun_mk (st := s_Grid_eq) hL7 P7 K7
  have b7 := F7.binds (ps := ["self", "other"]) fun _ _ _ _ _ _ us hl => match us, hl with | [_, _], _ => rfl
  have F8 := fun_mk (st := s_Grid_add) hL8 P8 K8
  have b8 := F8.binds (ps := ["self", "other"]) fun _ _ _ _ _ _ us hl => match us, hl with | [_, _], _ => rfl
  have F9 := fun_mk (st := s_Grid_sub) hL9 P9 K9
  have b9 := F9.binds (ps := ["self", "other"]) fun _ _ _ _ _ _ us hl => match us, hl with | [_, _], _ => rfl
  have F10 := fun_mk (st := s_Grid_mul) hL10 P10 K10
  have b10 := F10.binds (ps := ["self", "other"]) fun _ _ _ _ _ _ us hl => match us, hl with | [_, _], _ => rfl
  have F11 := fun_mk (st := s_Grid_neg) hL11 P11 K11
  have b11 := F11.binds (ps := ["self"]) fun _ _ _ _ _ _ us hl => match us, hl with | [_], _ => rfl
  have F12 := fun_mk (st := s_Grid_scaled) hL12 P12 K12
  have b12 := F12.binds (ps := ["self", "k"]) fun _ _ _ _ _ _ us hl => match us, hl with | [_, _], _ => rfl
  have F13 := fun_mk (st := s_Grid_transposed) hL13 P13 K13
  have b13 := F13.binds (ps := ["self"]) fun _ _ _ _ _ _ us hl => match us, hl with | [_], _ => rfl
  have F14 := fun_mk (st := s_Grid_times) hL14 P14 K14
  have b14 := F14.binds (ps := ["self", "row"]) fun _ _ _ _ _ _ us hl => match us, hl with | [_, _], _ => rfl
  have F15 := fun_mk (st := s_Grid_before) hL15 P15 K15
  have b15 := F15.binds (ps := ["self", "row"]) fun _ _ _ _ _ _ us hl => match us, hl with | [_, _], _ => rfl
  have F16 := fun_mk (st := s_Grid_stacked) hL16 P16 K16
  have b16 := F16.binds (ps := ["self", "other"]) fun _ _ _ _ _ _ us hl => match us, hl with | [_, _], _ => rfl
  have F17 := fun_mk (st := s_Grid_is_square) hL17 P17 K17
  have b17 := F17.binds (ps := ["self"]) fun _ _ _ _ _ _ us hl => match us, hl with | [_], _ => rfl
  have F18 := fun_mk (st := s_unit) hL18 P18 K18
  have b18 := F18.binds (ps := ["n"]) fun _ _ _ _ _ _ us hl => match us, hl with | [_], _ => rfl
  have F19 := fun_mk (st := s_diagonal) hL19 P19 K19
  have b19 := F19.binds (ps := ["numbers"]) fun _ _ _ _ _ _ us hl => match us, hl with | [_], _ => rfl
  have F20 := fun_mk (st := s_blocks) hL20 P20 K20
  have b20 := F20.binds (ps := ["a", "b"]) fun _ _ _ _ _ _ us hl => match us, hl with | [_, _], _ => rfl
  have F21 := fun_mk (st := s_law_state) hL21 P21 K21
  have b21 := F21.binds (ps := ["_law_script"]) fun _ _ _ _ _ _ us hl => match us, hl with | [_], _ => rfl
  have F22 := fun_mk (st := s_law_take) hL22 P22 K22
  have b22 := F22.binds (ps := ["_law_state_here", "_law_m"]) fun _ _ _ _ _ _ us hl => match us, hl with | [_, _], _ => rfl
  have F23 := fun_mk (st := s_law_rows) hL23 P23 K23
  have b23 := F23.binds (ps := ["_law_state_here", "_law_height", "_law_width", "_law_most"]) fun _ _ _ _ _ _ us hl => match us, hl with | [_, _, _, _], _ => rfl
  have F24 := fun_mk (st := s_law_product) hL24 P24 K24
  have b24 := F24.binds (ps := ["_law_a", "_law_b", "_law_width"]) fun _ _ _ _ _ _ us hl => match us, hl with | [_, _, _], _ => rfl
  have F25 := fun_mk (st := s_law_is_rows) hL25 P25 K25
  have b25 := F25.binds (ps := ["_law_value", "_law_height", "_law_width"]) fun _ _ _ _ _ _ us hl => match us, hl with | [_, _, _], _ => rfl
  have F26 := fun_mk (st := s_law_malformed) hL26 P26 K26
  have b26 := F26.binds (ps := ["_law_a", "_law_k"]) fun _ _ _ _ _ _ us hl => match us, hl with | [_, _], _ => rfl
  have F27 := fun_mk (st := s_law) hL27 P27 K27
  have b27 := F27.binds (ps := ["_law_script"]) fun _ _ _ _ _ _ us hl => match us, hl with | [_], _ => rfl
  have F6 := fun_mk (st := s_Grid_iter) hL6 P6 K6
  have b6 := F6.binds (ps := ["self"]) fun _ _ _ _ _ _ us hl => match us, hl with | [_], _ => rfl
  let T : Tx K mg :=
    { a := fun n => match n with | 0 => f0 | 1 => f1 | 2 => f2 | 3 => f3 | 4 => f4 | 5 => f5 | 6 => f6 | 7 => f7 | 8 => f8 | 9 => f9 | 10 => f10 | 11 => f11 | 12 => f12 | 13 => f13 | 14 => f14 | 15 => f15 | 16 => f16 | 17 => f17 | 18 => f18 | 19 => f19 | 20 => f20 | 21 => f21 | 22 => f22 | 23 => f23 | 24 => f24 | 25 => f25 | 26 => f26 | 27 => fa | _ => fa
      fd := fun n => match n with | 0 => PySem.W.fnOf "is_integer" "is_integer" (defArgs s_is_integer) (defBody s_is_integer) (defScope s_is_integer) .none kV0 dc0 pm0 an0 cd0 ct0 | 1 => PySem.W.fnOf "dot" "dot" (defArgs s_dot) (defBody s_dot) (defScope s_dot) .none kV1 dc1 pm1 an1 cd1 ct1 | 2 => PySem.W.fnOf "_checked" "_checked" (defArgs s_checked) (defBody s_checked) (defScope s_checked) .none kV2 dc2 pm2 an2 cd2 ct2 | 3 => PySem.W.fnOf "_unit_rows" "_unit_rows" (defArgs s_unit_rows) (defBody s_unit_rows) (defScope s_unit_rows) .none kV3 dc3 pm3 an3 cd3 ct3 | 4 => PySem.W.fnOf "__init__" "Grid.__init__" (defArgs s_Grid_init) (defBody s_Grid_init) (defScope s_Grid_init) (.ref D4) kV4 dc4 pm4 an4 cd4 ct4 | 5 => PySem.W.fnOf "__len__" "Grid.__len__" (defArgs s_Grid_len) (defBody s_Grid_len) (defScope s_Grid_len) .none kV5 dc5 pm5 an5 cd5 ct5 | 6 => PySem.W.fnOf "__iter__" "Grid.__iter__" (defArgs s_Grid_iter) (defBody s_Grid_iter) (defScope s_Grid_iter) .none kV6 dc6 pm6 an6 cd6 ct6 | 7 => PySem.W.fnOf "__eq__" "Grid.__eq__" (defArgs s_Grid_eq) (defBody s_Grid_eq) (defScope s_Grid_eq) .none kV7 dc7 pm7 an7 cd7 ct7 | 8 => PySem.W.fnOf "__add__" "Grid.__add__" (defArgs s_Grid_add) (defBody s_Grid_add) (defScope s_Grid_add) .none kV8 dc8 pm8 an8 cd8 ct8 | 9 => PySem.W.fnOf "__sub__" "Grid.__sub__" (defArgs s_Grid_sub) (defBody s_Grid_sub) (defScope s_Grid_sub) .none kV9 dc9 pm9 an9 cd9 ct9 | 10 => PySem.W.fnOf "__mul__" "Grid.__mul__" (defArgs s_Grid_mul) (defBody s_Grid_mul) (defScope s_Grid_mul) .none kV10 dc10 pm10 an10 cd10 ct10 | 11 => PySem.W.fnOf "__neg__" "Grid.__neg__" (defArgs s_Grid_neg) (defBody s_Grid_neg) (defScope s_Grid_neg) .none kV11 dc11 pm11 an11 cd11 ct11 | 12 => PySem.W.fnOf "scaled" "Grid.scaled" (defArgs s_Grid_scaled) (defBody s_Grid_scaled) (defScope s_Grid_scaled) .none kV12 dc12 pm12 an12 cd12 ct12 | 13 => PySem.W.fnOf "transposed" "Grid.transposed" (defArgs s_Grid_transposed) (defBody s_Grid_transposed) (defScope s_Grid_transposed) .none kV13 dc13 pm13 an13 cd13 ct13 | 14 => PySem.W.fnOf "times" "Grid.times" (defArgs s_Grid_times) (defBody s_Grid_times) (defScope s_Grid_times) .none kV14 dc14 pm14 an14 cd14 ct14 | 15 => PySem.W.fnOf "before" "Grid.before" (defArgs s_Grid_before) (defBody s_Grid_before) (defScope s_Grid_before) .none kV15 dc15 pm15 an15 cd15 ct15 | 16 => PySem.W.fnOf "stacked" "Grid.stacked" (defArgs s_Grid_stacked) (defBody s_Grid_stacked) (defScope s_Grid_stacked) .none kV16 dc16 pm16 an16 cd16 ct16 | 17 => PySem.W.fnOf "is_square" "Grid.is_square" (defArgs s_Grid_is_square) (defBody s_Grid_is_square) (defScope s_Grid_is_square) .none kV17 dc17 pm17 an17 cd17 ct17 | 18 => PySem.W.fnOf "unit" "unit" (defArgs s_unit) (defBody s_unit) (defScope s_unit) .none kV18 dc18 pm18 an18 cd18 ct18 | 19 => PySem.W.fnOf "diagonal" "diagonal" (defArgs s_diagonal) (defBody s_diagonal) (defScope s_diagonal) .none kV19 dc19 pm19 an19 cd19 ct19 | 20 => PySem.W.fnOf "blocks" "blocks" (defArgs s_blocks) (defBody s_blocks) (defScope s_blocks) .none kV20 dc20 pm20 an20 cd20 ct20 | 21 => PySem.W.fnOf "_law_state" "_law_state" (defArgs s_law_state) (defBody s_law_state) (defScope s_law_state) .none kV21 dc21 pm21 an21 cd21 ct21 | 22 => PySem.W.fnOf "_law_take" "_law_take" (defArgs s_law_take) (defBody s_law_take) (defScope s_law_take) .none kV22 dc22 pm22 an22 cd22 ct22 | 23 => PySem.W.fnOf "_law_rows" "_law_rows" (defArgs s_law_rows) (defBody s_law_rows) (defScope s_law_rows) .none kV23 dc23 pm23 an23 cd23 ct23 | 24 => PySem.W.fnOf "_law_product" "_law_product" (defArgs s_law_product) (defBody s_law_product) (defScope s_law_product) .none kV24 dc24 pm24 an24 cd24 ct24 | 25 => PySem.W.fnOf "_law_is_rows" "_law_is_rows" (defArgs s_law_is_rows) (defBody s_law_is_rows) (defScope s_law_is_rows) .none kV25 dc25 pm25 an25 cd25 ct25 | 26 => PySem.W.fnOf "_law_malformed" "_law_malformed" (defArgs s_law_malformed) (defBody s_law_malformed) (defScope s_law_malformed) .none kV26 dc26 pm26 an26 cd26 ct26 | 27 => PySem.W.fnOf "law" "law" (defArgs s_law) (defBody s_law) (defScope s_law) .none kV27 dc27 pm27 an27 cd27 ct27 | _ => PySem.W.fnOf "is_integer" "is_integer" (defArgs s_is_integer) (defBody s_is_integer) (defScope s_is_integer) .none kV0 dc0 pm0 an0 cd0 ct0
      ca := fun n => match n with | 0 => C2 | 1 => C1 | 2 => C2 | _ => C2
      F0 := F0
      b0 := b0
      m0 := PySem.W.mg_of X G A0
      F1 := F1
      b1 := b1
      m1 := PySem.W.mg_of X G A1
      F2 := F2
      b2 := b2
      m2 := PySem.W.mg_of X G A2
      F3 := F3
      b3 := b3
      m3 := PySem.W.mg_of X G A3
      F4 := F4
      bd4us := u4
      bd4 := ⟨v4, bd4⟩
      b4 := b4
      mk2 := ⟨mk2a, A4, G4, mk2b⟩
      F5 := F5
      b5 := b5
      h5 := A5
      g5 := G5
      F7 := F7
      b7 := b7
      h7 := A7
      g7 := G7
      F8 := F8
      b8 := b8
      h8 := A8
      g8 := G8
      F9 := F9
      b9 := b9
      h9 := A9
      g9 := G9
      F10 := F10
      b10 := b10
      h10 := A10
      g10 := G10
      F11 := F11
      b11 := b11
      h11 := A11
      g11 := G11
      F12 := F12
      b12 := b12
      h12 := A12
      g12 := G12
      F13 := F13
      b13 := b13
      h13 := A13
      g13 := G13
      F14 := F14
      b14 := b14
      h14 := A14
      g14 := G14
      F15 := F15
      b15 := b15
      h15 := A15
      g15 := G15
      F16 := F16
      b16 := b16
      h16 := A16
      g16 := G16
      F17 := F17
      b17 := b17
      h17 := A17
      g17 := G17
      F18 := F18
      b18 := b18
      m18 := PySem.W.mg_of X G A18
      F19 := F19
      b19 := b19
      m19 := PySem.W.mg_of X G A19
      F20 := F20
      b20 := b20
      m20 := PySem.W.mg_of X G A20
      F21 := F21
      b21 := b21
      m21 := PySem.W.mg_of X G A21
      F22 := F22
      b22 := b22
      m22 := PySem.W.mg_of X G A22
      F23 := F23
      b23 := b23
      m23 := PySem.W.mg_of X G A23
      F24 := F24
      b24 := b24
      m24 := PySem.W.mg_of X G A24
      F25 := F25
      b25 := b25
      m25 := PySem.W.mg_of X G A25
      F26 := F26
      b26 := b26
      m26 := PySem.W.mg_of X G A26
      F27 := F27
      b27 := b27
      m27 := PySem.W.mg_of X G A27
      F6 := F6
      b6 := b6
      h6 := A6
      g6 := G6
      mc1 := PySem.W.mg_of X G B1
      mc2 := PySem.W.mg_of X G B2
      cl2 := ⟨ca2a, ca2b, ca2c, ca2d⟩
      ins2 := ⟨⟨ca2a, ca2b, ca2c, ca2d⟩, in2a, inb, inc, in2c⟩
      sf2 := sf2
      eq2 := ⟨e2n1, e2n2, e2n3, e2n4, e2n5, e2n6, e2ne, in2c⟩
      kd2 := fun d hd => match d, hd with | 0, _ => .inr rfl | 1, _ => .inl kd2_1 | 2, z => absurd rfl z | _ + 3, _ => .inr rfl
      na2_rows := xna2_rows
      na2_width := xna2_width
      ex1 := xex1
      kp1 := xkp1
      ra1 := xra1
      rb1 := xrb1
      em1_1 := exm_of xra1 ic1 xrb1 rr1_1
      z_abs := PySem.W.mg_none_of X G xz_abs
      z_bool := PySem.W.mg_none_of X G xz_bool
      z_int := PySem.W.mg_none_of X G xz_int
      z_isinstance := PySem.W.mg_none_of X G xz_isinstance
      z_iter := PySem.W.mg_none_of X G xz_iter
      z_len := PySem.W.mg_none_of X G xz_len
      z_list := PySem.W.mg_none_of X G xz_list
      z_range := PySem.W.mg_none_of X G xz_range
      z_sum := PySem.W.mg_none_of X G xz_sum
      z_tuple := PySem.W.mg_none_of X G xz_tuple
      z_zip := PySem.W.mg_none_of X G xz_zip
      q_Grid_0 := (kit_tr e2n4 ic2 ty2)
      q_Grid_1 := (kit_tr e2n6 ic2 ty2)
      q_Grid_2 := (kit_tr e2n3 ic2 ty2)
      q_Grid_3 := (kit_tr e2n5 ic2 ty2)
      q_Grid_4 := (kit_tr e2n1 ic2 ty2)
      q_Grid_5 := (kit_tr e2n2 ic2 ty2)
      q_Grid_8 := kit_self
      q_bool_0 := (kit_ty (r := false) (by decide +kernel))
      q_bool_1 := (kit_ty (r := true) (by decide +kernel))
      q_bool_2 := (kit_ty (r := false) (by decide +kernel))
      q_bool_3 := (kit_ty (r := false) (by decide +kernel))
      q_bool_4 := (kit_ty (r := false) (by decide +kernel))
      q_bool_5 := (kit_ty (r := false) (by decide +kernel))
      q_bool_8 := (kit_rt (b := false) rt2_bool)
      q_int_0 := (kit_ty (r := false) (by decide +kernel))
      q_int_1 := (kit_ty (r := true) (by decide +kernel))
      q_int_2 := (kit_ty (r := true) (by decide +kernel))
      q_int_3 := (kit_ty (r := false) (by decide +kernel))
      q_int_4 := (kit_ty (r := false) (by decide +kernel))
      q_int_5 := (kit_ty (r := false) (by decide +kernel))
      q_int_8 := (kit_rt (b := false) rt2_int)
      q_list_tuple_0 := kitAny2 (kit_ty (r := false) (by decide +kernel)) (kit_ty (r := false) (by decide +kernel))
      q_list_tuple_1 := kitAny2 (kit_ty (r := false) (by decide +kernel)) (kit_ty (r := false) (by decide +kernel))
      q_list_tuple_2 := kitAny2 (kit_ty (r := false) (by decide +kernel)) (kit_ty (r := false) (by decide +kernel))
      q_list_tuple_3 := kitAny2 (kit_ty (r := false) (by decide +kernel)) (kit_ty (r := false) (by decide +kernel))
      q_list_tuple_4 := kitAny2 (kit_ty (r := false) (by decide +kernel)) (kit_ty (r := true) (by decide +kernel))
      q_list_tuple_5 := kitAny2 (kit_ty (r := true) (by decide +kernel)) (kit_ty (r := false) (by decide +kernel))
      q_list_tuple_8 := kitAny2 (kit_rt (b := false) rt2_list) (kit_rt (b := false) rt2_tuple)
      q_tuple_0 := (kit_ty (r := false) (by decide +kernel))
      q_tuple_1 := (kit_ty (r := false) (by decide +kernel))
      q_tuple_2 := (kit_ty (r := false) (by decide +kernel))
      q_tuple_3 := (kit_ty (r := false) (by decide +kernel))
      q_tuple_4 := (kit_ty (r := true) (by decide +kernel))
      q_tuple_5 := (kit_ty (r := false) (by decide +kernel))
      q_tuple_8 := (kit_rt (b := false) rt2_tuple) }
  exact ⟨PySem.W.fnOf "law" "law" (defArgs s_law) (defBody s_law) (defScope s_law) .none kV27 dc27 pm27 an27 cd27 ct27, fun s v => .of_eq rfl, fun base _ _ => (ok_law T).imp (sp_law T)⟩
end L2.VD.K01
open PySem PySem.W PyProof.Rows
set_option maxRecDepth 100000 in
set_option maxHeartbeats 0 in
theorem PySem.Challenge.cw_gridmetric_k01_matrix_arithmetic_holds : PySem.Challenge.rw_gridmetric_k01_matrix_arithmetic.Holds := by
  w_on; o_law; k_head; (case hw => w_witness2)
  k_fill
  refine L2.walk_of (l := PySem.Challenge.rw_gridmetric_k01_matrix_arithmetic) (n := 63) (k := 16) (x := "_law_script") (CX := fun w => L2.CX PySem.Challenge.rw_gridmetric_k01_matrix_arithmetic.prog w) (sp := fun w => L2.VD.K01.spLaw _) rfl (by decide) rfl ⟨rfl, by decide, by decide⟩ (fun w h Y => PySem.W.kIn_of Y) ?F (fun _ _ a ns hl _ hS => ⟨a, ns, rfl, hS, hl, fun _ => rfl⟩) ?E
  case F =>
    intro w mg fa h KX G hmg
    refine' L2.VD.K01.all_mk KX G hmg ?B1 ?B2 ?A0 ?hL0 ?P0 ?K0 ?A1 ?hL1 ?P1 ?K1 ?A2 ?hL2 ?P2 ?K2 ?A3 ?hL3 ?P3 ?K3 ?A4 ?G4 ?hL4 ?P4 ?K4 ?V4 ?A5 ?G5 ?hL5 ?P5 ?K5 ?A7 ?G7 ?hL7 ?P7 ?K7 ?A8 ?G8 ?hL8 ?P8 ?K8 ?A9 ?G9 ?hL9 ?P9 ?K9 ?A10 ?G10 ?hL10 ?P10 ?K10 ?A11 ?G11 ?hL11 ?P11 ?K11 ?A12 ?G12 ?hL12 ?P12 ?K12 ?A13 ?G13 ?hL13 ?P13 ?K13 ?A14 ?G14 ?hL14 ?P14 ?K14 ?A15 ?G15 ?hL15 ?P15 ?K15 ?A16 ?G16 ?hL16 ?P16 ?K16 ?A17 ?G17 ?hL17 ?P17 ?K17 ?A18 ?hL18 ?P18 ?K18 ?A19 ?hL19 ?P19 ?K19 ?A20 ?hL20 ?P20 ?K20 ?A21 ?hL21 ?P21 ?K21 ?A22 ?hL22 ?P22 ?K22 ?A23 ?hL23 ?P23 ?K23 ?A24 ?hL24 ?P24 ?K24 ?A25 ?hL25 ?P25 ?K25 ?A26 ?hL26 ?P26 ?K26 ?A27 ?hL27 ?P27 ?K27 ?A6 ?G6 ?hL6 ?P6 ?K6 ?ca2a ?ca2b ?ca2c ?ca2d ?in2a ?in2c ?mk2a ?mk2b ?sf2 ?e2n1 ?e2n2 ?e2n3 ?e2n4 ?e2n5 ?e2n6 ?e2ne ?kd2_1 ?inb ?inc ?ic2 ?ty2 ?rt2_bool ?rt2_int ?rt2_list ?rt2_tuple ?xra1 ?ic1 ?xrb1 ?rr1_1 ?xna2_rows ?xna2_width ?xex1 ?xkp1 ?xz_abs ?xz_bool ?xz_int ?xz_isinstance ?xz_iter ?xz_len ?xz_list ?xz_range ?xz_sum ?xz_tuple ?xz_zip
    (case B1 => k_is)
    (case B2 => k_is)
    (case A0 => k_is)
    (case hL0 => k_is)
    (case P0 => k_is)
    (case K0 => k_is)
    (case A1 => k_is)
    (case hL1 => k_is)
    (case P1 => k_is)
    (case K1 => k_is)
    (case A2 => k_is)
    (case hL2 => k_is)
    (case P2 => k_is)
    (case K2 => k_is)
    (case A3 => k_is)
    (case hL3 => k_is)
    (case P3 => k_is)
    (case K3 => k_is)
    (case A4 => k_is)
    (case G4 => k_is)
    (case hL4 => k_is)
    (case P4 => k_is)
    (case K4 => k_is)
    (case V4 => k_is)
    (case A5 => k_is)
    (case G5 => k_is)
    (case hL5 => k_is)
    (case P5 => k_is)
    (case K5 => k_is)
    (case A7 => k_is)
    (case G7 => k_is)
    (case hL7 => k_is)
    (case P7 => k_is)
    (case K7 => k_is)
    (case A8 => k_is)
    (case G8 => k_is)
    (case hL8 => k_is)
    (case P8 => k_is)
    (case K8 => k_is)
    (case A9 => k_is)
    (case G9 => k_is)
    (case hL9 => k_is)
    (case P9 => k_is)
    (case K9 => k_is)
    (case A10 => k_is)
    (case G10 => k_is)
    (case hL10 => k_is)
    (case P10 => k_is)
    (case K10 => k_is)
    (case A11 => k_is)
    (case G11 => k_is)
    (case hL11 => k_is)
    (case P11 => k_is)
    (case K11 => k_is)
    (case A12 => k_is)
    (case G12 => k_is)
    (case hL12 => k_is)
    (case P12 => k_is)
    (case K12 => k_is)
    (case A13 => k_is)
    (case G13 => k_is)
    (case hL13 => k_is)
    (case P13 => k_is)
    (case K13 => k_is)
    (case A14 => k_is)
    (case G14 => k_is)
    (case hL14 => k_is)
    (case P14 => k_is)
    (case K14 => k_is)
    (case A15 => k_is)
    (case G15 => k_is)
    (case hL15 => k_is)
    (case P15 => k_is)
    (case K15 => k_is)
    (case A16 => k_is)
    (case G16 => k_is)
    (case hL16 => k_is)
    (case P16 => k_is)
    (case K16 => k_is)
    (case A17 => k_is)
    (case G17 => k_is)
    (case hL17 => k_is)
    (case P17 => k_is)
    (case K17 => k_is)
    (case A18 => k_is)
    (case hL18 => k_is)
    (case P18 => k_is)
    (case K18 => k_is)
    (case A19 => k_is)
    (case hL19 => k_is)
    (case P19 => k_is)
    (case K19 => k_is)
    (case A20 => k_is)
    (case hL20 => k_is)
    (case P20 => k_is)
    (case K20 => k_is)
    (case A21 => k_is)
    (case hL21 => k_is)
    (case P21 => k_is)
    (case K21 => k_is)
    (case A22 => k_is)
    (case hL22 => k_is)
    (case P22 => k_is)
    (case K22 => k_is)
    (case A23 => k_is)
    (case hL23 => k_is)
    (case P23 => k_is)
    (case K23 => k_is)
    (case A24 => k_is)
    (case hL24 => k_is)
    (case P24 => k_is)
    (case K24 => k_is)
    (case A25 => k_is)
    (case hL25 => k_is)
    (case P25 => k_is)
    (case K25 => k_is)
    (case A26 => k_is)
    (case hL26 => k_is)
    (case P26 => k_is)
    (case K26 => k_is)
    (case A27 => k_is)
    (case hL27 => k_is)
    (case P27 => k_is)
    (case K27 => k_is)
    (case A6 => k_is)
    (case G6 => k_is)
    (case hL6 => k_is)
    (case P6 => k_is)
    (case K6 => k_is)
    (case ca2a => k_is)
    (case ca2b => k_is)
    (case ca2c => k_is)
    (case ca2d => k_is)
    (case in2a => k_is)
    (case in2c => k_is)
    (case mk2a => k_is)
    (case mk2b => k_is)
    (case sf2 => k_is)
    (case e2n1 => k_is)
    (case e2n2 => k_is)
    (case e2n3 => k_is)
    (case e2n4 => k_is)
    (case e2n5 => k_is)
    (case e2n6 => k_is)
    (case e2ne => k_is)
    (case kd2_1 => k_is)
    (case inb => k_is)
    (case inc => k_is)
    (case ic2 => k_is)
    (case ty2 => k_is)
    (case rt2_bool => k_is)
    (case rt2_int => k_is)
    (case rt2_list => k_is)
    (case rt2_tuple => k_is)
    (case xra1 => k_is)
    (case ic1 => k_is)
    (case xrb1 => k_is)
    (case rr1_1 => first | rfl | k_is)
    (case xna2_rows => k_is)
    (case xna2_width => k_is)
    (case xex1 => k_exc)
    (case xkp1 => k_is)
    (case xz_abs => k_is)
    (case xz_bool => k_is)
    (case xz_int => k_is)
    (case xz_isinstance => k_is)
    (case xz_iter => k_is)
    (case xz_len => k_is)
    (case xz_list => k_is)
    (case xz_range => k_is)
    (case xz_sum => k_is)
    (case xz_tuple => k_is)
    (case xz_zip => k_is)
  case E =>
    intro w H s e s' h
    obtain ⟨_, _, _, _, _, _, _, _, _, _, _, _, h⟩ := h
    exact h

