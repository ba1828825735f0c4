import PyProof.Rows.All
import Wide.All
import OpenK.AllK
import Wide.FinOn
import KE.KStateDown
import HandS.Base
import HandS.Call
import HandS.List
import HandS.Comp
import HandS.Dict
import HandS.Iter
import HandS.Text
import HandS.Walk
import HandS.Words
import HandS.Exc
import HandS.ExcInit
import HandS.ExcValue
import HandS.ExcIs
import KE.KExcIs
import HandS.ExcOwn
import HandS.CallSlots
import HandS.Defaults
import HandS.WordsExc
import HandS.Property
import HandS.Wide
import HandS.TupAny
import HandS.Style
import HandS.Deep
import HandS.IsInst
import HandS.Replace
import HandS.StrSplit
import HandS.Codes
import PyProof.StrOps2
import HandS.Nested
import KE.KSuper
import KE.KExcSuper
import KE.KExcInit
import HandS.MakeKwOnly
import HandS.ExcField
import HandS.OwnEq
import HandS.Head0
import HandS.Head1
import HandS.Head2
import HandS.HeadEnd
import HandS.HeadHook1
import HandS.HeadHook2
import PySem.Challenge.RW_betweenlists_k01_errors_made
set_option Elab.async false
set_option linter.all false
set_option maxRecDepth 100000
set_option maxHeartbeats 0
namespace TL
open PySem PySem.Spec L2
open PyProof.Rows hiding St

/-- a value as a tree: what never changes is told whole; what may change is a cell by its number -/
inductive T where
  | non | bl (b : Bool) | int (i : Int) | str (x : Str)
  | tup (xs : List T) | lst (xs : List T)
  | dK (kvs : List (Key × T)) | dT (kvs : List (List Key × T))
  | obj (c : Nat) (fs : List (Nat × T))
  | exn (c : Nat) (fs : List (Nat × T))
  | ty (n : String) | cell (n : Nat)
  deriving Inhabited

/-- the text's signature: its written part, its classes and attributes by numbers -/
structure Sg where
  K : PySem.W.Frag
  cls : Nat → Addr
  nm : Nat → Str

mutual
def Rep (Z : Sg) (Hs : Hp) (ρ : List Addr) : T → V → Prop
  | .non, v => v = .non
  | .bl b, v => v = .bl b
  | .int i, v => v = .int i
  | .str x, v => v = .str x
  | .tup xs, v => ∃ a vs, v = .ref a ∧ SqT Z.K Hs a vs ∧ RepL Z Hs ρ xs vs ∧ xs.length ≤ sizeLine
  | .lst xs, v => ∃ a vs, v = .ref a ∧ Rd Hs a (.lst vs) ∧ RepL Z Hs ρ xs vs ∧ xs.length ≤ sizeLine
  | .dK kvs, v => ∃ a us, v = .ref a ∧ Rd Hs a (.dK us) ∧ RepK Z Hs ρ kvs us
  | .dT kvs, v => ∃ a us, v = .ref a ∧ Rd Hs a (.dT us) ∧ RepKT Z Hs ρ kvs us
  | .obj c fs, v => ∃ a dx us, v = .ref a ∧ Hs a = some (.ins (Z.cls c) dx us) ∧ RepF Z Hs ρ fs us
  | .exn c fs, v => ∃ a, v = .ref a ∧ ((fs = [] ∧ Hs a = some (exo a (Z.cls c) none)) ∨ ∃ dx us, Hs a = some (exo a (Z.cls c) (some dx)) ∧ Hs dx = some (exd dx us) ∧ RepF Z Hs ρ fs us)
  | .ty n, v => v = .ty n
  | .cell n, v => ∃ a, ρ[n]? = some a ∧ v = .ref a
def RepL (Z : Sg) (Hs : Hp) (ρ : List Addr) : List T → List V → Prop
  | [], vs => vs = []
  | t :: ts, vs => ∃ v r, vs = v :: r ∧ Rep Z Hs ρ t v ∧ RepL Z Hs ρ ts r
def RepK (Z : Sg) (Hs : Hp) (ρ : List Addr) : List (Key × T) → List (Key × V) → Prop
  | [], vs => vs = []
  | (k, t) :: ts, vs => ∃ v r, vs = (k, v) :: r ∧ Rep Z Hs ρ t v ∧ RepK Z Hs ρ ts r
def RepKT (Z : Sg) (Hs : Hp) (ρ : List Addr) : List (List Key × T) → List (List Key × V) → Prop
  | [], vs => vs = []
  | (k, t) :: ts, vs => ∃ v r, vs = (k, v) :: r ∧ Rep Z Hs ρ t v ∧ RepKT Z Hs ρ ts r
def RepF (Z : Sg) (Hs : Hp) (ρ : List Addr) : List (Nat × T) → List (Str × V) → Prop
  | [], vs => vs = []
  | (k, t) :: ts, vs => ∃ v r, vs = (Z.nm k, v) :: r ∧ Rep Z Hs ρ t v ∧ RepF Z Hs ρ ts r
end

/-- what is told of objects stays -/
def Mono (H H' : Hp) : Prop := ∀ a o, H a = some o → H' a = some o
theorem Mono.refl {H : Hp} : Mono H H := fun _ _ h => h
theorem Mono.trans {H H1 H2 : Hp} (a : Mono H H1) (b : Mono H1 H2) : Mono H H2 := fun c o h => b c o (a c o h)
theorem Mono.up {H : Hp} {p : Addr} {o : HO} (h : H p = none) : Mono H (upd H p o) := fun a u e => by
  rw [upd_ne (ne_of_none e h)]; exact e
theorem Mono.no {H H' : Hp} (m : Mono H H') {a : Addr} (h : H' a = none) : H a = none := by
  cases e : H a with
  | none => rfl
  | some o => rw [m a o e] at h; cases h
theorem Mono.updIn {H H' : Hp} (m : Mono H H') {p : Addr} {o : HO} (h : H p = none) : Mono H (L2.upd H' p o) := fun a u e => by
  rw [upd_ne (ne_of_none e h)]; exact m a u e
theorem rd_mono {H H' : Hp} (m : Mono H H') {a : Addr} {o : HO} (h : Rd H a o) : Rd H' a o := by
  rcases h with h | ⟨u, h⟩
  · exact .inl (m _ _ h)
  · exact .inr ⟨u, m _ _ h⟩
theorem sqL_mono {K : PySem.W.Frag} {H H' : Hp} (m : Mono H H') {a : Addr} {vs : List V} (h : SqL K H a vs) : SqL K H' a vs := by
  rcases h with h | h
  · exact .inl (rd_mono m h)
  · exact .inr h
theorem sqT_mono {K : PySem.W.Frag} {H H' : Hp} (m : Mono H H') {a : Addr} {vs : List V} (h : SqT K H a vs) : SqT K H' a vs := by
  rcases h with h | h
  · exact .inl (rd_mono m h)
  · exact .inr h
theorem pre_get {ρ ρ' : List Addr} (p : ρ <+: ρ') {n : Nat} {a : Addr} (h : ρ[n]? = some a) : ρ'[n]? = some a := by
  obtain ⟨r, rfl⟩ := p
  rw [List.getElem?_append_left (List.getElem?_eq_some_iff.mp h).1]; exact h

section
variable {Z : Sg} {Hs Hs' : Hp} {ρ ρ' : List Addr} (m : Mono Hs Hs') (p : ρ <+: ρ')
include m p
mutual
theorem Rep.mono : ∀ {t : T} {v : V}, Rep Z Hs ρ t v → Rep Z Hs' ρ' t v
  | .non, _, h => by simpa only [Rep] using h
  | .bl b, _, h => by simpa only [Rep] using h
  | .int i, _, h => by simpa only [Rep] using h
  | .str x, _, h => by simpa only [Rep] using h
  | .tup xs, _, h => by
    simp only [Rep] at h ⊢
    obtain ⟨a, vs, e, h1, h2, h3⟩ := h
    exact ⟨a, vs, e, sqT_mono m h1, RepL.mono h2, h3⟩
  | .lst xs, _, h => by
    simp only [Rep] at h ⊢
    obtain ⟨a, vs, e, h1, h2, h3⟩ := h
    exact ⟨a, vs, e, rd_mono m h1, RepL.mono h2, h3⟩
  | .dK xs, _, h => by
    simp only [Rep] at h ⊢
    obtain ⟨a, vs, e, h1, h2⟩ := h
    exact ⟨a, vs, e, rd_mono m h1, RepK.mono h2⟩
  | .dT xs, _, h => by
    simp only [Rep] at h ⊢
    obtain ⟨a, vs, e, h1, h2⟩ := h
    exact ⟨a, vs, e, rd_mono m h1, RepKT.mono h2⟩
  | .obj c fs, _, h => by
    simp only [Rep] at h ⊢
    obtain ⟨a, dx, us, e, h1, h2⟩ := h
    exact ⟨a, dx, us, e, m _ _ h1, RepF.mono h2⟩
  | .exn c fs, _, h => by
    simp only [Rep] at h ⊢
    obtain ⟨a, e, h⟩ := h
    rcases h with ⟨h1, h2⟩ | ⟨dx, us, h1, h2, h3⟩
    · exact ⟨a, e, .inl ⟨h1, m _ _ h2⟩⟩
    · exact ⟨a, e, .inr ⟨dx, us, m _ _ h1, m _ _ h2, RepF.mono h3⟩⟩
  | .ty n, _, h => by simpa only [Rep] using h
  | .cell n, _, h => by
    simp only [Rep] at h ⊢
    obtain ⟨a, e, h⟩ := h
    exact ⟨a, pre_get p e, h⟩
theorem RepL.mono : ∀ {ts : List T} {vs : List V}, RepL Z Hs ρ ts vs → RepL Z Hs' ρ' ts vs
  | [], _, h => by simpa only [RepL] using h
  | t :: ts, _, h => by
    simp only [RepL] at h ⊢
    obtain ⟨v, r, e, h1, h2⟩ := h
    exact ⟨v, r, e, Rep.mono h1, RepL.mono h2⟩
theorem RepK.mono : ∀ {ts : List (Key × T)} {vs : List (Key × V)}, RepK Z Hs ρ ts vs → RepK Z Hs' ρ' ts vs
  | [], _, h => by simpa only [RepK] using h
  | (k, t) :: ts, _, h => by
    simp only [RepK] at h ⊢
    obtain ⟨v, r, e, h1, h2⟩ := h
    exact ⟨v, r, e, Rep.mono h1, RepK.mono h2⟩
theorem RepKT.mono : ∀ {ts : List (List Key × T)} {vs : List (List Key × V)}, RepKT Z Hs ρ ts vs → RepKT Z Hs' ρ' ts vs
  | [], _, h => by simpa only [RepKT] using h
  | (k, t) :: ts, _, h => by
    simp only [RepKT] at h ⊢
    obtain ⟨v, r, e, h1, h2⟩ := h
    exact ⟨v, r, e, Rep.mono h1, RepKT.mono h2⟩
theorem RepF.mono : ∀ {ts : List (Nat × T)} {vs : List (Str × V)}, RepF Z Hs ρ ts vs → RepF Z Hs' ρ' ts vs
  | [], _, h => by simpa only [RepF] using h
  | (k, t) :: ts, _, h => by
    simp only [RepF] at h ⊢
    obtain ⟨v, r, e, h1, h2⟩ := h
    exact ⟨v, r, e, Rep.mono h1, RepF.mono h2⟩
end
end

section
variable {Z : Sg} {Hs : Hp} {ρ : List Addr}
theorem RepL.length : ∀ {ts : List T} {vs : List V}, RepL Z Hs ρ ts vs → vs.length = ts.length
  | [], _, h => by simp only [RepL] at h; subst h; rfl
  | t :: ts, _, h => by
    simp only [RepL] at h
    obtain ⟨v, r, e, _, h2⟩ := h
    subst e
    simp [RepL.length h2]
theorem RepL.nil : RepL Z Hs ρ [] [] := by simp only [RepL]
theorem RepL.cons {t : T} {ts : List T} {v : V} {vs : List V} (h : Rep Z Hs ρ t v) (h2 : RepL Z Hs ρ ts vs) : RepL Z Hs ρ (t :: ts) (v :: vs) := by
  simp only [RepL]; exact ⟨v, vs, rfl, h, h2⟩
theorem RepL.get : ∀ {ts : List T} {vs : List V} {i : Nat} {t : T}, RepL Z Hs ρ ts vs → ts[i]? = some t → ∃ v, vs[i]? = some v ∧ Rep Z Hs ρ t v
  | [], _, _, _, _, e => by simp at e
  | t :: ts, _, i, u, h, e => by
    simp only [RepL] at h
    obtain ⟨v, r, rfl, h1, h2⟩ := h
    cases i with
    | zero => simp at e; subst e; exact ⟨v, rfl, h1⟩
    | succ i =>
      obtain ⟨w, e1, h3⟩ := RepL.get (i := i) (t := u) h2 (by simpa using e)
      exact ⟨w, by simpa using e1, h3⟩
theorem RepL.get' : ∀ {ts : List T} {vs : List V} {i : Nat} {v : V}, RepL Z Hs ρ ts vs → vs[i]? = some v → ∃ t, ts[i]? = some t ∧ Rep Z Hs ρ t v
  | [], _, _, _, h, e => by simp only [RepL] at h; subst h; simp at e
  | t :: ts, _, i, u, h, e => by
    simp only [RepL] at h
    obtain ⟨v, r, rfl, h1, h2⟩ := h
    cases i with
    | zero => simp at e; subst e; exact ⟨t, rfl, h1⟩
    | succ i =>
      obtain ⟨w, e1, h3⟩ := RepL.get' (i := i) (v := u) h2 (by simpa using e)
      exact ⟨w, by simpa using e1, h3⟩
theorem RepL.append : ∀ {ts us : List T} {vs ws : List V}, RepL Z Hs ρ ts vs → RepL Z Hs ρ us ws → RepL Z Hs ρ (ts ++ us) (vs ++ ws)
  | [], _, _, _, h, h' => by simp only [RepL] at h; subst h; exact h'
  | t :: ts, _, _, _, h, h' => by
    simp only [RepL] at h
    obtain ⟨v, r, rfl, h1, h2⟩ := h
    exact .cons h1 (RepL.append h2 h')
theorem RepL.snoc {ts : List T} {vs : List V} {t : T} {v : V} (h : RepL Z Hs ρ ts vs) (h1 : Rep Z Hs ρ t v) : RepL Z Hs ρ (ts ++ [t]) (vs ++ [v]) := h.append (.cons h1 .nil)
theorem RepL.take : ∀ {ts : List T} {vs : List V} (n : Nat), RepL Z Hs ρ ts vs → RepL Z Hs ρ (ts.take n) (vs.take n)
  | [], _, n, h => by simp only [RepL] at h; subst h; simp [RepL.nil]
  | t :: ts, _, 0, h => by simp [RepL.nil]
  | t :: ts, _, n + 1, h => by
    simp only [RepL] at h
    obtain ⟨v, r, rfl, h1, h2⟩ := h
    exact .cons h1 (RepL.take n h2)
theorem RepL.drop : ∀ {ts : List T} {vs : List V} (n : Nat), RepL Z Hs ρ ts vs → RepL Z Hs ρ (ts.drop n) (vs.drop n)
  | [], _, n, h => by simp only [RepL] at h; subst h; simp [RepL.nil]
  | t :: ts, _, 0, h => h
  | t :: ts, _, n + 1, h => by
    simp only [RepL] at h
    obtain ⟨v, r, rfl, h1, h2⟩ := h
    exact RepL.drop n h2
theorem RepL.reverse : ∀ {ts : List T} {vs : List V}, RepL Z Hs ρ ts vs → RepL Z Hs ρ ts.reverse vs.reverse
  | [], _, h => by simp only [RepL] at h; subst h; exact .nil
  | t :: ts, _, h => by
    simp only [RepL] at h
    obtain ⟨v, r, rfl, h1, h2⟩ := h
    rw [List.reverse_cons, List.reverse_cons]
    exact (RepL.reverse h2).snoc h1
theorem RepL.set : ∀ {ts : List T} {vs : List V} {t : T} {v : V} (n : Nat), RepL Z Hs ρ ts vs → Rep Z Hs ρ t v → RepL Z Hs ρ (ts.set n t) (vs.set n v)
  | [], _, _, _, n, h, _ => by simp only [RepL] at h; subst h; exact .nil
  | u :: ts, _, _, _, 0, h, h' => by
    simp only [RepL] at h
    obtain ⟨w, r, rfl, h1, h2⟩ := h
    exact .cons h' h2
  | u :: ts, _, _, _, n + 1, h, h' => by
    simp only [RepL] at h
    obtain ⟨w, r, rfl, h1, h2⟩ := h
    exact .cons h1 (RepL.set n h2 h')
/-- the class and the attributes of an object -/
theorem RepF.lookup (hi : ∀ i j, Z.nm i = Z.nm j → i = j) : ∀ {fs : List (Nat × T)} {us : List (Str × V)} {k : Nat}, RepF Z Hs ρ fs us →
    (∀ t, fs.lookup k = some t → ∃ v, us.lookup (Z.nm k) = some v ∧ Rep Z Hs ρ t v) ∧ (fs.lookup k = none → us.lookup (Z.nm k) = none)
  | [], _, _, h => by simp only [RepF] at h; subst h; exact ⟨fun _ e => by simp at e, fun _ => rfl⟩
  | (j, t) :: fs, _, k, h => by
    simp only [RepF] at h
    obtain ⟨v, r, rfl, h1, h2⟩ := h
    have ih := RepF.lookup hi (k := k) h2
    by_cases e : k = j
    · subst e
      refine ⟨fun u q => ?_, fun q => ?_⟩
      · rw [List.lookup_cons_self] at q
        cases q
        exact ⟨v, List.lookup_cons_self, h1⟩
      · rw [List.lookup_cons_self] at q
        cases q
    · have e1 : (k == j) = false := by simpa using e
      have e2 : (Z.nm k == Z.nm j) = false := by
        have : Z.nm k ≠ Z.nm j := fun q => e (hi _ _ q)
        simpa using this
      rw [List.lookup_cons, e1, List.lookup_cons, e2]
      exact ih
theorem RepF.length : ∀ {fs : List (Nat × T)} {us : List (Str × V)}, RepF Z Hs ρ fs us → us.length = fs.length
  | [], _, h => by simp only [RepF] at h; subst h; rfl
  | (j, t) :: fs, _, h => by
    simp only [RepF] at h
    obtain ⟨v, r, rfl, h1, h2⟩ := h
    simp [RepF.length h2]
/-- an attribute stored -/
def putT (k : Nat) (t : T) : List (Nat × T) → List (Nat × T)
  | [] => [(k, t)]
  | (j, u) :: r => if j = k then (j, t) :: r else (j, u) :: putT k t r
theorem RepF.put (hi : ∀ i j, Z.nm i = Z.nm j → i = j) {k : Nat} {t : T} {v : V} (h' : Rep Z Hs ρ t v) : ∀ {fs : List (Nat × T)} {us : List (Str × V)}, RepF Z Hs ρ fs us → RepF Z Hs ρ (putT k t fs) (putF (Z.nm k) v us)
  | [], _, h => by
    simp only [RepF] at h
    subst h
    simp only [putT, putF, RepF]
    exact ⟨v, [], rfl, h', rfl⟩
  | (j, u) :: fs, _, h => by
    simp only [RepF] at h
    obtain ⟨w, r, rfl, h1, h2⟩ := h
    by_cases e : j = k
    · subst e
      simp only [putT, putF, if_pos rfl, RepF]
      exact ⟨v, r, rfl, h', h2⟩
    · have e2 : ¬ Z.nm j = Z.nm k := fun q => e (hi _ _ q)
      simp only [putT, putF, if_neg e, if_neg e2, RepF]
      exact ⟨w, _, rfl, h1, RepF.put hi h' h2⟩
end

inductive Slot where
  | un | val (t : T) | own (t : T)
  deriving Inhabited
/-- the slots of the def, the cells -/
structure S where
  g : List Slot
  c : List (Option T)
/-- what holds at an object that may change -/
def CRep (Z : Sg) (Hs : Hp) (ρ : List Addr) (H : Hp) (a : Addr) : T → Prop
  | .lst ts => ∃ vs, H a = some (.lst vs) ∧ RepL Z Hs ρ ts vs ∧ ts.length ≤ sizeLine
  | .dK ts => ∃ vs, H a = some (.dK vs) ∧ RepK Z Hs ρ ts vs
  | .dT ts => ∃ vs, H a = some (.dT vs) ∧ RepKT Z Hs ρ ts vs
  | .obj c fs => ∃ dx us, H a = some (.ins (Z.cls c) dx us) ∧ RepF Z Hs ρ fs us
  | _ => False
theorem CRep.mono {Z : Sg} {Hs Hs' : Hp} {ρ ρ' : List Addr} {H H' : Hp} {a : Addr} (m : Mono Hs Hs') (p : ρ <+: ρ') (k : ∀ o, H a = some o → H' a = some o) : ∀ {t : T}, CRep Z Hs ρ H a t → CRep Z Hs' ρ' H' a t
  | .lst ts, ⟨vs, e, h, z⟩ => ⟨vs, k _ e, h.mono m p, z⟩
  | .dK ts, ⟨vs, e, h⟩ => ⟨vs, k _ e, h.mono m p⟩
  | .dT ts, ⟨vs, e, h⟩ => ⟨vs, k _ e, h.mono m p⟩
  | .obj c fs, ⟨dx, us, e, h⟩ => ⟨dx, us, k _ e, h.mono m p⟩
  | .non, h => h.elim
  | .bl _, h => h.elim
  | .int _, h => h.elim
  | .str _, h => h.elim
  | .tup _, h => h.elim
  | .exn _ _, h => h.elim
  | .ty _, h => h.elim
  | .cell _, h => h.elim
theorem CRep.has {Z : Sg} {Hs : Hp} {ρ : List Addr} {H : Hp} {a : Addr} : ∀ {t : T}, CRep Z Hs ρ H a t → ∃ o, H a = some o
  | .lst ts, ⟨vs, e, h, _⟩ => ⟨_, e⟩
  | .dK ts, ⟨vs, e, h⟩ => ⟨_, e⟩
  | .dT ts, ⟨vs, e, h⟩ => ⟨_, e⟩
  | .obj c fs, ⟨dx, us, e, h⟩ => ⟨_, e⟩
  | .non, h => h.elim
  | .bl _, h => h.elim
  | .int _, h => h.elim
  | .str _, h => h.elim
  | .tup _, h => h.elim
  | .exn _ _, h => h.elim
  | .ty _, h => h.elim
  | .cell _, h => h.elim

/-- the heap's part: what is frozen (Hs), the cells by their addresses (ρ) -/
structure RG (Z : Sg) (Hs : Hp) (ρ : List Addr) (H : Hp) (c : List (Option T)) : Prop where
  sub : Mono Hs H
  len : ρ.length = c.length
  nd : ρ.Nodup
  off : ∀ a ∈ ρ, Hs a = none
  cell : ∀ (n : Nat) (a : Addr) (t : T), ρ[n]? = some a → c[n]? = some (some t) → CRep Z Hs ρ H a t
  has : ∀ a ∈ ρ, ∃ o, H a = some o
/-- what has happened since -/
structure EX (Hs : Hp) (ρ : List Addr) (H Hs' : Hp) (ρ' : List Addr) (H' : Hp) : Prop where
  mono : Mono Hs Hs'
  pre : ρ <+: ρ'
  frame : ∀ a o, H a = some o → a ∉ ρ → H' a = some o
  freshS : ∀ a, Hs a = none → Hs' a ≠ none → H a = none
  freshR : ∀ a ∈ ρ', a ∉ ρ → H a = none
theorem EX.refl {Hs : Hp} {ρ : List Addr} {H : Hp} : EX Hs ρ H Hs ρ H := ⟨.refl, List.prefix_refl _, fun _ _ h _ => h, fun _ h h' => absurd h h', fun _ h h' => absurd h h'⟩
/-- the entry of a def: what stood -/
structure B0 where
  Hs : Hp
  ρ : List Addr
  H : Hp
  self : Option Addr
structure Rel (Z : Sg) (B : B0) (Hs : Hp) (ρ : List Addr) (σ : St) (H : Hp) (s : S) : Prop where
  rg : RG Z Hs ρ H s.c
  ex : EX B.Hs B.ρ B.H Hs ρ H
  glen : σ.length = s.g.length
  val : ∀ (i : Nat) (t : T), s.g[i]? = some (.val t) → ∃ v, σ[i]? = some (some v) ∧ Rep Z Hs ρ t v
  own : ∀ (i : Nat) (t : T), s.g[i]? = some (.own t) → ∃ a, σ[i]? = some (some (.ref a)) ∧ Hs a = none ∧ a ∉ ρ ∧ B.H a = none ∧ CRep Z Hs ρ H a t
  ownd : ∀ (i j : Nat) (t u : T) (a : Addr), s.g[i]? = some (.own t) → s.g[j]? = some (.own u) → σ[i]? = some (some (.ref a)) → σ[j]? = some (some (.ref a)) → i = j
  me : ∀ a, B.self = some a → σ[0]? = some (some (.ref a)) ∧ ∃ c fs, s.g[0]? = some (.own (.obj c fs))

inductive Out (α : Type) where
  | ok (a : α) (s : S)
  | exc (c : Nat) (fs : List (Nat × T)) (s : S)
  | stuck
abbrev M (α : Type) := S → Out α
@[simp] def Out.bind {α β : Type} : Out α → (α → M β) → Out β
  | .ok a s, f => f a s
  | .exc c fs s, _ => .exc c fs s
  | .stuck, _ => .stuck
@[simp] def bnd {α β : Type} (m : M α) (f : α → M β) : M β := fun s => (m s).bind f
@[simp] def ret {α : Type} (a : α) : M α := fun s => .ok a s
@[simp] def stk {α : Type} : M α := fun _ => .stuck
/-- what a value that is computed is: a tree, or a local object by its slot -/
inductive RV where
  | v (t : T) | loc (i : Nat)
def RepR (Z : Sg) (Hs : Hp) (ρ : List Addr) (σ : St) : RV → V → Prop
  | .v t, v => Rep Z Hs ρ t v
  | .loc i, v => σ[i]? = some (some v)

/-- the wish about exceptions -/
abbrev WX := Value → Option Addr → St → Hp → Prop
/-- the own dict of an exception bears its fields -/
def ExF (Z : Sg) (Hs : Hp) (ρ : List Addr) (H : Hp) (d : Option Addr) (fs : List (Nat × T)) : Prop := (fs = [] ∧ d = none) ∨ ∃ dd us, d = some dd ∧ H dd = some (.xd us) ∧ ∀ k t, fs.lookup k = some t → ∃ v, us.lookup (Z.nm k) = some v ∧ Rep Z Hs ρ t v
def FIN {α : Type} (Z : Sg) (B : B0) (W : WX) (Hs : Hp) (ρ : List Addr) (σ : St) (P : α → Hp → List Addr → Hp → S → Prop) : Out α → Prop
  | .ok a s => ∀ H' Hs' ρ', Rel Z B Hs' ρ' σ H' s → Mono Hs Hs' → ρ <+: ρ' → P a Hs' ρ' H' s
  | .exc c fs s => ∀ d H' Hs' ρ', Rel Z B Hs' ρ' σ H' s → Mono Hs Hs' → ρ <+: ρ' → ExF Z Hs' ρ' H' d fs → W (.ref (Z.cls c)) d σ H'
  | .stuck => False
/-- the reading of an expression that computes c: as a tree -/
def tV (Z : Sg) (B : B0) (W : WX) (c : M T) : TE := fun σ H Q => ∃ Hs ρ s, Rel Z B Hs ρ σ H s ∧ FIN Z B W Hs ρ σ (fun t Hs' ρ' H' _ => ∀ v, Rep Z Hs' ρ' t v → Q v H') (c s)
/-- .. where a local object may be meant -/
def tR (Z : Sg) (B : B0) (W : WX) (c : M RV) : TE := fun σ H Q => ∃ Hs ρ s, Rel Z B Hs ρ σ H s ∧ FIN Z B W Hs ρ σ (fun r Hs' ρ' H' _ => ∀ v, RepR Z Hs' ρ' σ r v → Q v H') (c s)
def tBo (Z : Sg) (B : B0) (W : WX) (c : M Bool) : TT := fun σ H Q => ∃ Hs ρ s, Rel Z B Hs ρ σ H s ∧ FIN Z B W Hs ρ σ (fun b _ _ H' _ => Q b H') (c s)
def tAr (Z : Sg) (B : B0) (W : WX) (c : M (List T)) : TA := fun σ H Q => ∃ Hs ρ s, Rel Z B Hs ρ σ H s ∧ FIN Z B W Hs ρ σ (fun ts Hs' ρ' H' _ => ∀ vs, RepL Z Hs' ρ' ts vs → Q vs H') (c s)
def EV (X : Cx) (Z : Sg) (W : WX) (e : Expr) (c : M T) : Prop := ∀ B, PE X e (tV Z B W c)
def ER (X : Cx) (Z : Sg) (W : WX) (e : Expr) (c : M RV) : Prop := ∀ B, PE X e (tR Z B W c)
def EB (X : Cx) (Z : Sg) (W : WX) (e : Expr) (c : M Bool) : Prop := ∀ B, PT X e (tBo Z B W c)
def EA (X : Cx) (Z : Sg) (W : WX) (es : List Expr) (c : M (List T)) : Prop := ∀ B, PA X es (tAr Z B W c)
end TL
namespace TL
open PySem PySem.Spec L2
open PyProof.Rows hiding St
variable {Z : Sg} {B : B0} {Hs Hs' Hs2 : Hp} {ρ ρ' ρ2 : List Addr} {σ : St} {H H' H2 : Hp} {s : S}

/-- what a value shows at the heap as it is: its top by the heap, what is below by the frozen part -/
def VRep (Z : Sg) (Hs : Hp) (ρ : List Addr) (H : Hp) : T → V → Prop
  | .lst xs, v => ∃ a vs, v = .ref a ∧ Rd H a (.lst vs) ∧ RepL Z Hs ρ xs vs ∧ xs.length ≤ sizeLine
  | .dK kvs, v => ∃ a us, v = .ref a ∧ Rd H a (.dK us) ∧ RepK Z Hs ρ kvs us
  | .dT kvs, v => ∃ a us, v = .ref a ∧ Rd H a (.dT us) ∧ RepKT Z Hs ρ kvs us
  | .obj c fs, v => ∃ a dx us, v = .ref a ∧ H a = some (.ins (Z.cls c) dx us) ∧ RepF Z Hs ρ fs us
  | .cell _, _ => False
  | t, v => Rep Z Hs ρ t v
theorem VRep.of_crep {a : Addr} : ∀ {t : T}, CRep Z Hs ρ H a t → VRep Z Hs ρ H t (.ref a)
  | .lst ts, ⟨vs, e, h, z⟩ => ⟨a, vs, rfl, .inl e, h, z⟩
  | .dK ts, ⟨vs, e, h⟩ => ⟨a, vs, rfl, .inl e, h⟩
  | .dT ts, ⟨vs, e, h⟩ => ⟨a, vs, rfl, .inl e, h⟩
  | .obj c fs, ⟨dx, us, e, h⟩ => ⟨a, dx, us, rfl, e, h⟩
  | .non, h => h.elim
  | .bl _, h => h.elim
  | .int _, h => h.elim
  | .str _, h => h.elim
  | .tup _, h => h.elim
  | .exn _ _, h => h.elim
  | .ty _, h => h.elim
  | .cell _, h => h.elim
def isCell : T → Bool
  | .cell _ => true
  | _ => false
theorem VRep.of_rep (m : Mono Hs H) : ∀ {t : T} {v : V}, isCell t = false → Rep Z Hs ρ t v → VRep Z Hs ρ H t v
  | .lst ts, v, _, h => by
    simp only [Rep] at h
    obtain ⟨a, vs, e, h1, h2, h3⟩ := h
    exact ⟨a, vs, e, rd_mono m h1, h2, h3⟩
  | .tup ts, v, _, h => h
  | .dK ts, v, _, h => by
    simp only [Rep] at h
    obtain ⟨a, vs, e, h1, h2⟩ := h
    exact ⟨a, vs, e, rd_mono m h1, h2⟩
  | .dT ts, v, _, h => by
    simp only [Rep] at h
    obtain ⟨a, vs, e, h1, h2⟩ := h
    exact ⟨a, vs, e, rd_mono m h1, h2⟩
  | .obj c fs, v, _, h => by
    simp only [Rep] at h
    obtain ⟨a, dx, us, e, h1, h2⟩ := h
    exact ⟨a, dx, us, e, m _ _ h1, h2⟩
  | .non, _, _, h => h
  | .bl _, _, _, h => h
  | .int _, _, _, h => h
  | .str _, _, _, h => h
  | .exn _ _, _, _, h => h
  | .ty _, _, _, h => h
  | .cell _, _, h, _ => by cases h

/-- what a tree shows: a cell its content -/
def view (t : T) (s : S) : Option T := match t with
  | .cell n => match s.c[n]? with
    | some (some u) => some u
    | _ => none
  | t => some t
/-- what a computed value shows -/
def look (r : RV) (s : S) : Option T := match r with
  | .v t => view t s
  | .loc i => match s.g[i]? with
    | some (.own t) => some t
    | some (.val t) => view t s
    | _ => none
theorem Rel.view_ok (R : Rel Z B Hs ρ σ H s) {t u : T} {v : V} (h : Rep Z Hs ρ t v) (e : view t s = some u) : VRep Z Hs ρ H u v := by
  by_cases hc : isCell t = true
  · cases t with
    | cell n =>
      simp only [Rep] at h
      obtain ⟨a, h1, rfl⟩ := h
      simp only [view] at e
      split at e
      · rename_i u' hu
        cases e
        exact VRep.of_crep (R.rg.cell n a _ h1 hu)
      · cases e
    | _ => cases hc
  · have hc : isCell t = false := by simpa using hc
    have : view t s = some t := by cases t <;> first | rfl | cases hc
    rw [this] at e
    cases e
    exact VRep.of_rep R.rg.sub hc h
theorem Rel.look_ok (R : Rel Z B Hs ρ σ H s) {r : RV} {u : T} {v : V} (h : RepR Z Hs ρ σ r v) (e : look r s = some u) : VRep Z Hs ρ H u v := by
  cases r with
  | v t => exact R.view_ok h e
  | loc i =>
    simp only [look] at e
    have h : σ[i]? = some (some v) := h
    split at e
    · rename_i t ht
      cases e
      obtain ⟨a, h1, _, _, _, h2⟩ := R.own i _ ht
      rw [h] at h1
      cases h1
      exact VRep.of_crep h2
    · rename_i t ht
      obtain ⟨w, h1, h2⟩ := R.val i _ ht
      rw [h] at h1
      cases h1
      exact R.view_ok h2 e
    · cases e

theorem Rel.no_of (R : Rel Z B Hs ρ σ H s) {p : Addr} (h : H p = none) : B.H p = none ∧ Hs p = none ∧ p ∉ ρ := by
  have h3 : p ∉ ρ := fun z => by
    obtain ⟨o, e⟩ := R.rg.has p z
    rw [h] at e; cases e
  refine ⟨?_, R.rg.sub.no h, h3⟩
  cases e : B.H p with
  | none => rfl
  | some o =>
    by_cases hp : p ∈ B.ρ
    · obtain ⟨r, hr⟩ := R.ex.pre
      exact absurd (by rw [← hr]; exact List.mem_append_left _ hp) h3
    · rw [R.ex.frame p o e hp] at h; cases h

/-- a loose object: nobody's but the one who has it in hand -/
structure Loose (Z : Sg) (B : B0) (Hs : Hp) (ρ : List Addr) (σ : St) (H : Hp) (s : S) (p : Addr) (t : T) : Prop where
  hs : Hs p = none
  hr : p ∉ ρ
  hb : B.H p = none
  rep : CRep Z Hs ρ H p t
  no : ∀ (i : Nat) (u : T), s.g[i]? = some (.own u) → σ[i]? ≠ some (some (.ref p))

/-- the heap has grown by objects at new places, nothing told has changed -/
theorem Rel.grow (R : Rel Z B Hs ρ σ H s) (k : Mono H H') : Rel Z B Hs ρ σ H' s where
  rg := ⟨R.rg.sub.trans k, R.rg.len, R.rg.nd, R.rg.off, fun n a t e1 e2 => (R.rg.cell n a t e1 e2).mono .refl (List.prefix_refl _) (k a), fun a ha => let ⟨o, e⟩ := R.rg.has a ha; ⟨o, k a o e⟩⟩
  ex := ⟨R.ex.mono, R.ex.pre, fun a o e hn => k a o (R.ex.frame a o e hn), R.ex.freshS, R.ex.freshR⟩
  glen := R.glen
  val := R.val
  own := fun i t e => let ⟨a, h1, h2, h3, h4, h5⟩ := R.own i t e; ⟨a, h1, h2, h3, h4, h5.mono .refl (List.prefix_refl _) (k a)⟩
  ownd := R.ownd
  me := R.me

theorem crep_obj {a : Addr} : ∀ {t : T}, CRep Z Hs ρ H a t → ∃ o, H a = some o ∧ ∀ Hx : Hp, Mono Hs Hx → Hx a = some o → Rep Z Hx ρ t (.ref a)
  | .lst ts, ⟨vs, e, h, z⟩ => ⟨_, e, fun Hx m hx => by simp only [Rep]; exact ⟨a, vs, rfl, .inl hx, h.mono m (List.prefix_refl _), z⟩⟩
  | .dK ts, ⟨vs, e, h⟩ => ⟨_, e, fun Hx m hx => by simp only [Rep]; exact ⟨a, vs, rfl, .inl hx, h.mono m (List.prefix_refl _)⟩⟩
  | .dT ts, ⟨vs, e, h⟩ => ⟨_, e, fun Hx m hx => by simp only [Rep]; exact ⟨a, vs, rfl, .inl hx, h.mono m (List.prefix_refl _)⟩⟩
  | .obj c fs, ⟨dx, us, e, h⟩ => ⟨_, e, fun Hx m hx => by simp only [Rep]; exact ⟨a, dx, us, rfl, hx, h.mono m (List.prefix_refl _)⟩⟩
  | .non, h => h.elim
  | .bl _, h => h.elim
  | .int _, h => h.elim
  | .str _, h => h.elim
  | .tup _, h => h.elim
  | .exn _ _, h => h.elim
  | .ty _, h => h.elim
  | .cell _, h => h.elim

/-- a loose object is frozen -/
theorem Rel.freezeAt (R : Rel Z B Hs ρ σ H s) {p : Addr} {o : HO} (hs : Hs p = none) (hr : p ∉ ρ) (hb : B.H p = none) (hp : H p = some o)
    (no : ∀ (i : Nat) (u : T), s.g[i]? = some (.own u) → σ[i]? ≠ some (some (.ref p))) : Rel Z B (upd Hs p o) ρ σ H s := by
  have m : Mono Hs (upd Hs p o) := .up hs
  refine ⟨⟨fun a u e => ?_, R.rg.len, R.rg.nd, fun a ha => ?_, fun n a u e1 e2 => (R.rg.cell n a u e1 e2).mono m (List.prefix_refl _) (fun _ h => h), R.rg.has⟩, ⟨R.ex.mono.trans m, R.ex.pre, R.ex.frame, fun a e1 e2 => ?_, R.ex.freshR⟩, R.glen, fun i u e => ?_, fun i u e => ?_, R.ownd, R.me⟩
  · by_cases q : a = p
    · subst q; rw [upd_same] at e; cases e; exact hp
    · rw [upd_ne q] at e; exact R.rg.sub a u e
  · have q : a ≠ p := fun q => by subst q; exact hr ha
    rw [upd_ne q]; exact R.rg.off a ha
  · by_cases q : a = p
    · subst q; exact hb
    · rw [upd_ne q] at e2; exact R.ex.freshS a e1 e2
  · obtain ⟨v, h1, h2⟩ := R.val i u e
    exact ⟨v, h1, h2.mono m (List.prefix_refl _)⟩
  · obtain ⟨a, h1, h2, h3, h4, h5⟩ := R.own i u e
    refine ⟨a, h1, ?_, h3, h4, h5.mono m (List.prefix_refl _) (fun _ h => h)⟩
    have q : a ≠ p := fun q => by subst q; exact no i u e h1
    rw [upd_ne q]; exact h2
theorem Rel.freeze (R : Rel Z B Hs ρ σ H s) {p : Addr} {t : T} (l : Loose Z B Hs ρ σ H s p t) : ∃ Hx, Mono Hs Hx ∧ Rel Z B Hx ρ σ H s ∧ Rep Z Hx ρ t (.ref p) := by
  obtain ⟨o, e, q⟩ := crep_obj l.rep
  exact ⟨_, .up l.hs, R.freezeAt l.hs l.hr l.hb e l.no, q _ (.up l.hs) upd_same⟩

/-- a new object at a free place: frozen at once -/
theorem Rel.alloc (R : Rel Z B Hs ρ σ H s) {p : Addr} (o : HO) (hp : H p = none) : Rel Z B (upd Hs p o) ρ σ (upd H p o) s := by
  obtain ⟨h1, h2, h3⟩ := R.no_of hp
  refine (R.grow (H' := upd H p o) (.up hp)).freezeAt h2 h3 h1 upd_same fun i u e q => ?_
  obtain ⟨a, g1, _, _, _, g5⟩ := R.own i u e
  rw [g1] at q
  cases q
  obtain ⟨x, g6⟩ := g5.has
  rw [hp] at g6; cases g6
/-- .. or in hand -/
theorem Rel.newLoose (R : Rel Z B Hs ρ σ H s) {p : Addr} {o : HO} {t : T} (hp : H p = none) (hc : ∀ Hx : Hp, Hx p = some o → CRep Z Hs ρ Hx p t) : Rel Z B Hs ρ σ (upd H p o) s ∧ Loose Z B Hs ρ σ (upd H p o) s p t := by
  obtain ⟨h1, h2, h3⟩ := R.no_of hp
  refine ⟨R.grow (.up hp), h2, h3, h1, hc _ upd_same, fun i u e q => ?_⟩
  obtain ⟨a, g1, _, _, _, g5⟩ := R.own i u e
  rw [g1] at q
  cases q
  obtain ⟨x, g6⟩ := g5.has
  rw [hp] at g6; cases g6

abbrev S.setG (s : S) (i : Nat) (x : Slot) : S := ⟨s.g.set i x, s.c⟩
def isObj : T → Bool
  | .obj _ _ => true
  | _ => false
/-- slot i may be stored to: it is not the object that is being made -/
def ok0 : Nat → S → Bool
  | 0, s => (match s.g[(0 : Nat)]? with
    | some (.own t) => !isObj t
    | _ => true)
  | _ + 1, _ => true
@[simp] theorem ok0_succ (n : Nat) (s : S) : ok0 (n + 1) s = true := rfl
theorem Rel.me0 (R : Rel Z B Hs ρ σ H s) {i : Nat} (h : ok0 i s = true) {a : Addr} (e : B.self = some a) : i ≠ 0 := fun q => by
  subst q
  obtain ⟨_, c, fs, h1⟩ := R.me a e
  simp [ok0, h1, isObj] at h
theorem Rel.meSet (R : Rel Z B Hs ρ σ H s) {i : Nat} (h : ok0 i s = true) (x : Option V) (y : Slot) : ∀ a, B.self = some a → (σ.set i x)[0]? = some (some (.ref a)) ∧ ∃ c fs, (s.g.set i y)[0]? = some (.own (.obj c fs)) := fun a e => by
  have hi := R.me0 h e
  rw [List.getElem?_set_ne hi, List.getElem?_set_ne hi]
  exact R.me a e
theorem Rel.setVal (R : Rel Z B Hs ρ σ H s) {i : Nat} {t : T} {v : V} (h0 : ok0 i s = true) (h : Rep Z Hs ρ t v) : Rel Z B Hs ρ (σ.set i (some v)) H (s.setG i (.val t)) := by
  refine ⟨R.rg, R.ex, by simpa using R.glen, fun j u e => ?_, fun j u e => ?_, fun j k u w a e1 e2 e3 e4 => ?_, R.meSet h0 _ _⟩
  · by_cases q : i = j
    · subst q
      have hi : i < s.g.length := by
        have := (List.getElem?_eq_some_iff.mp e).1
        simpa using this
      rw [List.getElem?_set_self hi] at e
      cases e
      exact ⟨v, List.getElem?_set_self (by rw [R.glen]; exact hi), h⟩
    · rw [List.getElem?_set_ne q] at e
      rw [List.getElem?_set_ne q]
      exact R.val j u e
  · by_cases q : i = j
    · subst q
      have hi : i < s.g.length := by
        have := (List.getElem?_eq_some_iff.mp e).1
        simpa using this
      rw [List.getElem?_set_self hi] at e
      cases e
    · rw [List.getElem?_set_ne q] at e
      rw [List.getElem?_set_ne q]
      exact R.own j u e
  · have nj : i ≠ j := fun q => by
      subst q
      have hi : i < s.g.length := by
        have := (List.getElem?_eq_some_iff.mp e1).1
        simpa using this
      rw [List.getElem?_set_self hi] at e1; cases e1
    have nk : i ≠ k := fun q => by
      subst q
      have hi : i < s.g.length := by
        have := (List.getElem?_eq_some_iff.mp e2).1
        simpa using this
      rw [List.getElem?_set_self hi] at e2; cases e2
    rw [List.getElem?_set_ne nj] at e1 e3
    rw [List.getElem?_set_ne nk] at e2 e4
    exact R.ownd j k u w a e1 e2 e3 e4
theorem Rel.setOwn (R : Rel Z B Hs ρ σ H s) {i : Nat} {t : T} {p : Addr} (h0 : ok0 i s = true) (l : Loose Z B Hs ρ σ H s p t) : Rel Z B Hs ρ (σ.set i (some (.ref p))) H (s.setG i (.own t)) := by
  have hin : ∀ {x : Slot}, (s.g.set i x)[i]? = some x ∨ s.g.length ≤ i := fun {x} => by
    by_cases hi : i < s.g.length
    · exact .inl (List.getElem?_set_self hi)
    · exact .inr (Nat.le_of_not_lt hi)
  refine ⟨R.rg, R.ex, by simpa using R.glen, fun j u e => ?_, fun j u e => ?_, fun j k u w a e1 e2 e3 e4 => ?_, R.meSet h0 _ _⟩
  · by_cases q : i = j
    · subst q
      have hi : i < s.g.length := by
        have := (List.getElem?_eq_some_iff.mp e).1
        simpa using this
      rw [List.getElem?_set_self hi] at e
      cases e
    · rw [List.getElem?_set_ne q] at e
      rw [List.getElem?_set_ne q]
      exact R.val j u e
  · by_cases q : i = j
    · subst q
      have hi : i < s.g.length := by
        have := (List.getElem?_eq_some_iff.mp e).1
        simpa using this
      rw [List.getElem?_set_self hi] at e
      cases e
      exact ⟨p, List.getElem?_set_self (by rw [R.glen]; exact hi), l.hs, l.hr, l.hb, l.rep⟩
    · rw [List.getElem?_set_ne q] at e
      rw [List.getElem?_set_ne q]
      exact R.own j u e
  · have lt : ∀ {j : Nat} {u : T}, (s.g.set i (.own t))[j]? = some (.own u) → j < s.g.length := fun {j u} e => by
      have := (List.getElem?_eq_some_iff.mp e).1
      simpa using this
    by_cases q : i = j
    · subst q
      by_cases q2 : i = k
      · exact q2
      · rw [List.getElem?_set_ne q2] at e2 e4
        rw [List.getElem?_set_self (by rw [R.glen]; exact lt e1)] at e3
        cases e3
        exact absurd e4 (l.no k w e2)
    · by_cases q2 : i = k
      · subst q2
        rw [List.getElem?_set_ne q] at e1 e3
        rw [List.getElem?_set_self (by rw [R.glen]; exact lt e2)] at e4
        cases e4
        exact absurd e3 (l.no j u e1)
      · rw [List.getElem?_set_ne q] at e1 e3
        rw [List.getElem?_set_ne q2] at e2 e4
        exact R.ownd j k u w a e1 e2 e3 e4
/-- slots forgotten -/
theorem Rel.forget (R : Rel Z B Hs ρ σ H s) {σ' : St} {g' : List Slot} (hl : σ'.length = g'.length) (hm : ∀ a, B.self = some a → σ'[0]? = σ[0]? ∧ g'[0]? = s.g[0]?) (h : ∀ (i : Nat) (x : Slot), g'[i]? = some x → x = .un ∨ (s.g[i]? = some x ∧ σ'[i]? = σ[i]?)) : Rel Z B Hs ρ σ' H ⟨g', s.c⟩ := by
  refine ⟨R.rg, R.ex, hl, fun j u e => ?_, fun j u e => ?_, fun j k u w a e1 e2 e3 e4 => ?_, fun a e => by rw [(hm a e).1, (hm a e).2]; exact R.me a e⟩
  · rcases h j _ e with q | ⟨q1, q2⟩
    · cases q
    · rw [q2]; exact R.val j u q1
  · rcases h j _ e with q | ⟨q1, q2⟩
    · cases q
    · rw [q2]; exact R.own j u q1
  · rcases h j _ e1 with q | ⟨q1, q2⟩
    · cases q
    · rcases h k _ e2 with q | ⟨q3, q4⟩
      · cases q
      · exact R.ownd j k u w a q1 q3 (q2 ▸ e3) (q4 ▸ e4)
/-- the own object of a slot, taken out of it: loose -/
theorem Rel.takeOwn (R : Rel Z B Hs ρ σ H s) {i : Nat} {t : T} (h0 : isObj t = false) (e : s.g[i]? = some (.own t)) : ∃ a, σ[i]? = some (some (.ref a)) ∧ Rel Z B Hs ρ σ H (s.setG i .un) ∧ Loose Z B Hs ρ σ H (s.setG i .un) a t := by
  obtain ⟨a, h1, h2, h3, h4, h5⟩ := R.own i t e
  have hi : i < s.g.length := (List.getElem?_eq_some_iff.mp e).1
  have ni : ∀ b, B.self = some b → i ≠ 0 := fun b q z => by
    subst z
    obtain ⟨_, c, fs, h6⟩ := R.me b q
    rw [e] at h6
    cases h6
    cases h0
  refine ⟨a, h1, R.forget (by simpa using R.glen) (fun b q => ⟨rfl, List.getElem?_set_ne (ni b q)⟩) fun j x q => ?_, h2, h3, h4, h5, fun j u q q2 => ?_⟩
  · by_cases hj : i = j
    · subst hj
      rw [List.getElem?_set_self hi] at q
      cases q
      exact .inl rfl
    · rw [List.getElem?_set_ne hj] at q
      exact .inr ⟨q, rfl⟩
  · by_cases hj : i = j
    · subst hj
      rw [List.getElem?_set_self hi] at q
      cases q
    · rw [List.getElem?_set_ne hj] at q
      exact hj (R.ownd i j t u a e q h1 q2)
/-- a value that goes out of the def's own hands: a local object is frozen -/
def esc : RV → M T
  | .v t => ret t
  | .loc i => fun s => match s.g[i]? with
    | some (.own t) => if isObj t = true then .stuck else .ok t (s.setG i (.val t))
    | some (.val t) => .ok t s
    | _ => .stuck
theorem set_set_self {α : Type} (l : List α) (i : Nat) (x y : α) : (l.set i x).set i y = l.set i y := by simp
theorem set_get_self {α : Type} {l : List α} {i : Nat} {x : α} (h : l[i]? = some x) : l.set i x = l := by
  obtain ⟨hi, e⟩ := List.getElem?_eq_some_iff.mp h
  subst e
  exact List.set_getElem_self hi
theorem Rel.escapes (R : Rel Z B Hs ρ σ H s) {r : RV} {v : V} {t : T} {s' : S} (h : RepR Z Hs ρ σ r v) (e : esc r s = .ok t s') : ∃ Hx, Mono Hs Hx ∧ Rel Z B Hx ρ σ H s' ∧ Rep Z Hx ρ t v := by
  cases r with
  | v u =>
    simp only [esc, ret] at e
    cases e
    exact ⟨Hs, .refl, R, h⟩
  | loc i =>
    have h : σ[i]? = some (some v) := h
    simp only [esc] at e
    split at e
    · rename_i u hu
      by_cases ho : isObj u = true
      · rw [if_pos ho] at e; cases e
      have ho : isObj u = false := by simpa using ho
      rw [ho, if_neg Bool.false_ne_true] at e
      cases e
      obtain ⟨a, h1, R1, l⟩ := R.takeOwn ho hu
      rw [h] at h1
      cases h1
      obtain ⟨Hx, m, R2, h2⟩ := R1.freeze l
      have h00 : ok0 i (s.setG i .un) = true := by
        cases i with
        | zero =>
          have hi : 0 < s.g.length := (List.getElem?_eq_some_iff.mp hu).1
          simp [ok0, hi]
        | succ i => rfl
      have R3 := R2.setVal (i := i) h00 h2
      rw [set_get_self h] at R3
      refine ⟨Hx, m, ?_, h2⟩
      simpa [S.setG] using R3
    · rename_i u hu
      cases e
      obtain ⟨w, h1, h2⟩ := R.val i _ hu
      rw [h] at h1
      cases h1
      exact ⟨Hs, .refl, R, h2⟩
    · cases e

theorem Rel.newCell (R : Rel Z B Hs ρ σ H s) {p : Addr} {t : T} (l : Loose Z B Hs ρ σ H s p t) : Rel Z B Hs (ρ ++ [p]) σ H ⟨s.g, s.c ++ [some t]⟩ ∧ Rep Z Hs (ρ ++ [p]) (.cell s.c.length) (.ref p) := by
  have pr : ρ <+: ρ ++ [p] := List.prefix_append _ _
  refine ⟨⟨⟨R.rg.sub, by simp [R.rg.len], ?_, fun a ha => ?_, fun n a u e1 e2 => ?_, fun a ha => ?_⟩, ⟨R.ex.mono, R.ex.pre.trans pr, R.ex.frame, R.ex.freshS, fun a ha hn => ?_⟩, R.glen, fun i u e => ?_, fun i u e => ?_, R.ownd, R.me⟩, ?_⟩
  · exact List.nodup_append.mpr ⟨R.rg.nd, by simp, fun a ha b hb q => by simp at hb; subst hb; subst q; exact l.hr ha⟩
  · rcases List.mem_append.mp ha with h | h
    · exact R.rg.off a h
    · simp at h; subst h; exact l.hs
  · by_cases hn : n < ρ.length
    · rw [List.getElem?_append_left hn] at e1
      rw [List.getElem?_append_left (by rw [← R.rg.len]; exact hn)] at e2
      exact (R.rg.cell n a u e1 e2).mono .refl pr (fun _ h => h)
    · have hn2 : n = ρ.length := by
        have := (List.getElem?_eq_some_iff.mp e1).1
        simp at this
        omega
      subst hn2
      rw [List.getElem?_append_right (Nat.le_refl _)] at e1
      rw [List.getElem?_append_right (by rw [R.rg.len]; exact Nat.le_refl _)] at e2
      simp at e1
      rw [R.rg.len] at e2
      simp at e2
      subst e1 e2
      exact l.rep.mono .refl pr (fun _ h => h)
  · rcases List.mem_append.mp ha with h | h
    · exact R.rg.has a h
    · simp at h; subst h; exact l.rep.has
  · rcases List.mem_append.mp ha with h | h
    · exact R.ex.freshR a h hn
    · simp at h; subst h; exact l.hb
  · obtain ⟨v, h1, h2⟩ := R.val i u e
    exact ⟨v, h1, h2.mono .refl pr⟩
  · obtain ⟨a, h1, h2, h3, h4, h5⟩ := R.own i u e
    refine ⟨a, h1, h2, fun ha => ?_, h4, h5.mono .refl pr (fun _ h => h)⟩
    rcases List.mem_append.mp ha with h | h
    · exact h3 h
    · simp at h; subst h; exact l.no i u e h1
  · simp only [Rep]
    refine ⟨p, ?_, rfl⟩
    rw [← R.rg.len]
    simp

/-- the state behind a write -/
def wr (r : RV) (u : T) (s : S) : Option S := match r with
  | .loc i => match s.g[i]? with
    | some (.own t) => if isObj t = isObj u then some (s.setG i (.own u)) else none
    | some (.val (.cell n)) => match s.c[n]? with
      | some (some _) => some ⟨s.g, s.c.set n (some u)⟩
      | _ => none
    | _ => none
  | .v (.cell n) => match s.c[n]? with
    | some (some _) => some ⟨s.g, s.c.set n (some u)⟩
    | _ => none
  | _ => none
/-- a write to a cell -/
theorem Rel.writeCell (R : Rel Z B Hs ρ σ H s) {n : Nat} {a : Addr} {t u : T} {o : HO} (e : ρ[n]? = some a) (hc : s.c[n]? = some (some t)) (hu : ∀ Hx : Hp, Hx a = some o → CRep Z Hs ρ Hx a u) : Rel Z B Hs ρ σ (upd H a o) ⟨s.g, s.c.set n (some u)⟩ := by
  have ha : a ∈ ρ := List.mem_of_getElem? e
  have hn : n < s.c.length := (List.getElem?_eq_some_iff.mp hc).1
  have ne : ∀ (j : Nat) (b : Addr), ρ[j]? = some b → j ≠ n → b ≠ a := fun j b hb hj q => by
    subst q
    obtain ⟨h1, e1⟩ := List.getElem?_eq_some_iff.mp hb
    obtain ⟨h2, e2⟩ := List.getElem?_eq_some_iff.mp e
    exact hj ((List.getElem_inj R.rg.nd).mp (e1.trans e2.symm))
  refine ⟨⟨fun b x q => ?_, by simpa using R.rg.len, R.rg.nd, R.rg.off, fun j b w e1 e2 => ?_, fun b hb => ?_⟩, ⟨R.ex.mono, R.ex.pre, fun b x q hb => ?_, R.ex.freshS, R.ex.freshR⟩, R.glen, R.val, fun i w q => ?_, R.ownd, R.me⟩
  · have : b ≠ a := fun z => by subst z; rw [R.rg.off b ha] at q; cases q
    rw [upd_ne this]; exact R.rg.sub b x q
  · by_cases q : j = n
    · subst q
      rw [List.getElem?_set_self hn] at e2
      rw [e] at e1
      cases e1
      simp at e2
      subst e2
      exact hu _ upd_same
    · have hb := ne j b e1 q
      have e2' : s.c[j]? = some (some w) := by
        have := e2
        rw [List.getElem?_set_ne (Ne.symm q)] at this
        exact this
      exact (R.rg.cell j b w e1 e2').mono .refl (List.prefix_refl _) (fun x h => by rw [upd_ne hb]; exact h)
  · by_cases q : b = a
    · subst q; exact ⟨o, upd_same⟩
    · rw [upd_ne q]; exact R.rg.has b hb
  · have hba : b ≠ a := fun z => by
      subst z
      have := R.ex.freshR b ha hb
      rw [q] at this; cases this
    rw [upd_ne hba]; exact R.ex.frame b x q hb
  · obtain ⟨b, h1, h2, h3, h4, h5⟩ := R.own i w q
    have hba : b ≠ a := fun z => by subst z; exact h3 ha
    exact ⟨b, h1, h2, h3, h4, h5.mono .refl (List.prefix_refl _) (fun x h => by rw [upd_ne hba]; exact h)⟩
theorem Rel.writeOwn (R : Rel Z B Hs ρ σ H s) {i : Nat} {a : Addr} {t u : T} {o : HO} (e : σ[i]? = some (some (.ref a))) (hg : s.g[i]? = some (.own t)) (ho : isObj t = isObj u) (hu : ∀ Hx : Hp, Hx a = some o → CRep Z Hs ρ Hx a u) : Rel Z B Hs ρ σ (upd H a o) (s.setG i (.own u)) := by
  obtain ⟨a', g1, g2, g3, g4, g5⟩ := R.own i t hg
  rw [e] at g1
  cases g1
  have hi : i < s.g.length := (List.getElem?_eq_some_iff.mp hg).1
  refine ⟨⟨fun b x q => ?_, R.rg.len, R.rg.nd, R.rg.off, fun j b w e1 e2 => ?_, fun b hb => ?_⟩, ⟨R.ex.mono, R.ex.pre, fun b x q hb => ?_, R.ex.freshS, R.ex.freshR⟩, by simpa using R.glen, fun j w q => ?_, fun j w q => ?_, fun j k w x b e1 e2 e3 e4 => ?_, fun b q => ?_⟩
  · have : b ≠ a := fun z => by subst z; rw [g2] at q; cases q
    rw [upd_ne this]; exact R.rg.sub b x q
  · have hb : b ≠ a := fun z => by subst z; exact g3 (List.mem_of_getElem? e1)
    exact (R.rg.cell j b w e1 e2).mono .refl (List.prefix_refl _) (fun x h => by rw [upd_ne hb]; exact h)
  · have q : b ≠ a := fun z => by subst z; exact g3 hb
    rw [upd_ne q]; exact R.rg.has b hb
  · have hba : b ≠ a := fun z => by subst z; rw [g4] at q; cases q
    rw [upd_ne hba]; exact R.ex.frame b x q hb
  · by_cases hj : i = j
    · subst hj
      rw [List.getElem?_set_self hi] at q
      cases q
    · rw [List.getElem?_set_ne hj] at q
      exact R.val j w q
  · by_cases hj : i = j
    · subst hj
      rw [List.getElem?_set_self hi] at q
      cases q
      exact ⟨a, e, g2, g3, g4, hu _ upd_same⟩
    · rw [List.getElem?_set_ne hj] at q
      obtain ⟨b, h1, h2, h3, h4, h5⟩ := R.own j w q
      have hba : b ≠ a := fun z => by subst z; exact hj (R.ownd i j t w b hg q e h1)
      exact ⟨b, h1, h2, h3, h4, h5.mono .refl (List.prefix_refl _) (fun x h => by rw [upd_ne hba]; exact h)⟩
  · have un : ∀ {j : Nat} {w : T}, (s.g.set i (.own u))[j]? = some (.own w) → ∃ w', s.g[j]? = some (.own w') := fun {j w} q => by
      by_cases hj : i = j
      · subst hj; exact ⟨t, hg⟩
      · rw [List.getElem?_set_ne hj] at q; exact ⟨w, q⟩
    obtain ⟨w', q1⟩ := un e1
    obtain ⟨x', q2⟩ := un e2
    exact R.ownd j k w' x' b q1 q2 e3 e4
  · obtain ⟨h1, c, fs, h2⟩ := R.me b q
    refine ⟨h1, ?_⟩
    by_cases hj : i = 0
    · subst hj
      rw [hg] at h2
      cases h2
      cases u with
      | obj c' fs' => exact ⟨c', fs', List.getElem?_set_self hi⟩
      | _ => cases ho
    · exact ⟨c, fs, by rw [List.getElem?_set_ne hj]; exact h2⟩
/-- the two together: where the object stands, and the state behind -/
theorem Rel.write (R : Rel Z B Hs ρ σ H s) {r : RV} {v : V} {t u : T} {s' : S} (h : RepR Z Hs ρ σ r v) (hl : look r s = some t) (hw : wr r u s = some s') :
    ∃ a, v = .ref a ∧ CRep Z Hs ρ H a t ∧ ∀ o, (∀ Hx : Hp, Hx a = some o → CRep Z Hs ρ Hx a u) → Rel Z B Hs ρ σ (upd H a o) s' := by
  have cellcase : ∀ {n : Nat} {s' : S}, Rep Z Hs ρ (.cell n) v → view (.cell n) s = some t → (match s.c[n]? with | some (some _) => some (⟨s.g, s.c.set n (some u)⟩ : S) | _ => none) = some s' →
      ∃ a, v = .ref a ∧ CRep Z Hs ρ H a t ∧ ∀ o, (∀ Hx : Hp, Hx a = some o → CRep Z Hs ρ Hx a u) → Rel Z B Hs ρ σ (upd H a o) s' := fun {n s'} h hl hw => by
    simp only [Rep] at h
    obtain ⟨a, e, rfl⟩ := h
    simp only [view] at hl
    split at hl
    · rename_i t' ht
      cases hl
      rw [ht] at hw
      cases hw
      exact ⟨a, rfl, R.rg.cell n a _ e ht, fun o hu => R.writeCell e ht hu⟩
    · cases hl
  cases r with
  | v x =>
    cases x with
    | cell n => exact cellcase h hl (by simpa only [wr] using hw)
    | _ => simp only [wr] at hw; cases hw
  | loc i =>
    have h : σ[i]? = some (some v) := h
    simp only [wr] at hw
    simp only [look] at hl
    split at hw
    · rename_i x hx
      rw [hx] at hl
      cases hl
      by_cases ho : isObj t = isObj u
      · rw [if_pos ho] at hw
        cases hw
        obtain ⟨a, g1, _, _, _, g5⟩ := R.own i _ hx
        rw [h] at g1
        cases g1
        exact ⟨a, rfl, g5, fun o hu => R.writeOwn h hx ho hu⟩
      · rw [if_neg ho] at hw
        cases hw
    · rename_i n hx
      rw [hx] at hl
      obtain ⟨w, g1, g2⟩ := R.val i _ hx
      rw [h] at g1
      cases g1
      exact cellcase g2 hl hw
    · cases hw

theorem Rel.call {c' : List (Option T)} (R : Rel Z B Hs ρ σ H s) (g : RG Z Hs' ρ' H' c') (x : EX Hs ρ H Hs' ρ' H') : Rel Z B Hs' ρ' σ H' ⟨s.g, c'⟩ := by
  have sub : ∀ a, a ∈ B.ρ → a ∈ ρ := fun a ha => by
    obtain ⟨r, hr⟩ := R.ex.pre
    rw [← hr]; exact List.mem_append_left _ ha
  have back : ∀ a, H a = none → B.H a = none := fun a h => (R.no_of h).1
  refine ⟨g, ⟨R.ex.mono.trans x.mono, R.ex.pre.trans x.pre, fun a o e hn => ?_, fun a e1 e2 => ?_, fun a ha hn => ?_⟩, R.glen, fun i t e => ?_, fun i t e => ?_, R.ownd, R.me⟩
  · by_cases q : a ∈ ρ
    · have := R.ex.freshR a q hn
      rw [e] at this; cases this
    · exact x.frame a o (R.ex.frame a o e hn) q
  · cases e : Hs a with
    | none => exact back a (x.freshS a e e2)
    | some o => exact R.ex.freshS a e1 (by rw [e]; exact fun q => nomatch q)
  · by_cases q : a ∈ ρ
    · exact R.ex.freshR a q hn
    · exact back a (x.freshR a ha q)
  · obtain ⟨v, h1, h2⟩ := R.val i t e
    exact ⟨v, h1, h2.mono x.mono x.pre⟩
  · obtain ⟨a, h1, h2, h3, h4, h5⟩ := R.own i t e
    obtain ⟨o, ho⟩ := h5.has
    refine ⟨a, h1, ?_, fun q => ?_, h4, h5.mono x.mono x.pre fun u hu => x.frame a u hu h3⟩
    · cases q : Hs' a with
      | none => rfl
      | some u =>
        have := x.freshS a h2 (by rw [q]; exact fun z => nomatch z)
        rw [ho] at this; cases this
    · have := x.freshR a q h3
      rw [ho] at this; cases this
end TL
namespace TL
open PySem PySem.Spec L2
open PyProof.Rows hiding St
variable {Z : Sg} {B : B0} {W : WX} {Hs Hs' Hs2 : Hp} {ρ ρ' ρ2 : List Addr} {σ : St} {H H' H2 : Hp} {s : S}

theorem FIN.mono {α : Type} {P : α → Hp → List Addr → Hp → S → Prop} (m : Mono Hs Hs') (p : ρ <+: ρ') : ∀ {o : Out α}, FIN Z B W Hs ρ σ P o → FIN Z B W Hs' ρ' σ P o
  | .ok _ _, h => fun H2 Hs2 ρ2 R m2 p2 => h H2 Hs2 ρ2 R (m.trans m2) (p.trans p2)
  | .exc _ _ _, h => fun d H2 Hs2 ρ2 R m2 p2 => h d H2 Hs2 ρ2 R (m.trans m2) (p.trans p2)
  | .stuck, h => h
theorem FIN.imp {α : Type} {P P' : α → Hp → List Addr → Hp → S → Prop} : ∀ {o : Out α}, FIN Z B W Hs ρ σ P o →
    (∀ a Hs' ρ' H' s', Rel Z B Hs' ρ' σ H' s' → Mono Hs Hs' → ρ <+: ρ' → P a Hs' ρ' H' s' → P' a Hs' ρ' H' s') → FIN Z B W Hs ρ σ P' o
  | .ok _ _, h, k => fun H2 Hs2 ρ2 R m2 p2 => k _ _ _ _ _ R m2 p2 (h H2 Hs2 ρ2 R m2 p2)
  | .exc _ _ _, h, _ => h
  | .stuck, h, _ => h
theorem FIN.bnd {α β : Type} {P : β → Hp → List Addr → Hp → S → Prop} {c : M α} {f : α → M β} (h : FIN Z B W Hs ρ σ P ((bnd c f) s)) :
    FIN Z B W Hs ρ σ (fun a Hs1 ρ1 H1 s1 => FIN Z B W Hs1 ρ1 σ P (f a s1)) (c s) := by
  have e : (TL.bnd c f) s = (c s).bind f := rfl
  rw [e] at h
  cases q : c s with
  | ok a s1 =>
    rw [q] at h
    exact fun H1 Hs1 ρ1 R m p => FIN.mono m p h
  | exc k fs s1 =>
    rw [q] at h
    exact h
  | stuck =>
    rw [q] at h
    exact h
/-- the end of a step that leaves the state of the machine as it stands -/
theorem FIN.here {α : Type} {P : α → Hp → List Addr → Hp → S → Prop} {a : α} (R : Rel Z B Hs ρ σ H s) (h : FIN Z B W Hs ρ σ P (.ok a s)) : P a Hs ρ H s := h H Hs ρ R .refl (List.prefix_refl _)
theorem FIN.at {α : Type} {P : α → Hp → List Addr → Hp → S → Prop} {a : α} {s' : S} (h : FIN Z B W Hs ρ σ P (.ok a s')) (R : Rel Z B Hs' ρ' σ H' s') (m : Mono Hs Hs') (p : ρ <+: ρ') : P a Hs' ρ' H' s' := h H' Hs' ρ' R m p

theorem _root_.L2.PE.wk {X : Cx} {e : Expr} {t t' : TE} (h : PE X e t) (k : ∀ σ H Q, t' σ H Q → t σ H Q) : PE X e t' := ⟨fun pins s σ H Q I q => h.run pins s σ H Q I (k σ H Q q)⟩
theorem _root_.L2.PT.wk {X : Cx} {e : Expr} {t t' : TT} (h : PT X e t) (k : ∀ σ H Q, t' σ H Q → t σ H Q) : PT X e t' := ⟨fun pins s σ H Q I q => h.run pins s σ H Q I (k σ H Q q)⟩
theorem _root_.L2.PA.wk {X : Cx} {e : List Expr} {t t' : TA} (h : PA X e t) (k : ∀ σ H Q, t' σ H Q → t σ H Q) : PA X e t' := ⟨fun pos pins s σ H Q I q => h.run pos pins s σ H Q I (k σ H Q q)⟩
theorem _root_.L2.PE.oder {X : Cx} {e : Expr} {t t' : TE} (h : PE X e t) (h' : PE X e t') : PE X e (fun σ H Q => t σ H Q ∨ t' σ H Q) := ⟨fun pins s σ H Q I q => q.elim (h.run pins s σ H Q I) (h'.run pins s σ H Q I)⟩
theorem _root_.L2.OpR.oder {X : Cx} {f : Value → Value → Sem Value} {r r' : R2} (h : OpR X f r) (h' : OpR X f r') : OpR X f (fun x y H Q => r x y H Q ∨ r' x y H Q) := fun pins s σ H x y u v Q I rx ry q => q.elim (h pins s σ H x y u v Q I rx ry) (h' pins s σ H x y u v Q I rx ry)
theorem _root_.L2.OpR.wk {X : Cx} {f : Value → Value → Sem Value} {r r' : R2} (h : OpR X f r) (k : ∀ x y H Q, r' x y H Q → r x y H Q) : OpR X f r' := fun pins s σ H x y u v Q I rx ry q => h pins s σ H x y u v Q I rx ry (k _ _ _ _ q)
theorem _root_.L2.CallR.wk {X : Cx} {f : Value} {r r' : List V → Hp → VK → Prop} (h : CallR X f r) (k : ∀ xs H Q, r' xs H Q → r xs H Q) : CallR X f r' := fun pins s σ H vs us Q I rx q => h pins s σ H vs us Q I rx (k _ _ _ q)
theorem _root_.L2.CallR.oder {X : Cx} {f : Value} {r r' : List V → Hp → VK → Prop} (h : CallR X f r) (h' : CallR X f r') : CallR X f (fun xs H Q => r xs H Q ∨ r' xs H Q) := fun pins s σ H vs us Q I rx q => q.elim (h pins s σ H vs us Q I rx) (h' pins s σ H vs us Q I rx)

variable {X : Cx} {e e1 e2 e3 : Expr} {es : List Expr} {pos : Pos}

@[simp] def cv (c : M T) : M RV := TL.bnd c fun t => ret (.v t)
theorem EV.r {c : M T} (h : EV X Z W e c) : ER X Z W e (cv c) := fun B => (h B).wk fun σ H Q ⟨Hs, ρ, s, R, f⟩ => ⟨Hs, ρ, s, R, f.bnd.imp fun t Hs1 ρ1 H1 s1 R1 _ _ q v hv => q.here R1 v hv⟩
theorem ER.v {c : M RV} (h : ER X Z W e c) : EV X Z W e (TL.bnd c esc) := fun B => (h B).wk fun σ H Q ⟨Hs, ρ, s, R, f⟩ => ⟨Hs, ρ, s, R, f.bnd.imp fun r Hs1 ρ1 H1 s1 R1 _ _ q v hv => by
  cases e : esc r s1 with
  | ok t s2 =>
    rw [e] at q
    obtain ⟨Hx, m, R2, h2⟩ := R1.escapes hv e
    exact q.at R2 m (List.prefix_refl _) v h2
  | exc c fs s2 =>
    cases r with
    | v t => simp only [esc, ret] at e; cases e
    | loc i =>
      simp only [esc] at e
      split at e
      · split at e <;> cases e
      · cases e
      · cases e
  | stuck => rw [e] at q; exact q.elim⟩
/-- a name -/
def cVar (i : Nat) : M RV := fun s => match s.g[i]? with
  | some (.val t) => .ok (.v t) s
  | some (.own _) => .ok (.loc i) s
  | _ => .stuck
theorem er_name {i : Nat} {x : Str} (hN : X.N[i]? = some x) (hv : Vis X.env.scope x) (hd : (x == ("__debug__" : Str)) = false := by decide) (hcd : (x == ("__classdict__" : Str)) = false := by decide) : ER X Z W (.Name x pos) (cVar i) := fun B => (pe_var hN hv hd hcd).wk fun σ H Q ⟨Hs, ρ, s, R, f⟩ => by
  unfold cVar at f
  split at f
  · rename_i t ht
    obtain ⟨v, h1, h2⟩ := R.val i t ht
    exact ⟨v, h1, f.here R v h2⟩
  · rename_i t ht
    obtain ⟨a, h1, _⟩ := R.own i t ht
    exact ⟨_, h1, f.here R _ h1⟩
  · exact f.elim
/-- .. that goes out -/
@[simp] def cVarV (i : Nat) : M T := TL.bnd (cVar i) esc
theorem ev_name {i : Nat} {x : Str} (hN : X.N[i]? = some x) (hv : Vis X.env.scope x) (hd : (x == ("__debug__" : Str)) = false := by decide) (hcd : (x == ("__classdict__" : Str)) = false := by decide) : EV X Z W (.Name x pos) (cVarV i) := (er_name hN hv hd hcd).v
theorem ev_c {v : V} {t : T} (h : PE X e (tC v)) (ht : ∀ Hs ρ, Rep Z Hs ρ t v) : EV X Z W e (ret t) := fun B => h.wk fun σ H Q ⟨Hs, ρ, s, R, f⟩ => f.here R v (ht _ _)
theorem ev_int {i j} : EV X Z W (.Constant (.int i) j pos) (ret (.int i)) := ev_c pe_int fun _ _ => by simp only [Rep]
theorem ev_bl {b j} : EV X Z W (.Constant (.bool b) j pos) (ret (.bl b)) := ev_c pe_bl fun _ _ => by simp only [Rep]
theorem ev_non {j} : EV X Z W (.Constant .none j pos) (ret .non) := ev_c pe_non fun _ _ => by simp only [Rep]
theorem ev_str {x j} : EV X Z W (.Constant (.str x) j pos) (ret (.str x)) := ev_c pe_str fun _ _ => by simp only [Rep]
theorem ev_gstr {x : Str} {z : Str} (hg : Gl X x) (hm : ∃ t, X.mg x = some (.str z t)) (hd : (x == ("__debug__" : Str)) = false := by decide) : EV X Z W (.Name x pos) (ret (.str z)) := by
  obtain ⟨t, hm⟩ := hm
  exact ev_c (pe_glob (v := .str z) hg hm ⟨t, rfl⟩ hd) fun _ _ => by simp only [Rep]
theorem ev_gint {x : Str} {z : Int} (hg : Gl X x) (hm : ∃ t, X.mg x = some (.int z t)) (hd : (x == ("__debug__" : Str)) = false := by decide) : EV X Z W (.Name x pos) (ret (.int z)) := by
  obtain ⟨t, hm⟩ := hm
  exact ev_c (pe_glob (v := .int z) hg hm ⟨t, rfl⟩ hd) fun _ _ => by simp only [Rep]

@[simp] def cNil : M (List T) := ret []
@[simp] def cCons (c : M T) (cs : M (List T)) : M (List T) := TL.bnd c fun t => TL.bnd cs fun ts => ret (t :: ts)
theorem ea_nil : EA X Z W [] cNil := fun B => pa_nil.wk fun σ H Q ⟨Hs, ρ, s, R, f⟩ => f.here R [] .nil
theorem ea_cons {c : M T} {cs : M (List T)} (h : EV X Z W e c) (h2 : EA X Z W es cs) (he : starEach (e :: es) X.env = (false, eval e X.env) :: starEach es X.env := by rfl) : EA X Z W (e :: es) (cCons c cs) := fun B =>
  (pa_cons (h B) (h2 B) he).wk fun σ H Q ⟨Hs, ρ, s, R, f⟩ => ⟨Hs, ρ, s, R, f.bnd.imp fun t Hs1 ρ1 H1 s1 R1 _ _ q v hv => ⟨Hs1, ρ1, s1, R1, q.bnd.imp fun ts Hs2 ρ2 H2 s2 R2 m p q2 vs hvs => q2.here R2 _ (.cons (hv.mono m p) hvs)⟩⟩

def RepR.mono' (m : Mono Hs Hs') (p : ρ <+: ρ') {r : RV} {v : V} (h : RepR Z Hs ρ σ r v) : RepR Z Hs' ρ' σ r v := by
  cases r with
  | v t => exact Rep.mono m p h
  | loc i => exact h
/-- what an operator does on trees -/
def Op2 (X : Cx) (Z : Sg) (W : WX) (f : Value → Value → Sem Value) (g : RV → RV → M T) : Prop := ∀ B, OpR X f fun x y H Q => ∃ σ Hs ρ s a b, Rel Z B Hs ρ σ H s ∧ RepR Z Hs ρ σ a x ∧ RepR Z Hs ρ σ b y ∧
  FIN Z B W Hs ρ σ (fun t Hs' ρ' H' _ => ∀ v, Rep Z Hs' ρ' t v → Q v H') (g a b s)
@[simp] def cBin (c1 c2 : M RV) (g : RV → RV → M T) : M T := TL.bnd c1 fun a => TL.bnd c2 fun b => g a b
theorem bin_read {g : RV → RV → M T} {c1 c2 : M RV} {Q : VK} {f : Value → Value → Sem Value} (h : tV Z B W (cBin c1 c2 g) σ H Q) : tR Z B W c1 σ H fun x H1 => tR Z B W c2 σ H1 fun y H2 => ∃ σ Hs ρ s a b, Rel Z B Hs ρ σ H2 s ∧ RepR Z Hs ρ σ a x ∧ RepR Z Hs ρ σ b y ∧
    FIN Z B W Hs ρ σ (fun t Hs' ρ' H' _ => ∀ v, Rep Z Hs' ρ' t v → Q v H') (g a b s) := by
  obtain ⟨Hs, ρ, s, R, fi⟩ := h
  exact ⟨Hs, ρ, s, R, fi.bnd.imp fun a Hs1 ρ1 H1 s1 R1 _ _ q v hv => ⟨Hs1, ρ1, s1, R1, q.bnd.imp fun b Hs2 ρ2 H2 s2 R2 m p q2 w hw => ⟨σ, Hs2, ρ2, s2, a, b, R2, hv.mono' m p, hw, q2⟩⟩⟩
theorem ev_bin {op : Operator} {g : RV → RV → M T} {c1 c2 : M RV} (h1 : ER X Z W e1 c1) (h2 : ER X Z W e2 c2) (ho : Op2 X Z W (binaryOp op) g) : EV X Z W (.BinOp e1 op e2 pos) (cBin c1 c2 g) := fun B =>
  (pe_op (ho B) (h1 B) (h2 B)).wk fun σ H Q h => bin_read (f := binaryOp op) h
theorem ev_cmp {op : CmpOp} {g : RV → RV → M T} {c1 c2 : M RV} (h1 : ER X Z W e1 c1) (h2 : ER X Z W e2 c2) (ho : Op2 X Z W (compareOp op) g) (hm : behindInMarks op e2 = false) : EV X Z W (.Compare e1 [op] [e2] pos) (cBin c1 c2 g) := fun B =>
  (pe_cmpR (ho B) (h1 B) (h2 B) hm).wk fun σ H Q h => bin_read (f := compareOp op) h
/-- a value that is True or False, as a test -/
def asB : T → M Bool
  | .bl b => ret b
  | _ => stk
@[simp] def cB (c : M T) : M Bool := TL.bnd c asB
theorem asB_read {t : T} {v : V} {Q : Bool → Hp → Prop} (R : Rel Z B Hs ρ σ H s) (hv : Rep Z Hs ρ t v) (q : FIN Z B W Hs ρ σ (fun b _ _ H' _ => Q b H') (asB t s)) : ∃ c, v = .bl c ∧ Q c H := by
  cases t with
  | bl b => exact ⟨b, by simpa only [Rep] using hv, q.here R⟩
  | _ => exact q.elim
theorem EV.b {c : M T} (h : EV X Z W e c) (he : ∀ whole, isTrue e X.env whole = (do let v ← whole; standAt e.pos; holding [v] (truthy v)) := by intro _; rfl) : EB X Z W e (cB c) := fun B =>
  (pt_val (h B) he).wk fun σ H Q ⟨Hs, ρ, s, R, f⟩ => ⟨Hs, ρ, s, R, f.bnd.imp fun t Hs1 ρ1 H1 s1 R1 _ _ q v hv => asB_read R1 hv q⟩
theorem eb_cmp {op : CmpOp} {g : RV → RV → M T} {c1 c2 : M RV} (h1 : ER X Z W e1 c1) (h2 : ER X Z W e2 c2) (ho : Op2 X Z W (compareOp op) g) (hm : behindInMarks op e2 = false) : EB X Z W (.Compare e1 [op] [e2] pos) (cB (cBin c1 c2 g)) := fun B =>
  (pt_cmpR (ho B) (h1 B) (h2 B) hm).wk fun σ H Q ⟨Hs, ρ, s, R, f⟩ => bin_read (f := compareOp op) ⟨Hs, ρ, s, R, f.bnd.imp fun t Hs1 ρ1 H1 s1 R1 _ _ q v hv => asB_read R1 hv q⟩

@[simp] def cAnd (a b : M Bool) : M Bool := TL.bnd a fun x => if x = true then b else ret false
@[simp] def cOr (a b : M Bool) : M Bool := TL.bnd a fun x => if x = true then ret true else b
@[simp] def cNot (a : M Bool) : M Bool := TL.bnd a fun x => ret (!x)
def EW (X : Cx) (Z : Sg) (W : WX) (e : Expr) (c : M Bool) : Prop := ∀ B, PW X e (tBo Z B W c)
theorem EW.b {c : M Bool} (h : EW X Z W e c) : EB X Z W e c := fun B => (h B).pt
theorem _root_.L2.PW.wk {t t' : TT} (h : PW X e t) (k : ∀ σ H Q, t' σ H Q → t σ H Q) : PW X e t' := ⟨fun wh pins s σ H Q I q => h.run wh pins s σ H Q I (k σ H Q q)⟩
theorem ew_and1 {c : M Bool} (h : EB X Z W e c) : EW X Z W (.BoolOp .And [e] pos) c := fun B => pw_and1 (h B)
theorem ew_or1 {c : M Bool} (h : EB X Z W e c) : EW X Z W (.BoolOp .Or [e] pos) c := fun B => pw_or1 (h B)
theorem ew_and {c d : M Bool} (h : EB X Z W e1 c) (h2 : EW X Z W (.BoolOp .And (e2 :: es) pos) d) : EW X Z W (.BoolOp .And (e1 :: e2 :: es) pos) (cAnd c d) := fun B =>
  L2.PW.wk (pw_and (h B) (h2 B)) fun σ H Q ⟨Hs, ρ, s, R, f⟩ => ⟨Hs, ρ, s, R, f.bnd.imp fun b Hs1 ρ1 H1 s1 R1 _ _ q => by
    cases b with
    | true => exact ⟨Hs1, ρ1, s1, R1, q⟩
    | false => exact q.here R1⟩
theorem ew_or {c d : M Bool} (h : EB X Z W e1 c) (h2 : EW X Z W (.BoolOp .Or (e2 :: es) pos) d) : EW X Z W (.BoolOp .Or (e1 :: e2 :: es) pos) (cOr c d) := fun B =>
  L2.PW.wk (pw_or (h B) (h2 B)) fun σ H Q ⟨Hs, ρ, s, R, f⟩ => ⟨Hs, ρ, s, R, f.bnd.imp fun b Hs1 ρ1 H1 s1 R1 _ _ q => by
    cases b with
    | true => exact q.here R1
    | false => exact ⟨Hs1, ρ1, s1, R1, q⟩⟩
theorem eb_not {c : M Bool} (h : EB X Z W e c) : EB X Z W (.UnaryOp .Not e pos) (cNot c) := fun B =>
  (pt_not (h B)).wk fun σ H Q ⟨Hs, ρ, s, R, f⟩ => ⟨Hs, ρ, s, R, f.bnd.imp fun b Hs1 ρ1 H1 s1 R1 _ _ q => q.here R1⟩
/-- .. as values -/
@[simp] def cAndV (a : M T) (b : M T) : M T := TL.bnd (cB a) fun x => if x = true then b else ret (.bl false)
@[simp] def cOrV (a : M T) (b : M T) : M T := TL.bnd (cB a) fun x => if x = true then ret (.bl true) else b
@[simp] def cNotV (a : M T) : M T := TL.bnd (cB a) fun x => ret (.bl (!x))
theorem ev_one {op} {c : M T} (h : EV X Z W e c) : EV X Z W (.BoolOp op [e] pos) c := fun B => pe_one (h B)
theorem ev_and {c d : M T} (h : EV X Z W e1 c) (h2 : EV X Z W (.BoolOp .And (e2 :: es) pos) d) : EV X Z W (.BoolOp .And (e1 :: e2 :: es) pos) (cAndV c d) := fun B =>
  (pe_and (h B) (h2 B)).wk fun σ H Q ⟨Hs, ρ, s, R, f⟩ => ⟨Hs, ρ, s, R, f.bnd.bnd.imp fun t Hs1 ρ1 H1 s1 R1 _ _ q v hv => by
    obtain ⟨c, e, q⟩ := asB_read (Q := fun c H1 => if c = true then tV Z B W d σ H1 Q else Q (.bl false) H1) R1 hv (q.imp fun b Hs2 ρ2 H2 s2 R2 _ _ q => by
      cases b with
      | true => exact ⟨Hs2, ρ2, s2, R2, q⟩
      | false => exact q.here R2 _ (by simp only [Rep]))
    exact ⟨c, e, q⟩⟩
theorem ev_or {c d : M T} (h : EV X Z W e1 c) (h2 : EV X Z W (.BoolOp .Or (e2 :: es) pos) d) : EV X Z W (.BoolOp .Or (e1 :: e2 :: es) pos) (cOrV c d) := fun B =>
  (pe_or (h B) (h2 B)).wk fun σ H Q ⟨Hs, ρ, s, R, f⟩ => ⟨Hs, ρ, s, R, f.bnd.bnd.imp fun t Hs1 ρ1 H1 s1 R1 _ _ q v hv => by
    obtain ⟨c, e, q⟩ := asB_read (Q := fun c H1 => if c = true then Q (.bl true) H1 else tV Z B W d σ H1 Q) R1 hv (q.imp fun b Hs2 ρ2 H2 s2 R2 _ _ q => by
      cases b with
      | true => exact q.here R2 _ (by simp only [Rep])
      | false => exact ⟨Hs2, ρ2, s2, R2, q⟩)
    exact ⟨c, e, q⟩⟩
theorem ev_not {c : M T} (h : EV X Z W e c) : EV X Z W (.UnaryOp .Not e pos) (cNotV c) := fun B =>
  (pe_not (h B)).wk fun σ H Q ⟨Hs, ρ, s, R, f⟩ => ⟨Hs, ρ, s, R, f.bnd.bnd.imp fun t Hs1 ρ1 H1 s1 R1 _ _ q v hv => by
    obtain ⟨c, e, q⟩ := asB_read (Q := fun c H1 => Q (.bl (!c)) H1) R1 hv (q.imp fun b Hs2 ρ2 H2 s2 R2 _ _ q => q.here R2 _ (by simp only [Rep]))
    exact ⟨c, e, q⟩⟩
@[simp] def cIf {α : Type} (c : M Bool) (a b : M α) : M α := TL.bnd c fun x => if x = true then a else b
theorem ev_if {c : M Bool} {a b : M T} (hc : EB X Z W e1 c) (ha : EV X Z W e2 a) (hb : EV X Z W e3 b) : EV X Z W (.IfExp e1 e2 e3 pos) (cIf c a b) := fun B =>
  (pe_ifExp (hc B) (ha B) (hb B)).wk fun σ H Q ⟨Hs, ρ, s, R, f⟩ => ⟨Hs, ρ, s, R, f.bnd.imp fun x Hs1 ρ1 H1 s1 R1 _ _ q => by
    cases x with
    | true => exact ⟨Hs1, ρ1, s1, R1, q⟩
    | false => exact ⟨Hs1, ρ1, s1, R1, q⟩⟩

/-- a list that is new: in hand, not frozen -/
def tF (Z : Sg) (B : B0) (W : WX) (c : M T) : TE := fun σ H Q => ∃ Hs ρ s, Rel Z B Hs ρ σ H s ∧ FIN Z B W Hs ρ σ (fun t Hs' ρ' H' s' => ∀ p H2, Rel Z B Hs' ρ' σ H2 s' → Loose Z B Hs' ρ' σ H2 s' p t → Q (.ref p) H2) (c s)
def EF (X : Cx) (Z : Sg) (W : WX) (e : Expr) (c : M T) : Prop := ∀ B, PE X e (tF Z B W c)
theorem EF.v {c : M T} (h : EF X Z W e c) : EV X Z W e c := fun B => (h B).wk fun σ H Q ⟨Hs, ρ, s, R, f⟩ => ⟨Hs, ρ, s, R, by
  cases q : c s with
  | ok t s1 =>
    rw [q] at f
    intro H1 Hs1 ρ1 R1 m p a H2 R2 l
    obtain ⟨Hx, mx, Rx, hx⟩ := R2.freeze l
    exact f H2 Hx ρ1 Rx (m.trans mx) p _ hx
  | exc k fs s1 => rw [q] at f; exact f
  | stuck => rw [q] at f; exact f⟩
/-- a size that fits -/
def fits (n : Nat) : Bool := decide (n ≤ sizeLine)
@[simp] def cLst (c : M (List T)) : M T := TL.bnd c fun ts => if fits ts.length = true then ret (.lst ts) else stk
@[simp] def cTup (c : M (List T)) : M T := TL.bnd c fun ts => if fits ts.length = true then ret (.tup ts) else stk
theorem fits_le {n : Nat} (h : fits n = true) : n ≤ sizeLine := of_decide_eq_true h
theorem ef_list {c : M (List T)} (h : EA X Z W es c) : EF X Z W (.List es pos) (cLst c) := fun B =>
  (pe_lst (h B)).wk fun σ H Q ⟨Hs, ρ, s, R, f⟩ => ⟨Hs, ρ, s, R, f.bnd.imp fun ts Hs1 ρ1 H1 s1 R1 _ _ q vs hvs => by
    by_cases hz : fits ts.length = true
    · rw [if_pos hz] at q
      have hz' := fits_le hz
      refine ⟨by rw [hvs.length]; exact hz', fun p hp => ?_⟩
      obtain ⟨R2, l⟩ := R1.newLoose (o := .lst vs) (t := .lst ts) hp fun Hx hx => ⟨vs, hx, hvs, hz'⟩
      exact q.here R1 p _ R2 l
    · rw [if_neg hz] at q
      exact q.elim⟩
theorem ev_tup {c : M (List T)} {k : Nat} (h : EA X Z W es c) : EV X Z W (.Tuple es k pos) (cTup c) := fun B =>
  (pe_tup (h B)).wk fun σ H Q ⟨Hs, ρ, s, R, f⟩ => ⟨Hs, ρ, s, R, f.bnd.imp fun ts Hs1 ρ1 H1 s1 R1 _ _ q vs hvs => by
    by_cases hz : fits ts.length = true
    · rw [if_pos hz] at q
      have hz' := fits_le hz
      refine ⟨by rw [hvs.length]; exact hz', fun p hp => ?_⟩
      refine q.at (R1.alloc (.tup vs) hp) (.up (R1.no_of hp).2.1) (List.prefix_refl _) _ ?_
      simp only [Rep]
      exact ⟨p, vs, rfl, SqT.of upd_same, hvs.mono (.up (R1.no_of hp).2.1) (List.prefix_refl _), hz'⟩
    · rw [if_neg hz] at q
      exact q.elim⟩
end TL
namespace TL
open PySem PySem.Spec L2
open PyProof.Rows hiding St
variable {Z : Sg} {B : B0} {W : WX} {Hs Hs' Hs2 : Hp} {ρ ρ' ρ2 : List Addr} {σ : St} {H H' H2 : Hp} {s : S}
variable {X : Cx} {e e1 e2 e3 : Expr} {es : List Expr} {pos : Pos} {st : Stmt} {sts : List Stmt}

inductive Fl where
  | nx | rt (t : T) | bk | ct
  deriving Inhabited
/-- the end of a statement -/
def FIS (Z : Sg) (B : B0) (W : WX) (D : Ends) : Out Fl → Prop
  | .ok .nx s => ∀ σ' H' Hs' ρ', Rel Z B Hs' ρ' σ' H' s → D.nx σ' H'
  | .ok (.rt t) s => ∀ v σ' H' Hs' ρ', Rel Z B Hs' ρ' σ' H' s → Rep Z Hs' ρ' t v → D.rt v H'
  | .ok .bk s => ∀ σ' H' Hs' ρ', Rel Z B Hs' ρ' σ' H' s → D.bk σ' H'
  | .ok .ct s => ∀ σ' H' Hs' ρ', Rel Z B Hs' ρ' σ' H' s → D.ct σ' H'
  | .exc c fs s => ∀ d σ' H' Hs' ρ', Rel Z B Hs' ρ' σ' H' s → ExF Z Hs' ρ' H' d fs → W (.ref (Z.cls c)) d σ' H'
  | .stuck => False
def tS (Z : Sg) (B : B0) (W : WX) (c : M Fl) : TS := fun D σ H => ∃ Hs ρ s, Rel Z B Hs ρ σ H s ∧ FIS Z B W D (c s)
def SS (X : Cx) (Z : Sg) (W : WX) (st : Stmt) (c : M Fl) : Prop := ∀ B, PS X st (tS Z B W c)
def SB (X : Cx) (Z : Sg) (W : WX) (sts : List Stmt) (c : M Fl) : Prop := ∀ B, PSs X sts (tS Z B W c)
theorem _root_.L2.PS.wk {t t' : TS} (h : PS X st t) (k : ∀ D σ H, t' D σ H → t D σ H) : PS X st t' := ⟨fun pins s σ H D I q => h.run pins s σ H D I (k D σ H q)⟩
theorem _root_.L2.PSs.wk {t t' : TS} (h : PSs X sts t) (k : ∀ D σ H, t' D σ H → t D σ H) : PSs X sts t' := ⟨fun pins s σ H D I q => h.run pins s σ H D I (k D σ H q)⟩
/-- an expression ahead of a statement's rest -/
theorem FIS.bnd {α : Type} {D : Ends} {c : M α} {f : α → M Fl} (h : FIS Z B W D ((TL.bnd c f) s)) : FIN Z B W Hs ρ σ (fun a _ _ _ s1 => FIS Z B W D (f a s1)) (c s) := by
  have e : (TL.bnd c f) s = (c s).bind f := rfl
  rw [e] at h
  cases q : c s with
  | ok a s1 => rw [q] at h; exact fun H1 Hs1 ρ1 R m p => h
  | exc k fs s1 => rw [q] at h; exact fun d H1 Hs1 ρ1 R m p x => h d σ H1 Hs1 ρ1 R x
  | stuck => rw [q] at h; exact h
@[simp] def cSeq (a b : M Fl) : M Fl := fun s => match a s with
  | .ok .nx s' => b s'
  | o => o
theorem FIS.seq {D : Ends} {a b : M Fl} (h : FIS Z B W D (cSeq a b s)) : FIS Z B W { D with nx := tS Z B W b D } (a s) := by
  unfold cSeq at h
  cases q : a s with
  | ok f s1 =>
    rw [q] at h
    cases f with
    | nx => exact fun σ' H' Hs' ρ' R => ⟨Hs', ρ', s1, R, h⟩
    | rt t => exact h
    | bk => exact h
    | ct => exact h
  | exc k fs s1 => rw [q] at h; exact h
  | stuck => rw [q] at h; exact h
theorem sb_cons {a b : M Fl} (h1 : SS X Z W st a) (h2 : SB X Z W sts b) : SB X Z W (st :: sts) (cSeq a b) := fun B => (pss_cons (h1 B) (h2 B)).wk fun D σ H ⟨Hs, ρ, s, R, f⟩ => ⟨Hs, ρ, s, R, f.seq⟩
theorem sb_one {a : M Fl} (h1 : SS X Z W st a) : SB X Z W [st] a := fun B => pss_one (h1 B)
@[simp] def cNx : M Fl := ret .nx
theorem sb_nil : SB X Z W [] cNx := fun B => pss_nil.wk fun D σ H ⟨Hs, ρ, s, R, f⟩ => f σ H Hs ρ R
theorem ss_pass : SS X Z W (.Pass pos) cNx := fun B => ps_pass.wk fun D σ H ⟨Hs, ρ, s, R, f⟩ => f σ H Hs ρ R
theorem ss_break : SS X Z W (.Break pos) (ret .bk) := fun B => ps_break.wk fun D σ H ⟨Hs, ρ, s, R, f⟩ => f σ H Hs ρ R
theorem ss_continue : SS X Z W (.Continue pos) (ret .ct) := fun B => ps_continue.wk fun D σ H ⟨Hs, ρ, s, R, f⟩ => f σ H Hs ρ R
/-- code that is never reached -/
theorem ss_never : SS X Z W st stk := fun B => ps_never.wk fun D σ H ⟨Hs, ρ, s, R, f⟩ => f
theorem sb_never : SB X Z W sts stk := fun B => pss_never.wk fun D σ H ⟨Hs, ρ, s, R, f⟩ => f
@[simp] def cDrop {α : Type} (c : M α) : M Fl := TL.bnd c fun _ => ret .nx
theorem ss_expr {c : M T} (h : EV X Z W e c) (hs : swapsWith e none pos.line X.env = pure false := by rfl) : SS X Z W (.Expr e pos) (cDrop c) := fun B =>
  (ps_expr (h B) hs).wk fun D σ H ⟨Hs, ρ, s, R, f⟩ => ⟨Hs, ρ, s, R, f.bnd.imp fun t Hs1 ρ1 H1 s1 R1 _ _ q v hv => q σ H1 Hs1 ρ1 R1⟩
@[simp] def cRet (c : M T) : M Fl := TL.bnd c fun t => ret (.rt t)
theorem ss_ret {c : M T} (h : EV X Z W e c) : SS X Z W (.Return (some e) pos) (cRet c) := fun B =>
  (ps_ret (h B)).wk fun D σ H ⟨Hs, ρ, s, R, f⟩ => ⟨Hs, ρ, s, R, f.bnd.imp fun t Hs1 ρ1 H1 s1 R1 _ _ q v hv => q v σ H1 Hs1 ρ1 R1 hv⟩
theorem ss_retN : SS X Z W (.Return none pos) (ret (.rt .non)) := fun B => ps_retN.wk fun D σ H ⟨Hs, ρ, s, R, f⟩ => f .non σ H Hs ρ R (by simp only [Rep])
theorem ss_if {c : M Bool} {a b : M Fl} {A A' : List Stmt} (hc : EB X Z W e c) (ha : SB X Z W A a) (hb : SB X Z W A' b) : SS X Z W (.If e A A' pos) (cIf c a b) := fun B =>
  (ps_if (hc B) (ha B) (hb B)).wk fun D σ H ⟨Hs, ρ, s, R, f⟩ => ⟨Hs, ρ, s, R, f.bnd.imp fun x Hs1 ρ1 H1 s1 R1 _ _ q => by
    cases x with
    | true => exact ⟨Hs1, ρ1, s1, R1, q⟩
    | false => exact ⟨Hs1, ρ1, s1, R1, q⟩⟩
def put (i : Nat) (x : Slot) : M Fl := fun s => if ok0 i s = true then .ok .nx (s.setG i x) else .stuck
@[simp] def cSet (i : Nat) (c : M T) : M Fl := TL.bnd c fun t => put i (.val t)
@[simp] def cOwn (i : Nat) (c : M T) : M Fl := TL.bnd c fun t => put i (.own t)
/-- a new object becomes a cell -/
def mkCell (t : T) : M T := fun s => .ok (.cell s.c.length) ⟨s.g, s.c ++ [some t]⟩
@[simp] def cCell (c : M T) : M T := TL.bnd c mkCell
theorem EF.cell {c : M T} (h : EF X Z W e c) : EV X Z W e (cCell c) := fun B => (h B).wk fun σ H Q ⟨Hs, ρ, s, R, f⟩ => ⟨Hs, ρ, s, R, f.bnd.imp fun t Hs1 ρ1 H1 s1 R1 _ _ q p H2 R2 l => by
  obtain ⟨R3, h3⟩ := R2.newCell l
  exact q.at R3 .refl (List.prefix_append _ _) _ h3⟩
section
variable {i : Nat} {x : Str} {pos' : Pos}
theorem ss_set {c : M T} (hN : X.N.Nodup) (hi : X.N[i]? = some x) (hx : Loc X.env.scope x) (he : EV X Z W e c) (hs : swapsWith e (some (.Name x pos')) pos.line X.env = pure false := by rfl) (hf : X.fn x = true ∨ X.env.scope.names.lookup x = some .local := by first | exact .inl rfl | exact .inr rfl | assumption) :
    SS X Z W (.Assign [.Name x pos'] e pos) (cSet i c) := fun B =>
  (ps_set hN hi hx (he B) hs hf).wk fun D σ H ⟨Hs, ρ, s, R, f⟩ => ⟨Hs, ρ, s, R, f.bnd.imp fun t Hs1 ρ1 H1 s1 R1 _ _ q v hv => by
    unfold put at q
    by_cases h0 : ok0 i s1 = true
    · rw [if_pos h0] at q
      exact q _ H1 Hs1 ρ1 (R1.setVal h0 hv)
    · rw [if_neg h0] at q
      exact q.elim⟩
theorem ss_own {c : M T} (hN : X.N.Nodup) (hi : X.N[i]? = some x) (hx : Loc X.env.scope x) (he : EF X Z W e c) (hs : swapsWith e (some (.Name x pos')) pos.line X.env = pure false := by rfl) (hf : X.fn x = true ∨ X.env.scope.names.lookup x = some .local := by first | exact .inl rfl | exact .inr rfl | assumption) :
    SS X Z W (.Assign [.Name x pos'] e pos) (cOwn i c) := fun B =>
  (ps_set hN hi hx (he B) hs hf).wk fun D σ H ⟨Hs, ρ, s, R, f⟩ => ⟨Hs, ρ, s, R, f.bnd.imp fun t Hs1 ρ1 H1 s1 R1 _ _ q p H2 R2 l => by
    unfold put at q
    by_cases h0 : ok0 i s1 = true
    · rw [if_pos h0] at q
      exact q _ H2 Hs1 ρ1 (R2.setOwn h0 l)
    · rw [if_neg h0] at q
      exact q.elim⟩
end
/-- the slots but these are as they were -/
def Off (ws : List Nat) (σ σ' : St) : Prop := σ'.length = σ.length ∧ ∀ j, j ∉ ws → σ'[j]? = σ[j]?
def tG (Z : Sg) (B : B0) (W : WX) (ws : List Nat) (g : T → M Unit) : TG := fun v σ H Q => ∃ Hs ρ s t, Rel Z B Hs ρ σ H s ∧ Rep Z Hs ρ t v ∧ match g t s with
  | .ok _ s' => ∀ σ' H' Hs' ρ', Rel Z B Hs' ρ' σ' H' s' → Mono Hs Hs' → ρ <+: ρ' → Off ws σ σ' → Q σ' H'
  | .exc c fs s' => ∀ d σ' H' Hs' ρ', Rel Z B Hs' ρ' σ' H' s' → ExF Z Hs' ρ' H' d fs → W (.ref (Z.cls c)) d σ' H'
  | .stuck => False
def tGs (Z : Sg) (B : B0) (W : WX) (ws : List Nat) (g : List T → M Unit) : TGs := fun vs σ H Q => ∃ Hs ρ s ts, Rel Z B Hs ρ σ H s ∧ RepL Z Hs ρ ts vs ∧ match g ts s with
  | .ok _ s' => ∀ σ' H' Hs' ρ', Rel Z B Hs' ρ' σ' H' s' → Mono Hs Hs' → ρ <+: ρ' → Off ws σ σ' → Q σ' H'
  | .exc c fs s' => ∀ d σ' H' Hs' ρ', Rel Z B Hs' ρ' σ' H' s' → ExF Z Hs' ρ' H' d fs → W (.ref (Z.cls c)) d σ' H'
  | .stuck => False
def GT (X : Cx) (Z : Sg) (W : WX) (e : Expr) (ws : List Nat) (g : T → M Unit) : Prop := ∀ B, PG X e (tG Z B W ws g)
def GTs (X : Cx) (Z : Sg) (W : WX) (es : List Expr) (ws : List Nat) (g : List T → M Unit) : Prop := ∀ B, PGs X es (tGs Z B W ws g)
theorem _root_.L2.PG.wk {t t' : TG} (h : PG X e t) (k : ∀ v σ H Q, t' v σ H Q → t v σ H Q) : PG X e t' := ⟨fun pins s σ H v u Q I r q => h.run pins s σ H v u Q I r (k v σ H Q q)⟩
theorem _root_.L2.PGs.wk {t t' : TGs} (h : PGs X es t) (k : ∀ v σ H Q, t' v σ H Q → t v σ H Q) : PGs X es t' := ⟨fun pins s σ H v u Q I r q => h.run pins s σ H v u Q I r (k v σ H Q q)⟩
def putU (i : Nat) (t : T) : M Unit := fun s => if ok0 i s = true then .ok () (s.setG i (.val t)) else .stuck
theorem gt_name {i : Nat} {x : Str} (hN : X.N.Nodup) (hi : X.N[i]? = some x) (hx : Loc X.env.scope x) (hf : X.fn x = true ∨ X.env.scope.names.lookup x = some .local := by first | exact .inl rfl | exact .inr rfl | assumption) : GT X Z W (.Name x pos) [i] (putU i) := fun B =>
  (pg_name hN hi hx hf).wk fun v σ H Q ⟨Hs, ρ, s, t, R, hv, q⟩ => by
    unfold putU at q
    by_cases h0 : ok0 i s = true
    · rw [if_pos h0] at q
      exact q _ H Hs ρ (R.setVal h0 hv) .refl (List.prefix_refl _) ⟨by simp, fun j hj => List.getElem?_set_ne (fun q => hj (by rw [q]; exact List.mem_cons_self))⟩
    · rw [if_neg h0] at q
      exact q.elim
def gtNil : List T → M Unit
  | [] => ret ()
  | _ => stk
def gtCons (g : T → M Unit) (gs : List T → M Unit) : List T → M Unit
  | t :: ts => TL.bnd (g t) fun _ => gs ts
  | [] => stk
theorem gts_nil : GTs X Z W [] [] gtNil := fun B => pgs_nil.wk fun vs σ H Q ⟨Hs, ρ, s, ts, R, hv, q⟩ => by
  cases ts with
  | nil =>
    simp only [RepL] at hv
    exact ⟨hv, q σ H Hs ρ R .refl (List.prefix_refl _) ⟨rfl, fun _ _ => rfl⟩⟩
  | cons t ts => exact q.elim
theorem gts_cons {g : T → M Unit} {gs : List T → M Unit} {ws ws2 : List Nat} (h1 : GT X Z W e ws g) (h2 : GTs X Z W es ws2 gs) (hs : (assignEach (e :: es) X.env).map (·.2) = assign e X.env :: (assignEach es X.env).map (·.2) := by rfl) : GTs X Z W (e :: es) (ws ++ ws2) (gtCons g gs) := fun B =>
  (pgs_cons (h1 B) (h2 B) hs).wk fun vs σ H Q ⟨Hs, ρ, s, ts, R, hv, q⟩ => by
    cases ts with
    | nil => exact q.elim
    | cons t ts =>
      simp only [RepL] at hv
      obtain ⟨v, r, rfl, h1, h2⟩ := hv
      refine ⟨v, r, rfl, Hs, ρ, s, t, R, h1, ?_⟩
      have e : gtCons g gs (t :: ts) s = (g t s).bind fun _ => gs ts := rfl
      rw [e] at q
      cases qe : g t s with
      | ok u s1 =>
        rw [qe] at q
        refine fun σ1 H1 Hs1 ρ1 R1 m p o1 => ⟨Hs1, ρ1, s1, ts, R1, h2.mono m p, ?_⟩
        have q : (match gs ts s1 with
          | .ok _ s' => ∀ σ' H' Hs' ρ', Rel Z B Hs' ρ' σ' H' s' → Mono Hs Hs' → ρ <+: ρ' → Off (ws ++ ws2) σ σ' → Q σ' H'
          | .exc c fs s' => ∀ d σ' H' Hs' ρ', Rel Z B Hs' ρ' σ' H' s' → ExF Z Hs' ρ' H' d fs → W (.ref (Z.cls c)) d σ' H'
          | .stuck => False) := q
        cases qe2 : gs ts s1 with
        | ok u s2 => rw [qe2] at q; exact fun σ2 H2 Hs2 ρ2 R2 m2 p2 o2 => q σ2 H2 Hs2 ρ2 R2 (m.trans m2) (p.trans p2) ⟨o2.1.trans o1.1, fun j hj => (o2.2 j fun z => hj (List.mem_append_right _ z)).trans (o1.2 j fun z => hj (List.mem_append_left _ z))⟩
        | exc c fs s2 => rw [qe2] at q; exact q
        | stuck => rw [qe2] at q; exact q
      | exc c fs s1 => rw [qe] at q; exact q
      | stuck => rw [qe] at q; exact q
/-- (a, b, ..) = a tuple -/
def gtTup (n : Nat) (gs : List T → M Unit) : T → M Unit
  | .tup ts => if ts.length = n then gs ts else stk
  | _ => stk
theorem gt_tup {gs : List T → M Unit} {k n : Nat} {ws : List Nat} (hc : X.calm = true) (hK : Z.K = X.K) (h : GTs X Z W es ws gs) (hn : (assignEach es X.env).length = n := by rfl) (hst : (assignEach es X.env).findIdx? (·.1) = none := by rfl) : GT X Z W (.Tuple es k pos) ws (gtTup n gs) := fun B =>
  (pg_tup hc (h B) hn hst).wk fun v σ H Q ⟨Hs, ρ, s, t, R, hv, q⟩ => by
    cases t with
    | tup ts =>
      by_cases hl : ts.length = n
      · have e : gtTup n gs (.tup ts) s = gs ts s := by simp only [gtTup, if_pos hl]
        rw [e] at q
        simp only [Rep] at hv
        obtain ⟨a, vs, rfl, h1, h2, h3⟩ := hv
        exact ⟨a, vs, rfl, by rw [← hK]; exact sqT_mono R.rg.sub h1, by rw [h2.length]; exact hl, Hs, ρ, s, ts, R, h2, q⟩
      · have e : gtTup n gs (.tup ts) s = .stuck := by simp only [gtTup, if_neg hl, stk]
        rw [e] at q
        exact q.elim
    | _ => exact q.elim
@[simp] def cAsg (c : M T) (g : T → M Unit) : M Fl := TL.bnd c fun t => TL.bnd (g t) fun _ => ret .nx
theorem asg_read {D : Ends} {g : T → M Unit} {ws : List Nat} {t : T} {v : V} (R : Rel Z B Hs ρ σ H s) (hv : Rep Z Hs ρ t v) (q : FIS Z B W D ((TL.bnd (g t) fun _ => ret .nx) s)) : tG Z B W ws g v σ H D.nx := by
  refine ⟨Hs, ρ, s, t, R, hv, ?_⟩
  have e : (TL.bnd (g t) fun _ => ret Fl.nx) s = (g t s).bind fun _ => ret .nx := rfl
  rw [e] at q
  cases qe : g t s with
  | ok u s1 => rw [qe] at q; exact fun σ1 H1 Hs1 ρ1 R1 m p _ => q σ1 H1 Hs1 ρ1 R1
  | exc c fs s1 => rw [qe] at q; exact q
  | stuck => rw [qe] at q; exact q
theorem ss_asg {tg : Expr} {c : M T} {ws : List Nat} {g : T → M Unit} (he : EV X Z W e c) (hg : GT X Z W tg ws g) (hs : swapsWithSole [tg] e pos.line X.env = pure false := by rfl) (hw : swappedStores [tg] e X.env = pure none := by rfl)
    (h1 : (assignEach [tg] X.env).map (·.2) = [assign tg X.env] := by rfl) : SS X Z W (.Assign [tg] e pos) (cAsg c g) := fun B =>
  (ps_asg (he B) (hg B) hs hw h1).wk fun D σ H ⟨Hs, ρ, s, R, f⟩ => ⟨Hs, ρ, s, R, f.bnd.imp fun t Hs1 ρ1 H1 s1 R1 _ _ q v hv => asg_read R1 hv q⟩
/-- a, b = x, y: two local names -/
@[simp] def cPar (i j : Nat) (cs : M (List T)) : M Fl := TL.bnd cs fun ts => match ts with
  | [t, u] => fun s => if ok0 i s = true ∧ ok0 j (s.setG i (.val t)) = true then .ok .nx (((s.setG i (.val t))).setG j (.val u)) else .stuck
  | _ => stk
theorem ss_par {i j : Nat} {x y : Str} {a b : Expr} {cs : M (List T)} {px py pt : Pos} {kt k2 pt2} (hc : X.calm = true) (hN : X.N.Nodup) (hi : X.N[i]? = some x) (hj : X.N[j]? = some y) (hij : i ≠ j)
    (hx : X.env.scope.names.lookup x = some .local) (hy : X.env.scope.names.lookup y = some .local) (ha : EA X Z W [a, b] cs)
    (hw : swappedStores [.Tuple [.Name x px, .Name y py] kt pt] (.Tuple [a, b] k2 pt2) X.env = pure (some [x, y]))
    (hs : swapsWithSole [.Tuple [.Name x px, .Name y py] kt pt] (.Tuple [a, b] k2 pt2) pos.line X.env = pure false := by rfl) :
    SS X Z W (.Assign [.Tuple [.Name x px, .Name y py] kt pt] (.Tuple [a, b] k2 pt2) pos) (cPar i j cs) := fun B =>
  (ps_par hc hN hi hj hij hx hy (ha B) hw hs).wk fun D σ H ⟨Hs, ρ, s, R, f⟩ => ⟨Hs, ρ, s, R, f.bnd.imp fun ts Hs1 ρ1 H1 s1 R1 _ _ q vs hv => by
    match ts, q with
    | [t, u], q =>
      simp only [RepL] at hv
      obtain ⟨v, r, rfl, h1, v2, r2, rfl, h2, rfl⟩ := hv
      by_cases h0 : ok0 i s1 = true ∧ ok0 j (s1.setG i (.val t)) = true
      · simp only [if_pos h0] at q
        exact ⟨v, v2, rfl, q _ H1 Hs1 ρ1 ((R1.setVal h0.1 h1).setVal h0.2 h2)⟩
      · simp only [if_neg h0] at q
        exact q.elim
    | [], q => exact q.elim
    | [_], q => exact q.elim
    | _ :: _ :: _ :: _, q => exact q.elim⟩

end TL
namespace TL
open PySem PySem.Spec L2
open PyProof.Rows hiding St
variable {Z : Sg} {B : B0} {W : WX} {Hs Hs' Hs2 : Hp} {ρ ρ' ρ2 : List Addr} {σ : St} {H H' H2 : Hp} {s : S}
variable {X : Cx} {e e1 e2 e3 : Expr} {es : List Expr} {pos : Pos} {st : Stmt} {sts : List Stmt}

/-- what is walked: written trees, or a list that may change -/
inductive Src where
  | its (ts : List T) | cel (n : Nat)
def Src.item : Src → Nat → S → Option (Option T)
  | .its ts, i, _ => some ts[i]?
  | .cel n, i, s => match s.c[n]? with
    | some (some (.lst us)) => some us[i]?
    | _ => none
/-- the iterator J yields these -/
structure Wk (Z : Sg) (Hs : Hp) (ρ : List Addr) (J : It) (src : Src) : Prop where
  go : ∀ (B : B0) Hs2 ρ2 σ H s (i : Nat) (t : T), Mono Hs Hs2 → ρ <+: ρ2 → Rel Z B Hs2 ρ2 σ H s → src.item i s = some (some t) → J.go i H
  stop : ∀ (B : B0) Hs2 ρ2 σ H s (i : Nat), Mono Hs Hs2 → ρ <+: ρ2 → Rel Z B Hs2 ρ2 σ H s → src.item i s = some none → J.stop i H
  yld : ∀ (B : B0) Hs2 ρ2 σ H s (i : Nat) (t : T) x H', Mono Hs Hs2 → ρ <+: ρ2 → Rel Z B Hs2 ρ2 σ H s → src.item i s = some (some t) → J.yld i H x H' → ∃ Hs3, Mono Hs2 Hs3 ∧ Rel Z B Hs3 ρ2 σ H' s ∧ Rep Z Hs3 ρ2 t x
def tI (Z : Sg) (B : B0) (W : WX) (c : M Src) : TI := fun σ H R => ∃ Hs ρ s, Rel Z B Hs ρ σ H s ∧ FIN Z B W Hs ρ σ (fun src Hs' ρ' H' s' => ∀ J, Wk Z Hs' ρ' J src → R J H') (c s)
def SI (X : Cx) (Z : Sg) (W : WX) (tg e : Expr) (c : M Src) : Prop := ∀ B, PI X tg e (tI Z B W c)
theorem _root_.L2.PI.wk {tg : Expr} {t t' : TI} (h : PI X tg e t) (k : ∀ σ H R, t' σ H R → t σ H R) : PI X tg e t' := ⟨fun pins s σ H R I q => h.run pins s σ H R I (k σ H R q)⟩
theorem _root_.L2.PI.oder {tg : Expr} {t t' : TI} (h : PI X tg e t) (h' : PI X tg e t') : PI X tg e (fun σ H R => t σ H R ∨ t' σ H R) := ⟨fun pins s σ H R I q => q.elim (h.run pins s σ H R I) (h'.run pins s σ H R I)⟩

/-- a sign of a text -/
def chT (c : Nat) : T := .str ⟨#[c]⟩
def srcOf : T → M Src
  | .lst ts => ret (.its ts)
  | .tup ts => ret (.its ts)
  | .str x => ret (.its (x.cps.toList.map chT))
  | .cell n => fun s => match s.c[n]? with
    | some (some (.lst _)) => .ok (.cel n) s
    | _ => .stuck
  | _ => stk
theorem wk_list {a : Addr} {vs : List V} {ts : List T} (h1 : SqL Z.K Hs a vs) (h2 : RepL Z Hs ρ ts vs) : Wk Z Hs ρ (Itl Z.K a) (.its ts) where
  go := fun B Hs2 ρ2 σ H s i t m p R e => by
    obtain ⟨v, e1, _⟩ := h2.get (Option.some.inj e)
    exact ⟨vs, v, sqL_mono (m.trans R.rg.sub) h1, e1⟩
  stop := fun B Hs2 ρ2 σ H s i m p R e => by
    have e : ts[i]? = none := Option.some.inj e
    exact ⟨vs, sqL_mono (m.trans R.rg.sub) h1, by rw [h2.length]; exact List.getElem?_eq_none_iff.mp e⟩
  yld := fun B Hs2 ρ2 σ H s i t x H' m p R e y => by
    obtain ⟨v, e1, hv⟩ := h2.get (Option.some.inj e)
    obtain ⟨rfl, y⟩ := y
    have := y vs (sqL_mono (m.trans R.rg.sub) h1)
    rw [e1] at this
    cases this
    exact ⟨Hs2, .refl, R, hv.mono m p⟩
theorem wk_tup {a : Addr} {vs : List V} {ts : List T} (h1 : SqT Z.K Hs a vs) (h2 : RepL Z Hs ρ ts vs) : Wk Z Hs ρ (Itt Z.K a) (.its ts) where
  go := fun B Hs2 ρ2 σ H s i t m p R e => by
    obtain ⟨v, e1, _⟩ := h2.get (Option.some.inj e)
    exact ⟨vs, v, sqT_mono (m.trans R.rg.sub) h1, e1⟩
  stop := fun B Hs2 ρ2 σ H s i m p R e => by
    have e : ts[i]? = none := Option.some.inj e
    exact ⟨vs, sqT_mono (m.trans R.rg.sub) h1, by rw [h2.length]; exact List.getElem?_eq_none_iff.mp e⟩
  yld := fun B Hs2 ρ2 σ H s i t x H' m p R e y => by
    obtain ⟨v, e1, hv⟩ := h2.get (Option.some.inj e)
    obtain ⟨rfl, y⟩ := y
    have := y vs (sqT_mono (m.trans R.rg.sub) h1)
    rw [e1] at this
    cases this
    exact ⟨Hs2, .refl, R, hv.mono m p⟩
theorem wk_str {x : Str} : Wk Z Hs ρ (Its x) (.its (x.cps.toList.map chT)) where
  go := fun B Hs2 ρ2 σ H s i t m p R e => by
    have e : (x.cps.toList.map chT)[i]? = some t := Option.some.inj e
    have := (List.getElem?_eq_some_iff.mp e).1
    show i < x.cps.size
    simpa using this
  stop := fun B Hs2 ρ2 σ H s i m p R e => by
    have e : (x.cps.toList.map chT)[i]? = none := Option.some.inj e
    have := List.getElem?_eq_none_iff.mp e
    show x.cps.size ≤ i
    simpa using this
  yld := fun B Hs2 ρ2 σ H s i t v H' m p R e y => by
    have e : (x.cps.toList.map chT)[i]? = some t := Option.some.inj e
    obtain ⟨rfl, c, e1, rfl⟩ := y
    rw [List.getElem?_map] at e
    have e2 : x.cps.toList[i]? = some c := by simpa using e1
    rw [e2] at e
    cases e
    exact ⟨Hs2, .refl, R, by simp only [chT, Rep]⟩
theorem wk_cell {a : Addr} {n : Nat} (h : ρ[n]? = some a) : Wk Z Hs ρ (Itl Z.K a) (.cel n) where
  go := fun B Hs2 ρ2 σ H s i t m p R e => by
    simp only [Src.item] at e
    split at e
    · rename_i us hu
      obtain ⟨vs, h1, h2, _⟩ := R.rg.cell n a _ (pre_get p h) hu
      obtain ⟨v, e1, hv⟩ := h2.get (Option.some.inj e)
      exact ⟨vs, v, SqL.of h1, e1⟩
    · cases e
  stop := fun B Hs2 ρ2 σ H s i m p R e => by
    simp only [Src.item] at e
    split at e
    · rename_i us hu
      obtain ⟨vs, h1, h2, _⟩ := R.rg.cell n a _ (pre_get p h) hu
      have e : us[i]? = none := Option.some.inj e
      exact ⟨vs, SqL.of h1, by rw [h2.length]; exact List.getElem?_eq_none_iff.mp e⟩
    · cases e
  yld := fun B Hs2 ρ2 σ H s i t x H' m p R e y => by
    simp only [Src.item] at e
    split at e
    · rename_i us hu
      obtain ⟨vs, h1, h2, _⟩ := R.rg.cell n a _ (pre_get p h) hu
      obtain ⟨v, e1, hv⟩ := h2.get (Option.some.inj e)
      obtain ⟨rfl, y⟩ := y
      have := y vs (SqL.of h1)
      rw [e1] at this
      cases this
      exact ⟨Hs2, .refl, R, hv⟩
    · cases e
@[simp] def cSrc (c : M T) : M Src := TL.bnd c srcOf
theorem si_val {tg : Expr} {c : M T} (hK : Z.K = X.K) (h : EV X Z W e c) : SI X Z W tg e (cSrc c) := fun B => by
  have hL : PI X tg e (iList X.K (tV Z B W c)) := pi_list (h B)
  have hT : PI X tg e (iTup X.K (tV Z B W c)) := pi_tup (h B)
  have hS : PI X tg e (iStr (tV Z B W c)) := pi_str (h B)
  -- the way hangs on the tree that comes: the three are run on one reading
  refine (hL.oder (hT.oder hS)).wk fun σ H R ⟨Hs, ρ, s, Rl, f⟩ => ?_
  have f := f.bnd
  cases q : c s with
  | ok t s1 =>
    rw [q] at f
    cases t with
    | lst ts =>
      refine .inl ⟨Hs, ρ, s, Rl, ?_⟩
      rw [q]
      intro H1 Hs1 ρ1 R1 m p v hv
      have f := f H1 Hs1 ρ1 R1 m p
      simp only [Rep] at hv
      obtain ⟨a, vs, rfl, h1, h2, h3⟩ := hv
      exact ⟨a, rfl, ⟨vs, by rw [← hK]; exact sqL_mono R1.rg.sub (.inl h1)⟩, by rw [← hK]; exact f.here R1 _ (wk_list (.inl h1) h2)⟩
    | tup ts =>
      refine .inr (.inl ⟨Hs, ρ, s, Rl, ?_⟩)
      rw [q]
      intro H1 Hs1 ρ1 R1 m p v hv
      have f := f H1 Hs1 ρ1 R1 m p
      simp only [Rep] at hv
      obtain ⟨a, vs, rfl, h1, h2, h3⟩ := hv
      exact ⟨a, rfl, ⟨vs, by rw [← hK]; exact sqT_mono R1.rg.sub h1⟩, by rw [← hK]; exact f.here R1 _ (wk_tup h1 h2)⟩
    | str x =>
      refine .inr (.inr ⟨Hs, ρ, s, Rl, ?_⟩)
      rw [q]
      intro H1 Hs1 ρ1 R1 m p v hv
      have f := f H1 Hs1 ρ1 R1 m p
      simp only [Rep] at hv
      exact ⟨x, hv, f.here R1 _ wk_str⟩
    | cell n =>
      refine .inl ⟨Hs, ρ, s, Rl, ?_⟩
      rw [q]
      intro H1 Hs1 ρ1 R1 m p v hv
      have f := f H1 Hs1 ρ1 R1 m p
      simp only [Rep] at hv
      obtain ⟨a, e1, rfl⟩ := hv
      simp only [srcOf] at f
      split at f
      · rename_i us hu
        obtain ⟨vs, h1, h2, _⟩ := R1.rg.cell n a _ e1 hu
        exact ⟨a, rfl, ⟨vs, SqL.of h1⟩, by rw [← hK]; exact f.here R1 _ (wk_cell e1)⟩
      · exact f.elim
    | _ =>
      refine .inl ⟨Hs, ρ, s, Rl, ?_⟩
      rw [q]
      intro H1 Hs1 ρ1 R1 m p v hv
      exact (f H1 Hs1 ρ1 R1 m p).elim
  | exc k fs s1 =>
    rw [q] at f
    exact .inl ⟨Hs, ρ, s, Rl, by rw [q]; exact f⟩
  | stuck =>
    rw [q] at f
    exact f.elim

def asI : T → M Int
  | .int i => ret i
  | .bl b => ret (if b = true then 1 else 0)
  | _ => stk
/-- 0, 1, .. n - 1 from lo -/
def rgT (lo : Int) (n : Nat) : List T := (List.range n).map fun k => .int (lo + (k : Nat))
theorem wk_range {lo : Int} {n : Nat} : Wk Z Hs ρ (Itr lo n) (.its (rgT lo n)) where
  go := fun B Hs2 ρ2 σ H s i t m p R e => by
    have e : (rgT lo n)[i]? = some t := Option.some.inj e
    have := (List.getElem?_eq_some_iff.mp e).1
    show i < n
    simpa [rgT] using this
  stop := fun B Hs2 ρ2 σ H s i m p R e => by
    have e : (rgT lo n)[i]? = none := Option.some.inj e
    have := List.getElem?_eq_none_iff.mp e
    show n ≤ i
    simpa [rgT] using this
  yld := fun B Hs2 ρ2 σ H s i t v H' m p R e y => by
    have e : (rgT lo n)[i]? = some t := Option.some.inj e
    obtain ⟨rfl, rfl⟩ := y
    have hi := (List.getElem?_eq_some_iff.mp e).1
    have hi : i < n := by simpa [rgT] using hi
    simp only [rgT, List.getElem?_map, List.getElem?_range hi, Option.map_some] at e
    cases e
    exact ⟨Hs2, .refl, R, by simp only [Rep]⟩
/-- a bound of a range -/
def small (i : Int) : Bool := decide (-(2 ^ 62) ≤ i ∧ i < 2 ^ 62)
def cRg1 : List T → M Src
  | [.int j] => if small j = true then ret (.its (rgT 0 j.toNat)) else stk
  | _ => stk
def cRg2 : List T → M Src
  | [.int i, .int j] => if small i = true ∧ small j = true then ret (.its (rgT i (j - i).toNat)) else stk
  | _ => stk
theorem si_range1 {tg a : Expr} {cs : M (List T)} {p : Pos} (hg : Gl X "range") (hm : X.mg "range" = none) (ha : EA X Z W [a] cs) (hs : starEach [a] X.env = [(false, eval a X.env)] := by rfl) : SI X Z W tg (.Call (.Name "range" p) [a] [] pos) (TL.bnd cs cRg1) := fun B =>
  (pi_range1 hg hm (ha B) hs).wk fun σ H R ⟨Hs, ρ, s, Rl, f⟩ => ⟨Hs, ρ, s, Rl, f.bnd.imp fun ts Hs1 ρ1 H1 s1 R1 _ _ q vs hv => by
    match ts, q with
    | [.int j], q =>
      simp only [RepL, Rep] at hv
      obtain ⟨v, r, rfl, rfl, rfl⟩ := hv
      by_cases hz : small j = true
      · simp only [cRg1, if_pos hz] at q
        have hz := of_decide_eq_true hz
        exact ⟨j, rfl, hz.1, hz.2, q.here R1 _ (by simpa using wk_range)⟩
      · simp only [cRg1, if_neg hz] at q
        exact q.elim⟩
theorem si_range2 {tg a b : Expr} {cs : M (List T)} {p : Pos} (hg : Gl X "range") (hm : X.mg "range" = none) (ha : EA X Z W [a, b] cs) (hs : starEach [a, b] X.env = [(false, eval a X.env), (false, eval b X.env)] := by rfl) (hs2 : starEach [b] X.env = [(false, eval b X.env)] := by rfl) : SI X Z W tg (.Call (.Name "range" p) [a, b] [] pos) (TL.bnd cs cRg2) := fun B =>
  (pi_range2 hg hm (ha B) hs hs2).wk fun σ H R ⟨Hs, ρ, s, Rl, f⟩ => ⟨Hs, ρ, s, Rl, f.bnd.imp fun ts Hs1 ρ1 H1 s1 R1 _ _ q vs hv => by
    match ts, q with
    | [.int i, .int j], q =>
      simp only [RepL, Rep] at hv
      obtain ⟨v, r, rfl, rfl, v2, r2, rfl, rfl, rfl⟩ := hv
      by_cases hz : small i = true ∧ small j = true
      · simp only [cRg2, if_pos hz] at q
        have h1 := of_decide_eq_true hz.1
        have h2 := of_decide_eq_true hz.2
        exact ⟨i, j, rfl, ⟨h1.1, h1.2, h2.1, h2.2⟩, q.here R1 _ wk_range⟩
      · simp only [cRg2, if_neg hz] at q
        exact q.elim⟩
/-- the pairs of enumerate -/
def enT (ts : List T) : List T := ts.mapIdx fun i t => .tup [.int (i : Nat), t]
theorem wk_enum {a : Addr} {vs : List V} {ts : List T} (h1 : SqL Z.K Hs a vs) (h2 : RepL Z Hs ρ ts vs) : Wk Z Hs ρ (Ite Z.K a) (.its (enT ts)) where
  go := fun B Hs2 ρ2 σ H s i t m p R e => by
    have e : (enT ts)[i]? = some t := Option.some.inj e
    simp only [enT, List.getElem?_mapIdx] at e
    obtain ⟨u, e1, _⟩ := Option.map_eq_some_iff.mp e
    obtain ⟨v, e2, _⟩ := h2.get e1
    exact ⟨vs, v, sqL_mono (m.trans R.rg.sub) h1, e2⟩
  stop := fun B Hs2 ρ2 σ H s i m p R e => by
    have e : (enT ts)[i]? = none := Option.some.inj e
    simp only [enT, List.getElem?_mapIdx, Option.map_eq_none_iff] at e
    exact ⟨vs, sqL_mono (m.trans R.rg.sub) h1, by rw [h2.length]; exact List.getElem?_eq_none_iff.mp e⟩
  yld := fun B Hs2 ρ2 σ H s i t x H' m p R e y => by
    have e : (enT ts)[i]? = some t := Option.some.inj e
    simp only [enT, List.getElem?_mapIdx] at e
    obtain ⟨u, e1, rfl⟩ := Option.map_eq_some_iff.mp e
    obtain ⟨v, e2, hv⟩ := h2.get e1
    obtain ⟨T, x, rfl, hT, rfl, y⟩ := y
    have := y vs (sqL_mono (m.trans R.rg.sub) h1)
    rw [e2] at this
    cases this
    have hn := (R.no_of hT).2.1
    refine ⟨_, .up hn, R.alloc (.tup [.int (i : Nat), v]) hT, ?_⟩
    simp only [Rep]
    exact ⟨T, _, rfl, SqT.of upd_same, .cons (by simp only [Rep]) (.cons ((hv.mono m p).mono (.up hn) (List.prefix_refl _)) .nil), by show 2 ≤ sizeLine; decide⟩
def cEnum : List T → M Src
  | [.lst ts] => ret (.its (enT ts))
  | _ => stk
theorem si_enum {e : Expr} {cs : M (List T)} {p tpos : Pos} {elts : List Expr} {kk : Nat} (hK : Z.K = X.K) (hg : Gl X "enumerate") (hm : X.mg "enumerate" = none) (ha : EA X Z W [e] cs) (hs : starEach [e] X.env = [(false, eval e X.env)] := by rfl) : SI X Z W (.Tuple elts kk tpos) (.Call (.Name "enumerate" p) [e] [] pos) (TL.bnd cs cEnum) := fun B =>
  (pi_enum hg hm (ha B) hs).wk fun σ H R ⟨Hs, ρ, s, Rl, f⟩ => ⟨Hs, ρ, s, Rl, f.bnd.imp fun ts Hs1 ρ1 H1 s1 R1 _ _ q vs hv => by
    match ts, q with
    | [.lst us], q =>
      simp only [RepL, Rep] at hv
      obtain ⟨v, r, rfl, ⟨a, ws, rfl, h1, h2, h3⟩, rfl⟩ := hv
      exact ⟨a, ws, rfl, by rw [← hK]; exact sqL_mono R1.rg.sub (.inl h1), by rw [← hK]; exact q.here R1 _ (wk_enum (.inl h1) h2)⟩⟩

/-- behind a turn -/
@[simp] def thenL (o : Out Fl) (k : M Fl) : Out Fl := match o with
  | .ok .nx s => k s
  | .ok .ct s => k s
  | .ok .bk s => .ok .nx s
  | o => o
@[simp] def cForL (g : T → M Unit) (body : M Fl) : List T → M Fl
  | [] => ret .nx
  | t :: ts => TL.bnd (g t) fun _ => fun s => thenL (body s) (cForL g body ts)
def cForC (n : Nat) (g : T → M Unit) (body : M Fl) : Nat → Nat → M Fl
  | 0, _ => stk
  | f + 1, i => fun s => match s.c[n]? with
    | some (some (.lst us)) => (match us[i]? with
      | some t => (TL.bnd (g t) fun _ => fun s => thenL (body s) (cForC n g body f (i + 1))) s
      | none => .ok .nx s)
    | _ => .stuck
@[simp] def cForS (g : T → M Unit) (body : M Fl) : Src → M Fl
  | .its ts => cForL g body ts
  | .cel n => cForC n g body (sizeLine + 2) 0
@[simp] def cFor (c : M Src) (g : T → M Unit) (body : M Fl) : M Fl := TL.bnd c (cForS g body)
abbrev B0.at (B : B0) (Hs : Hp) (ρ : List Addr) : B0 := ⟨Hs, ρ, B.H, B.self⟩
theorem Rel.toAt (R1 : Rel Z B Hs ρ σ H s) {Hs2 : Hp} {ρ2 : List Addr} {σ2 : St} {H2 : Hp} {s2 : S} (m : Mono Hs Hs2) (p : ρ <+: ρ2) (R : Rel Z B Hs2 ρ2 σ2 H2 s2) : Rel Z (B.at Hs ρ) Hs2 ρ2 σ2 H2 s2 := by
  have sub : ∀ a, a ∈ B.ρ → a ∈ ρ := fun a ha => by
    obtain ⟨r, hr⟩ := R1.ex.pre
    rw [← hr]; exact List.mem_append_left _ ha
  exact ⟨R.rg, ⟨m, p, fun a o e hn => R.ex.frame a o e fun z => hn (sub a z), fun a e1 e2 => R.ex.freshS a (R1.ex.mono.no e1) e2, fun a ha hn => R.ex.freshR a ha fun z => hn (sub a z)⟩, R.glen, R.val, R.own, R.ownd, R.me⟩
theorem Rel.ofAt (R1 : Rel Z B Hs ρ σ H s) {Hs2 : Hp} {ρ2 : List Addr} {σ2 : St} {H2 : Hp} {s2 : S} (R : Rel Z (B.at Hs ρ) Hs2 ρ2 σ2 H2 s2) : Rel Z B Hs2 ρ2 σ2 H2 s2 := by
  refine ⟨R.rg, ⟨R1.ex.mono.trans R.ex.mono, R1.ex.pre.trans R.ex.pre, fun a o e hn => ?_, fun a e1 e2 => ?_, fun a ha hn => ?_⟩, R.glen, R.val, R.own, R.ownd, R.me⟩
  · by_cases z : a ∈ ρ
    · have := R1.ex.freshR a z hn
      rw [e] at this; cases this
    · exact R.ex.frame a o e z
  · cases q : Hs a with
    | none => exact R.ex.freshS a q e2
    | some o => exact R1.ex.freshS a e1 (by rw [q]; exact fun z => nomatch z)
  · by_cases z : a ∈ ρ
    · exact R1.ex.freshR a z hn
    · exact R.ex.freshR a ha z
theorem _root_.L2.PSs.ex {ι : Type} {t : ι → TS} (h : ∀ B, PSs X sts (t B)) : PSs X sts (fun D σ H => ∃ B, t B D σ H) := ⟨fun pins s σ H D I ⟨B, q⟩ => (h B).run pins s σ H D I q⟩
theorem _root_.L2.PG.ex {ι : Type} {t : ι → TG} (h : ∀ B, PG X e (t B)) : PG X e (fun v σ H Q => ∃ B, t B v σ H Q) := ⟨fun pins s σ H v u Q I r ⟨B, q⟩ => (h B).run pins s σ H v u Q I r q⟩
theorem _root_.L2.PE.ex {ι : Type} {t : ι → TE} (h : ∀ B, PE X e (t B)) : PE X e (fun σ H Q => ∃ B, t B σ H Q) := ⟨fun pins s σ H Q I ⟨B, q⟩ => (h B).run pins s σ H Q I q⟩
theorem _root_.L2.PT.ex {ι : Type} {t : ι → TT} (h : ∀ B, PT X e (t B)) : PT X e (fun σ H Q => ∃ B, t B σ H Q) := ⟨fun pins s σ H Q I ⟨B, q⟩ => (h B).run pins s σ H Q I q⟩
theorem _root_.L2.PTs.ex {ι : Type} {t : ι → TT} (h : ∀ B, PTs X es (t B)) : PTs X es (fun σ H Q => ∃ B, t B σ H Q) := ⟨fun pins s σ H Q I ⟨B, q⟩ => (h B).run pins s σ H Q I q⟩

/-- one turn: the target takes the tree, the body runs -/
theorem turn_read {ws : List Nat} {g : T → M Unit} {b k : M Fl} {D : Ends} {t : T} {x : V} {B1 : B0} {N : St → Hp → Prop} (R : Rel Z B1 Hs ρ σ H s) (hx : Rep Z Hs ρ t x) (k1 : ∀ {Hs ρ σ H s}, Rel Z B1 Hs ρ σ H s → Rel Z B Hs ρ σ H s)
    (q : FIS Z B W D ((TL.bnd (g t) fun _ => fun s => thenL (b s) k) s)) (hN : ∀ {Hs ρ σ H s}, Rel Z B1 Hs ρ σ H s → FIS Z B W D (k s) → N σ H) :
    tG Z B1 W ws g x σ H fun σ2 H2 => ∃ B, tS Z B W b { D with nx := N, ct := N, bk := D.nx } σ2 H2 := by
  refine ⟨Hs, ρ, s, t, R, hx, ?_⟩
  have e : (TL.bnd (g t) fun _ => fun s => thenL (b s) k) s = (g t s).bind fun _ => fun s => thenL (b s) k := rfl
  rw [e] at q
  cases qe : g t s with
  | stuck => rw [qe] at q; exact q
  | exc c fs s1 => rw [qe] at q; exact fun d σ' H' Hs' ρ' R' x' => q d σ' H' Hs' ρ' (k1 R') x'
  | ok u s1 =>
    rw [qe] at q
    refine fun σ1 H1 Hs1 ρ1 R1 m p _ => ⟨B1, Hs1, ρ1, s1, R1, ?_⟩
    have q : FIS Z B W D (thenL (b s1) k) := q
    cases qb : b s1 with
    | stuck => rw [qb] at q; exact q
    | exc c fs s2 => rw [qb] at q; exact fun d σ' H' Hs' ρ' R' x' => q d σ' H' Hs' ρ' (k1 R') x'
    | ok fl s2 =>
      rw [qb] at q
      cases fl with
      | nx => exact fun σ' H' Hs' ρ' R' => hN R' q
      | ct => exact fun σ' H' Hs' ρ' R' => hN R' q
      | bk => exact fun σ' H' Hs' ρ' R' => q σ' H' Hs' ρ' (k1 R')
      | rt t => exact fun v σ' H' Hs' ρ' R' hv => q v σ' H' Hs' ρ' (k1 R') hv
theorem for_read {ws : List Nat} {g : T → M Unit} {b : M Fl} {D : Ends} {J : It} {src : Src} (R1 : Rel Z B Hs ρ σ H s) (wk : Wk Z Hs ρ J src) (q : FIS Z B W D (cForS g b src s)) : ∃ Wi : Nat → Nat → St → Hp → Prop, (∃ m, Wi 0 m σ H) ∧ ∀ i m σ H, Wi i m σ H →
    (J.stop i H ∧ D.nx σ H) ∨ (J.go i H ∧ ∃ N : St → Hp → Prop, (∀ σ' H', N σ' H' → ∃ m', m' < m ∧ Wi (i + 1) m' σ' H') ∧ ∀ x H', J.yld i H x H' → (∃ B, tG Z B W ws g x σ H' fun σ2 H2 => ∃ B, tS Z B W b { D with nx := N, ct := N, bk := D.nx } σ2 H2)) := by
  have back : ∀ {Hs2 ρ2 σ2 H2 s2}, Rel Z (B.at Hs ρ) Hs2 ρ2 σ2 H2 s2 → Rel Z B Hs2 ρ2 σ2 H2 s2 := fun R => R1.ofAt R
  cases src with
  | its ts =>
    refine ⟨fun i m σ2 H2 => m = ts.length - i ∧ i ≤ ts.length ∧ ∃ Hs2 ρ2 s2, Rel Z (B.at Hs ρ) Hs2 ρ2 σ2 H2 s2 ∧ FIS Z B W D (cForL g b (ts.drop i) s2), ⟨_, rfl, Nat.zero_le _, Hs, ρ, s, R1.toAt .refl (List.prefix_refl _) R1, by simpa using q⟩, ?_⟩
    rintro i m σ2 H2 ⟨rfl, hi, Hs2, ρ2, s2, R2, q2⟩
    by_cases hlt : i < ts.length
    · have ei : Src.item (.its ts) i s2 = some (some ts[i]) := by simp [Src.item, hlt]
      refine .inr ⟨wk.go _ Hs2 ρ2 σ2 H2 s2 i _ R2.ex.mono R2.ex.pre R2 ei, fun σ' H' => ∃ Hs3 ρ3 s3, Rel Z (B.at Hs ρ) Hs3 ρ3 σ' H' s3 ∧ FIS Z B W D (cForL g b (ts.drop (i + 1)) s3), fun σ' H' ⟨Hs3, ρ3, s3, R3, q3⟩ => ⟨ts.length - (i + 1), by omega, rfl, hlt, Hs3, ρ3, s3, R3, q3⟩, fun x H' y => ?_⟩
      obtain ⟨Hs3, m3, R3, hx⟩ := wk.yld _ Hs2 ρ2 σ2 H2 s2 i _ x H' R2.ex.mono R2.ex.pre R2 ei y
      rw [List.drop_eq_getElem_cons hlt] at q2
      exact ⟨_, turn_read (B := B) R3 hx back q2 fun R q => ⟨_, _, _, R, q⟩⟩
    · have e : i = ts.length := by omega
      subst e
      have ei : Src.item (.its ts) ts.length s2 = some none := by simp [Src.item]
      refine .inl ⟨wk.stop _ Hs2 ρ2 σ2 H2 s2 _ R2.ex.mono R2.ex.pre R2 ei, ?_⟩
      rw [List.drop_length] at q2
      exact q2 σ2 H2 Hs2 ρ2 (back R2)
  | cel n =>
    refine ⟨fun i m σ2 H2 => ∃ Hs2 ρ2 s2, Rel Z (B.at Hs ρ) Hs2 ρ2 σ2 H2 s2 ∧ FIS Z B W D (cForC n g b m i s2), ⟨_, Hs, ρ, s, R1.toAt .refl (List.prefix_refl _) R1, q⟩, ?_⟩
    rintro i m σ2 H2 ⟨Hs2, ρ2, s2, R2, q2⟩
    cases m with
    | zero => exact q2.elim
    | succ m =>
      simp only [cForC] at q2
      split at q2
      · rename_i us hu
        split at q2
        · rename_i t ht
          have ei : Src.item (.cel n) i s2 = some (some t) := by simp [Src.item, hu, ht]
          refine .inr ⟨wk.go _ Hs2 ρ2 σ2 H2 s2 i _ R2.ex.mono R2.ex.pre R2 ei, fun σ' H' => ∃ Hs3 ρ3 s3, Rel Z (B.at Hs ρ) Hs3 ρ3 σ' H' s3 ∧ FIS Z B W D (cForC n g b m (i + 1) s3), fun σ' H' ⟨Hs3, ρ3, s3, R3, q3⟩ => ⟨m, Nat.lt_succ_self _, Hs3, ρ3, s3, R3, q3⟩, fun x H' y => ?_⟩
          obtain ⟨Hs3, m3, R3, hx⟩ := wk.yld _ Hs2 ρ2 σ2 H2 s2 i _ x H' R2.ex.mono R2.ex.pre R2 ei y
          exact ⟨_, turn_read (B := B) R3 hx back q2 fun R q => ⟨_, _, _, R, q⟩⟩
        · rename_i ht
          have ei : Src.item (.cel n) i s2 = some none := by simp [Src.item, hu, ht]
          exact .inl ⟨wk.stop _ Hs2 ρ2 σ2 H2 s2 _ R2.ex.mono R2.ex.pre R2 ei, q2 σ2 H2 Hs2 ρ2 (back R2)⟩
      · exact q2.elim
theorem ss_for {tg iter : Expr} {body : List Stmt} {c : M Src} {ws : List Nat} {g : T → M Unit} {b : M Fl} (hp : PassesOwn (model X.prog X.w) X.A X.env X.xe) (hc : X.calm = true) (hi : SI X Z W tg iter c) (hg : GT X Z W tg ws g) (hb : SB X Z W body b)
    (hs : ∀ x, foldedSetIterable iter X.env x = pure x := by intro _; rfl) : SS X Z W (.For tg iter body [] pos) (cFor c g b) := fun B =>
  (ps_for hp hc (hi B) (L2.PG.ex hg) (L2.PSs.ex hb) hs).wk fun D σ H ⟨Hs, ρ, s, R, f⟩ => ⟨Hs, ρ, s, R, f.bnd.imp fun src Hs1 ρ1 H1 s1 R1 _ _ q J wk => for_read R1 wk q⟩

@[simp] def cWhile (c : M Bool) (b : M Fl) : Nat → M Fl
  | 0 => stk
  | n + 1 => TL.bnd c fun x => if x = true then fun s => thenL (b s) (cWhile c b n) else ret .nx
theorem ss_while {e : Expr} {body : List Stmt} {c : M Bool} {b : M Fl} (n : Nat) (hp : PassesOwn (model X.prog X.w) X.A X.env X.xe) (hc : EB X Z W e c) (hb : SB X Z W body b) : SS X Z W (.While e body [] pos) (cWhile c b n) := fun B =>
  (ps_while hp (hc B) (hb B)).wk fun D σ H ⟨Hs, ρ, s, R, f⟩ => by
    refine ⟨fun m σ2 H2 => ∃ Hs2 ρ2 s2, Rel Z B Hs2 ρ2 σ2 H2 s2 ∧ FIS Z B W D (cWhile c b m s2), ⟨n, Hs, ρ, s, R, f⟩, ?_⟩
    rintro m σ2 H2 ⟨Hs2, ρ2, s2, R2, q2⟩
    cases m with
    | zero => exact q2.elim
    | succ m =>
      refine ⟨Hs2, ρ2, s2, R2, (FIS.bnd (Hs := Hs2) (ρ := ρ2) (σ := σ2) q2).imp fun x Hs3 ρ3 H3 s3 R3 _ _ q => ?_⟩
      cases x with
      | false => exact q σ2 H3 Hs3 ρ3 R3
      | true =>
        refine ⟨fun σ' H' => ∃ Hs4 ρ4 s4, Rel Z B Hs4 ρ4 σ' H' s4 ∧ FIS Z B W D (cWhile c b m s4), fun σ' H' h => ⟨m, Nat.lt_succ_self _, h⟩, Hs3, ρ3, s3, R3, ?_⟩
        have q : FIS Z B W D (thenL (b s3) (cWhile c b m)) := q
        cases qb : b s3 with
        | stuck => rw [qb] at q; exact q
        | exc c fs s2 => rw [qb] at q; exact q
        | ok fl s2 =>
          rw [qb] at q
          cases fl with
          | nx => exact fun σ' H' Hs' ρ' R' => ⟨_, _, _, R', q⟩
          | ct => exact fun σ' H' Hs' ρ' R' => ⟨_, _, _, R', q⟩
          | bk => exact fun σ' H' Hs' ρ' R' => q σ' H' Hs' ρ' R'
          | rt t => exact fun v σ' H' Hs' ρ' R' hv => q v σ' H' Hs' ρ' R' hv
end TL
namespace TL
open PySem PySem.Spec L2
open PyProof.Rows hiding St
variable {Z : Sg} {B : B0} {W : WX} {Hs Hs' Hs2 : Hp} {ρ ρ' ρ2 : List Addr} {σ : St} {H H' H2 : Hp} {s : S}
variable {X : Cx} {e e1 e2 e3 : Expr} {es : List Expr} {pos : Pos} {st : Stmt} {sts : List Stmt}

/-- nothing that is raised goes out -/
abbrev W0 : WX := fun _ _ _ _ => False
@[simp] def noX {α : Type} : Out α → Out α
  | .exc _ _ _ => .stuck
  | o => o
theorem FIN.noX {α : Type} {P : α → Hp → List Addr → Hp → S → Prop} : ∀ {o : Out α}, FIN Z B W Hs ρ σ P (TL.noX o) → FIN Z B W0 Hs ρ σ P o
  | .ok _ _, h => h
  | .exc _ _ _, h => h.elim
  | .stuck, h => h

abbrev B0.hold (B : B0) (p : Addr) (o : HO) : B0 := ⟨B.Hs, B.ρ, upd B.H p o, B.self⟩
theorem Rel.toHold {p : Addr} {t : T} {o : HO} (R : Rel Z B Hs ρ σ H s) (l : Loose Z B Hs ρ σ H s p t) (ho : H p = some o) : Rel Z (B.hold p o) Hs ρ σ H s := by
  refine ⟨R.rg, ⟨R.ex.mono, R.ex.pre, fun a u e hn => ?_, fun a e1 e2 => ?_, fun a ha hn => ?_⟩, R.glen, R.val, fun i u e => ?_, R.ownd, R.me⟩
  · by_cases q : a = p
    · subst q
      have e : upd B.H a o a = some u := e
      rw [upd_same] at e
      cases e
      exact ho
    · have e : upd B.H p o a = some u := e
      rw [upd_ne q] at e
      exact R.ex.frame a u e hn
  · have q : a ≠ p := fun q => by subst q; exact e2 l.hs
    show upd B.H p o a = none
    rw [upd_ne q]; exact R.ex.freshS a e1 e2
  · have q : a ≠ p := fun q => by subst q; exact l.hr ha
    show upd B.H p o a = none
    rw [upd_ne q]; exact R.ex.freshR a ha hn
  · obtain ⟨a, h1, h2, h3, h4, h5⟩ := R.own i u e
    have q : a ≠ p := fun q => by subst q; exact l.no i u e h1
    refine ⟨a, h1, h2, h3, ?_, h5⟩
    show upd B.H p o a = none
    rw [upd_ne q]; exact h4
theorem Rel.ofHold {p : Addr} {o : HO} (hb : B.H p = none) (hs : B.Hs p = none) (hr : p ∉ B.ρ) (R : Rel Z (B.hold p o) Hs ρ σ H s) : Rel Z B Hs ρ σ H s ∧ H p = some o ∧ Hs p = none ∧ p ∉ ρ ∧ ∀ (i : Nat) (u : T), s.g[i]? = some (.own u) → σ[i]? ≠ some (some (.ref p)) := by
  have up : ∀ a, upd B.H p o a = none → B.H a = none := fun a q => by
    by_cases z : a = p
    · subst z; rw [upd_same] at q; cases q
    · rwa [upd_ne z] at q
  refine ⟨⟨R.rg, ⟨R.ex.mono, R.ex.pre, fun a u e hn => ?_, fun a e1 e2 => up a (R.ex.freshS a e1 e2), fun a ha hn => up a (R.ex.freshR a ha hn)⟩, R.glen, R.val, fun i u e => ?_, R.ownd, R.me⟩, R.ex.frame p o upd_same hr, ?_, fun q => ?_, fun i u e q => ?_⟩
  · have z : a ≠ p := fun z => by subst z; rw [hb] at e; cases e
    exact R.ex.frame a u (by show upd B.H p o a = some u; rw [upd_ne z]; exact e) hn
  · obtain ⟨a, h1, h2, h3, h4, h5⟩ := R.own i u e
    exact ⟨a, h1, h2, h3, up a h4, h5⟩
  · cases q : Hs p with
    | none => rfl
    | some u =>
      have z : upd B.H p o p = none := R.ex.freshS p hs (by rw [q]; exact fun z => nomatch z)
      rw [upd_same] at z; cases z
  · have z : upd B.H p o p = none := R.ex.freshR p q hr
    rw [upd_same] at z; cases z
  · obtain ⟨a, h1, h2, h3, h4, h5⟩ := R.own i u e
    rw [h1] at q
    cases q
    have z : upd B.H p o p = none := h4
    rw [upd_same] at z; cases z

def wipeG (g : List Slot) : List Nat → List Slot
  | [] => g
  | v :: vs => (wipeG g vs).set v .un
abbrev S.wipe (s : S) (vs : List Nat) : S := ⟨wipeG s.g vs, s.c⟩
theorem wipeG_length (g : List Slot) : ∀ vs : List Nat, (wipeG g vs).length = g.length
  | [] => rfl
  | v :: vs => by unfold wipeG; rw [List.length_set, wipeG_length g vs]
theorem wipeG_get {g : List Slot} {i : Nat} {x : Slot} : ∀ {vs : List Nat}, (wipeG g vs)[i]? = some x → x = .un ∨ (g[i]? = some x ∧ i ∉ vs)
  | [], h => .inr ⟨h, by simp⟩
  | v :: vs, h => by
    unfold wipeG at h
    by_cases hi : v = i
    · subst hi
      by_cases hv : v < (wipeG g vs).length
      · rw [List.getElem?_set_self hv] at h; cases h; exact .inl rfl
      · rw [List.getElem?_eq_none (by simpa using hv)] at h; cases h
    · rw [List.getElem?_set_ne hi] at h
      rcases wipeG_get h with h1 | ⟨h1, h2⟩
      · exact .inl h1
      · exact .inr ⟨h1, by simp only [List.mem_cons, not_or]; exact ⟨fun e => hi e.symm, h2⟩⟩
theorem wipeG_out {g : List Slot} {i : Nat} : ∀ {vs : List Nat}, i ∉ vs → (wipeG g vs)[i]? = g[i]?
  | [], _ => rfl
  | v :: vs, h => by
    have h1 : v ≠ i := fun e => h (by rw [e]; exact List.mem_cons_self)
    have h2 : i ∉ vs := fun m => h (List.mem_cons_of_mem _ m)
    unfold wipeG
    rw [List.getElem?_set_ne h1]
    exact wipeG_out h2
theorem Rel.wiped (R : Rel Z B Hs ρ σ H s) {vs : List Nat} (h0 : 0 ∉ vs) : Rel Z B Hs ρ (wipe σ vs) H (s.wipe vs) :=
  R.forget (by rw [wipe_length, wipeG_length]; exact R.glen) (fun _ _ => ⟨wipe_out h0, wipeG_out h0⟩) fun i x e => by
    rcases wipeG_get e with h | ⟨h1, h2⟩
    · exact .inl h
    · exact .inr ⟨h1, wipe_out h2⟩
theorem wipe_eq {σ σ' : St} {vs ws : List Nat} (o : Off ws σ σ') (hw : ∀ j ∈ ws, j ∈ vs) : wipe σ' vs = wipe σ vs := by
  have hl := o.1
  have key : ∀ (vs : List Nat) (j : Nat), j ∈ vs → (wipe σ' vs)[j]? = (wipe σ vs)[j]? := by
    intro vs
    induction vs with
    | nil => intro j h; cases h
    | cons v vs ih =>
      intro j h
      unfold wipe
      by_cases q : v = j
      · subst q
        by_cases z : v < σ.length
        · rw [List.getElem?_set_self (by rw [wipe_length, hl]; exact z), List.getElem?_set_self (by rw [wipe_length]; exact z)]
        · rw [List.getElem?_eq_none (by rw [List.length_set, wipe_length, hl]; omega), List.getElem?_eq_none (by rw [List.length_set, wipe_length]; omega)]
      · rw [List.getElem?_set_ne q, List.getElem?_set_ne q]
        rcases List.mem_cons.mp h with z | z
        · exact absurd z.symm q
        · exact ih j z
  refine List.ext_getElem? fun j => ?_
  by_cases q : j ∈ vs
  · exact key vs j q
  · rw [wipe_out q, wipe_out q]
    exact o.2 j fun z => q (hw j z)
theorem wipe_wipe {σ : St} {vs : List Nat} : wipe (wipe σ vs) vs = wipe σ vs := wipe_eq (ws := vs) ⟨wipe_length σ vs, fun j hj => wipe_out hj⟩ (fun _ h => h)
/-- behind the block the def's own slots of these names stand as they stood (a local object among them is forgotten) -/
def backG (vs : List Nat) (g0 g : List Slot) : List Slot := g.mapIdx fun i x => if vs.contains i = true then (match g0[i]? with
  | some (.val t) => .val t
  | _ => .un) else x

@[simp] def oneC (g : T → M Unit) (t : M Bool) (e : M T) (vs : List Nat) (k : List T → M (List T)) (x : T) (acc : List T) : M (List T) :=
  TL.bnd (g x) fun _ => TL.bnd t fun b => if b = true then TL.bnd e fun y => fun s => if fits (acc.length + 1) = true then k (acc ++ [y]) (s.wipe vs) else .stuck else fun s => k acc (s.wipe vs)
@[simp] def cLcL (g : T → M Unit) (t : M Bool) (e : M T) (vs : List Nat) : List T → List T → M (List T)
  | [], acc => ret acc
  | x :: xs, acc => oneC g t e vs (cLcL g t e vs xs) x acc
def cLcC (n : Nat) (g : T → M Unit) (t : M Bool) (e : M T) (vs : List Nat) : Nat → Nat → List T → M (List T)
  | 0, _, _ => stk
  | f + 1, i, acc => fun s => match s.c[n]? with
    | some (some (.lst us)) => (match us[i]? with
      | some x => oneC g t e vs (cLcC n g t e vs f (i + 1)) x acc s
      | none => .ok acc s)
    | _ => .stuck
@[simp] def cLcS (g : T → M Unit) (t : M Bool) (e : M T) (vs : List Nat) : Src → M (List T)
  | .its ts => cLcL g t e vs ts []
  | .cel n => cLcC n g t e vs (sizeLine + 2) 0 []
@[simp] def endC (vs : List Nat) (g0 : List Slot) : Out (List T) → Out T
  | .ok ts s => .ok (.lst ts) ⟨backG vs g0 s.g, s.c⟩
  | .exc _ _ _ => .stuck
  | .stuck => .stuck
@[simp] def cLc (c : M Src) (g : T → M Unit) (t : M Bool) (e : M T) (vs : List Nat) : M T := TL.bnd c fun src => fun s => endC vs s.g (cLcS g t e vs src (s.wipe vs))

/-- a loose object is written -/
theorem Rel.writeLoose {p : Addr} {t u : T} {o : HO} (R : Rel Z B Hs ρ σ H s) (l : Loose Z B Hs ρ σ H s p t) (hu : ∀ Hx : Hp, Hx p = some o → CRep Z Hs ρ Hx p u) : Rel Z B Hs ρ σ (upd H p o) s ∧ Loose Z B Hs ρ σ (upd H p o) s p u := by
  have other : ∀ (a : Addr), a ≠ p → ∀ x, H a = some x → upd H p o a = some x := fun a h x e => by rw [upd_ne h]; exact e
  refine ⟨⟨⟨fun a x e => other a (fun z => by subst z; rw [l.hs] at e; cases e) x (R.rg.sub a x e), R.rg.len, R.rg.nd, R.rg.off, fun n a w e1 e2 => ?_, fun a ha => ?_⟩, ⟨R.ex.mono, R.ex.pre, fun a x e hn => other a (fun z => by subst z; rw [l.hb] at e; cases e) x (R.ex.frame a x e hn), R.ex.freshS, R.ex.freshR⟩, R.glen, R.val, fun i w e => ?_, R.ownd, R.me⟩, l.hs, l.hr, l.hb, hu _ upd_same, l.no⟩
  · exact (R.rg.cell n a w e1 e2).mono .refl (List.prefix_refl _) (other a fun z => by subst z; exact l.hr (List.mem_of_getElem? e1))
  · obtain ⟨x, e⟩ := R.rg.has a ha
    exact ⟨x, other a (fun z => by subst z; exact l.hr ha) x e⟩
  · obtain ⟨a, h1, h2, h3, h4, h5⟩ := R.own i w e
    exact ⟨a, h1, h2, h3, h4, h5.mono .refl (List.prefix_refl _) (other a fun z => by subst z; exact l.no i w e h1)⟩
theorem Loose.wiped {p : Addr} {t : T} (l : Loose Z B Hs ρ σ H s p t) (vs : List Nat) : Loose Z B Hs ρ (wipe σ vs) H (s.wipe vs) p t :=
  ⟨l.hs, l.hr, l.hb, l.rep, fun i u e q => by
    rcases wipeG_get e with h | ⟨h1, h2⟩
    · cases h
    · rw [wipe_out h2] at q
      exact l.no i u h1 q⟩
/-- what holds between the turns of a comprehension -/
def LcI (Z : Sg) (Bt : B0) (σw : St) (D : Addr) (good : List T → S → Prop) (H : Hp) : Prop := ∃ acc Hs ρ s, Rel Z Bt Hs ρ σw H s ∧ Loose Z Bt Hs ρ σw H s D (.lst acc) ∧ good acc s
theorem lc_turn {Bt : B0} {D : Addr} {g : T → M Unit} {t : M Bool} {e : M T} {vs ws : List Nat} {k : List T → M (List T)} {x : T} {xv : V} {acc : List T} {vsA : List V} {good : List T → S → Prop} {J : It} {src : Src} {i : Nat}
    (h0 : 0 ∉ vs) (hw : ∀ j ∈ ws, j ∈ vs) (hb : Bt.Hs D = none) (hr : D ∉ Bt.ρ) (hB : Bt.H D = none)
    (R : Rel Z (Bt.hold D (.lst vsA)) Hs ρ (wipe σ vs) H s) (ha : RepL Z Hs ρ acc vsA) (hz : acc.length ≤ sizeLine) (hx : Rep Z Hs ρ x xv)
    (q : match oneC g t e vs k x acc s with
      | .ok ts s' => good ts s'
      | _ => False) :
    (∃ B, tG Z B W0 ws g xv (wipe σ vs) H fun σ2 H2 => wipe σ2 vs = wipe σ vs ∧ ∃ B, tBo Z B W0 t σ2 H2 fun b H3 =>
      if b = true then (∃ B, tV Z B W0 e σ2 H3 fun y H4 => ∃ acc, H4 D = some (.lst acc) ∧ acc.length < sizeLine ∧ LcI Z Bt (wipe σ vs) D (fun acc s => match k acc s with
      | .ok ts s' => good ts s'
      | _ => False) (upd H4 D (.lst (acc ++ [y])))) else LcI Z Bt (wipe σ vs) D (fun acc s => match k acc s with
      | .ok ts s' => good ts s'
      | _ => False) H3) := by
  refine ⟨_, Hs, ρ, s, x, R, hx, ?_⟩
  simp only [oneC, TL.bnd] at q
  cases qg : g x s with
  | stuck => rw [qg] at q; exact q
  | exc c fs s1 => rw [qg] at q; exact q.elim
  | ok u s1 =>
    rw [qg] at q
    simp only [Out.bind] at q
    intro σ1 H1 Hs1 ρ1 R1 m1 p1 o1
    have ew : wipe σ1 vs = wipe σ vs := (wipe_eq (vs := vs) o1 hw).trans wipe_wipe
    refine ⟨ew, _, Hs1, ρ1, s1, R1, ?_⟩
    simp only [TL.bnd] at q
    cases qt : t s1 with
    | stuck => rw [qt] at q; exact q
    | exc c fs s2 => rw [qt] at q; exact q.elim
    | ok b s2 =>
      rw [qt] at q
      simp only [Out.bind] at q
      intro H2 Hs2 ρ2 R2 m2 p2
      cases b with
      | false =>
        rw [if_neg Bool.false_ne_true] at q ⊢
        obtain ⟨R3, h1, h2, h3, h4⟩ := R2.ofHold hB hb hr
        have l3 : Loose Z Bt Hs2 ρ2 σ1 H2 s2 D (.lst acc) := ⟨h2, h3, hB, ⟨vsA, h1, ha.mono (m1.trans m2) (p1.trans p2), hz⟩, h4⟩
        exact ⟨acc, Hs2, ρ2, s2.wipe vs, by rw [← ew]; exact R3.wiped h0, by rw [← ew]; exact l3.wiped vs, q⟩
      | true =>
        rw [if_pos rfl] at q ⊢
        refine ⟨_, Hs2, ρ2, s2, R2, ?_⟩
        simp only [TL.bnd] at q
        cases qe : e s2 with
        | stuck => rw [qe] at q; exact q
        | exc c fs s3 => rw [qe] at q; exact q.elim
        | ok y s3 =>
          rw [qe] at q
          simp only [Out.bind] at q
          intro H3 Hs3 ρ3 R3 m3 p3 v hv
          by_cases hf : fits (acc.length + 1) = true
          · rw [if_pos hf] at q
            have hf' := fits_le hf
            obtain ⟨R4, h1, h2, h3, h4⟩ := R3.ofHold hB hb hr
            have ha3 := ha.mono ((m1.trans m2).trans m3) ((p1.trans p2).trans p3)
            have l3 : Loose Z Bt Hs3 ρ3 σ1 H3 s3 D (.lst acc) := ⟨h2, h3, hB, ⟨vsA, h1, ha3, hz⟩, h4⟩
            refine ⟨vsA, h1, by rw [ha3.length]; omega, ?_⟩
            obtain ⟨R5, l5⟩ := R4.writeLoose (u := .lst (acc ++ [y])) (o := .lst (vsA ++ [v])) l3 fun Hx hx => ⟨_, hx, ha3.snoc hv, by rw [List.length_append]; exact hf'⟩
            exact ⟨acc ++ [y], Hs3, ρ3, s3.wipe vs, by rw [← ew]; exact R5.wiped h0, by rw [← ew]; exact l5.wiped vs, q⟩
          · rw [if_neg hf] at q
            exact q.elim

theorem Rel.unwipe {g0 : List Slot}  {s0 : S} {Hs0 : Hp} {ρ0 : List Addr} {H0 : Hp} (R0 : Rel Z B Hs0 ρ0 σ H0 s0) {vs : List Nat} (h0 : 0 ∉ vs) (m : Mono Hs0 Hs) (p : ρ0 <+: ρ) (R : Rel Z B Hs ρ (wipe σ vs) H s) : Rel Z B Hs ρ σ H ⟨backG vs s0.g s.g, s.c⟩ ∧
    ∀ (i : Nat) (u : T), (backG vs s0.g s.g)[i]? = some (.own u) → s.g[i]? = some (.own u) ∧ i ∉ vs := by
  have key : ∀ (i : Nat) (x : Slot), (backG vs s0.g s.g)[i]? = some x → (i ∈ vs ∧ (x = .un ∨ ∃ t, x = .val t ∧ s0.g[i]? = some (.val t))) ∨ (i ∉ vs ∧ s.g[i]? = some x) := fun i x e => by
    simp only [backG, List.getElem?_mapIdx] at e
    obtain ⟨y, e1, e2⟩ := Option.map_eq_some_iff.mp e
    by_cases h : vs.contains i = true
    · rw [if_pos h] at e2
      refine .inl ⟨by simpa using h, ?_⟩
      split at e2
      · rename_i t ht
        exact .inr ⟨t, e2.symm, ht⟩
      · exact .inl e2.symm
    · rw [if_neg h] at e2
      exact .inr ⟨by simpa using h, by rw [e1, e2]⟩
  have ow : ∀ (i : Nat) (u : T), (backG vs s0.g s.g)[i]? = some (.own u) → s.g[i]? = some (.own u) ∧ i ∉ vs := fun i u e => by
    rcases key i _ e with ⟨_, h | ⟨t, h, _⟩⟩ | ⟨h1, h2⟩
    · cases h
    · cases h
    · exact ⟨h2, h1⟩
  have gl := R.glen
  rw [wipe_length] at gl
  refine ⟨⟨R.rg, R.ex, by simpa [backG] using gl, fun i t e => ?_, fun i t e => ?_, fun i j t u a e1 e2 e3 e4 => ?_, fun a e => ?_⟩, ow⟩
  · rcases key i _ e with ⟨_, h | ⟨t', h, h2⟩⟩ | ⟨h1, h2⟩
    · cases h
    · cases h
      obtain ⟨v, q1, q2⟩ := R0.val i _ h2
      exact ⟨v, q1, q2.mono m p⟩
    · obtain ⟨v, q1, q2⟩ := R.val i _ h2
      rw [wipe_out h1] at q1
      exact ⟨v, q1, q2⟩
  · obtain ⟨h1, h2⟩ := ow i t e
    have := R.own i t h1
    rw [wipe_out h2] at this
    exact this
  · obtain ⟨h1, h2⟩ := ow i t e1
    obtain ⟨h3, h4⟩ := ow j u e2
    exact R.ownd i j t u a h1 h3 (by rw [wipe_out h2]; exact e3) (by rw [wipe_out h4]; exact e4)
  · obtain ⟨h1, c, fs, h2⟩ := R.me a e
    rw [wipe_out h0] at h1
    refine ⟨h1, c, fs, ?_⟩
    have : vs.contains 0 = false := by simpa using h0
    simp only [backG, List.getElem?_mapIdx, h2, this, Option.map_some, if_neg Bool.false_ne_true]
theorem lc_read {g : T → M Unit} {t : M Bool} {e : M T} {vs ws : List Nat} {J : It} {src : Src} {D : Addr} {Q : VK} (h0 : 0 ∉ vs) (hw : ∀ j ∈ ws, j ∈ vs) (R1 : Rel Z B Hs ρ σ H s) (wk : Wk Z Hs ρ J src) (hD : H D = none)
    (q : FIN Z B W Hs ρ σ (fun t Hs' ρ' H' s' => ∀ p H2, Rel Z B Hs' ρ' σ H2 s' → Loose Z B Hs' ρ' σ H2 s' p t → Q (.ref p) H2) (endC vs s.g (cLcS g t e vs src (s.wipe vs)))) :
    ∃ Wi : Nat → Nat → Hp → Prop, (∃ m, Wi 0 m (upd H D (.lst []))) ∧ ∀ i m H, Wi i m H →
      (J.stop i H ∧ Q (.ref D) H) ∨ (J.go i H ∧ ∃ Nx : Hp → Prop, (∀ H', Nx H' → ∃ m', m' < m ∧ Wi (i + 1) m' H') ∧ ∀ x H', J.yld i H x H' →
        (∃ B, tG Z B W0 ws g x (wipe σ vs) H' fun σ2 H2 => wipe σ2 vs = wipe σ vs ∧ ∃ B, tBo Z B W0 t σ2 H2 fun b H3 =>
          if b = true then (∃ B, tV Z B W0 e σ2 H3 fun y H4 => ∃ acc, H4 D = some (.lst acc) ∧ acc.length < sizeLine ∧ Nx (upd H4 D (.lst (acc ++ [y])))) else Nx H3)) := by
  obtain ⟨d1, d2, d3⟩ := R1.no_of hD
  have hr : D ∉ (B.at Hs ρ).ρ := d3
  -- the end, from the trees and the state
  let good : List T → S → Prop := fun ts s' => FIN Z B W Hs ρ σ (fun t Hs' ρ' H' s' => ∀ p H2, Rel Z B Hs' ρ' σ H2 s' → Loose Z B Hs' ρ' σ H2 s' p t → Q (.ref p) H2) (.ok (.lst ts) ⟨backG vs s.g s'.g, s'.c⟩)
  have fin : ∀ {acc : List T} {H2 : Hp} {Hs2 ρ2 s2}, Rel Z (B.at Hs ρ) Hs2 ρ2 (wipe σ vs) H2 s2 → Loose Z (B.at Hs ρ) Hs2 ρ2 (wipe σ vs) H2 s2 D (.lst acc) → good acc s2 → Q (.ref D) H2 := fun {acc H2 Hs2 ρ2 s2} R2 l2 gd => by
    obtain ⟨R3, ow⟩ := (Rel.unwipe (g0 := s.g) R1 h0 R2.ex.mono R2.ex.pre (R1.ofAt R2))
    exact gd.at R3 R2.ex.mono R2.ex.pre D H2 R3 ⟨l2.hs, l2.hr, l2.hb, l2.rep, fun i u e z => by
      obtain ⟨h1, h2⟩ := ow i u e
      exact l2.no i u h1 (by rw [wipe_out h2]; exact z)⟩
  have gd0 : match cLcS g t e vs src (s.wipe vs) with
      | .ok ts s' => good ts s'
      | _ => False := by
    cases qc : cLcS g t e vs src (s.wipe vs) with
    | ok ts s' => rw [qc] at q; exact q
    | exc c fs s' => rw [qc] at q; exact q
    | stuck => rw [qc] at q; exact q
  have start : Rel Z (B.at Hs ρ) Hs ρ (wipe σ vs) (upd H D (.lst [])) (s.wipe vs) ∧ Loose Z (B.at Hs ρ) Hs ρ (wipe σ vs) (upd H D (.lst [])) (s.wipe vs) D (.lst []) :=
    ((R1.toAt .refl (List.prefix_refl _) R1).wiped h0).newLoose (o := .lst []) (t := .lst []) hD fun Hx hx => ⟨[], hx, .nil, Nat.zero_le _⟩
  cases src with
  | its ts =>
    refine ⟨fun i m H2 => m = ts.length - i ∧ i ≤ ts.length ∧ LcI Z (B.at Hs ρ) (wipe σ vs) D (fun acc s => match cLcL g t e vs (ts.drop i) acc s with
      | .ok ts s' => good ts s'
      | _ => False) H2, ⟨_, rfl, Nat.zero_le _, [], Hs, ρ, _, start.1, start.2, by simpa using gd0⟩, ?_⟩
    rintro i m H2 ⟨rfl, hi, acc, Hs2, ρ2, s2, R2, l2, gd⟩
    by_cases hlt : i < ts.length
    · have ei : Src.item (.its ts) i s2 = some (some ts[i]) := by simp [Src.item, hlt]
      rw [List.drop_eq_getElem_cons hlt] at gd
      obtain ⟨vsA, ho, ha, hz⟩ := l2.rep
      have R2h := R2.toHold l2 ho
      refine .inr ⟨wk.go _ Hs2 ρ2 _ H2 s2 i _ R2.ex.mono R2.ex.pre R2 ei, _, fun H' h => ⟨ts.length - (i + 1), by omega, rfl, hlt, h⟩, fun x H' y => ?_⟩
      obtain ⟨Hs3, m3, R3, hx⟩ := wk.yld _ Hs2 ρ2 _ H2 s2 i _ x H' R2.ex.mono R2.ex.pre R2h ei y
      exact lc_turn (J := J) (src := .its ts) (i := i) h0 hw d2 hr d1 R3 (ha.mono m3 (List.prefix_refl _)) hz hx gd
    · have e : i = ts.length := by omega
      subst e
      have ei : Src.item (.its ts) ts.length s2 = some none := by simp [Src.item]
      rw [List.drop_length] at gd
      exact .inl ⟨wk.stop _ Hs2 ρ2 _ H2 s2 _ R2.ex.mono R2.ex.pre R2 ei, fin R2 l2 gd⟩
  | cel n =>
    refine ⟨fun i m H2 => LcI Z (B.at Hs ρ) (wipe σ vs) D (fun acc s => match cLcC n g t e vs m i acc s with
      | .ok ts s' => good ts s'
      | _ => False) H2, ⟨_, [], Hs, ρ, _, start.1, start.2, gd0⟩, ?_⟩
    rintro i m H2 ⟨acc, Hs2, ρ2, s2, R2, l2, gd⟩
    cases m with
    | zero => exact gd.elim
    | succ m =>
      simp only [cLcC] at gd
      cases hu : s2.c[n]? with
      | none => rw [hu] at gd; exact gd.elim
      | some o =>
        rw [hu] at gd
        match o, gd with
        | some (.lst us), gd =>
          cases ht : us[i]? with
          | none =>
            have ei : Src.item (.cel n) i s2 = some none := by simp [Src.item, hu, ht]
            simp only [ht] at gd
            exact .inl ⟨wk.stop _ Hs2 ρ2 _ H2 s2 _ R2.ex.mono R2.ex.pre R2 ei, fin R2 l2 gd⟩
          | some x =>
            have ei : Src.item (.cel n) i s2 = some (some x) := by simp [Src.item, hu, ht]
            simp only [ht] at gd
            obtain ⟨vsA, ho, ha, hz⟩ := l2.rep
            have R2h := R2.toHold l2 ho
            refine .inr ⟨wk.go _ Hs2 ρ2 _ H2 s2 i _ R2.ex.mono R2.ex.pre R2 ei, _, fun H' h => ⟨m, Nat.lt_succ_self _, h⟩, fun v H' y => ?_⟩
            obtain ⟨Hs3, m3, R3, hx⟩ := wk.yld _ Hs2 ρ2 _ H2 s2 i _ v H' R2.ex.mono R2.ex.pre R2h ei y
            exact lc_turn (J := J) (src := .cel n) (i := i) h0 hw d2 hr d1 R3 (ha.mono m3 (List.prefix_refl _)) hz hx gd
        | none, gd => exact gd.elim
        | some .non, gd => exact gd.elim
        | some (.bl _), gd => exact gd.elim
        | some (.int _), gd => exact gd.elim
        | some (.str _), gd => exact gd.elim
        | some (.tup _), gd => exact gd.elim
        | some (.dK _), gd => exact gd.elim
        | some (.dT _), gd => exact gd.elim
        | some (.obj _ _), gd => exact gd.elim
        | some (.exn _ _), gd => exact gd.elim
        | some (.ty _), gd => exact gd.elim
        | some (.cell _), gd => exact gd.elim

def EC (X : Cx) (Z : Sg) (W : WX) (es : List Expr) (c : M Bool) : Prop := ∀ B, PTs X es (tBo Z B W c)
theorem ec_nil : EC X Z W [] (ret true) := fun B => ⟨fun pins s σ H Q I ⟨Hs, ρ, s', R, f⟩ => pts_nil.run pins s σ H Q I (f.here R)⟩
theorem ec_one {c : M Bool} (h : EB X Z W e c) : EC X Z W [e] c := fun B => pts_one (h B)
section
variable {elt tg iter : Expr} {ifs : List Expr} {scope : Scope} {own : List (Str × Nat)} {ws : List Nat} {c : M Src} {g : T → M Unit} {t : M Bool} {el : M T}
theorem ef_lc (hc : X.calm = true) (hN : X.N.Nodup) (hi : SI X Z W tg iter c) (ok : BlkOk X.N X.env.scope scope own)
    (hg : ∀ (s : Shared) (H : Hp) (C : Addr) (cl : List (Str × Addr)) (fp : List Addr), GT (X.blk s H scope (compEnvC scope cl C X.env) fp) Z W0 tg ws g) (ht : ∀ (s : Shared) (H : Hp) (C : Addr) (cl : List (Str × Addr)) (fp : List Addr), EC (X.blk s H scope (compEnvC scope cl C X.env) fp) Z W0 ifs t)
    (he : ∀ (s : Shared) (H : Hp) (C : Addr) (cl : List (Str × Addr)) (fp : List Addr), EV (X.blk s H scope (compEnvC scope cl C X.env) fp) Z W0 elt el) (hw : ∀ j ∈ ws, j ∈ own.map (·.2) := by decide) (h0 : 0 ∉ own.map (·.2) := by decide) (hs : ∀ x, foldedSetIterable iter X.env x = pure x := by intro _; rfl) :
    EF X Z W (.ListComp elt [⟨tg, iter, ifs, 0⟩] scope pos) (cLc c g t el (own.map (·.2))) := fun B =>
  (pe_lc hc hN (hi B) ok (fun s H C cl fp => L2.PG.ex (hg s H C cl fp)) (fun s H C cl fp => L2.PTs.ex (ht s H C cl fp)) (fun s H C cl fp => L2.PE.ex (he s H C cl fp)) hs).wk fun σ H Q ⟨Hs, ρ, s, R, f⟩ =>
    ⟨Hs, ρ, s, R, f.bnd.imp fun src Hs1 ρ1 H1 s1 R1 _ _ q J wk D hD => lc_read h0 hw R1 wk hD q⟩
theorem ss_setLc {i : Nat} {y : Str} {py spos : Pos} (hc : X.calm = true) (hN : X.N.Nodup) (hy : X.N[i]? = some y) (hyl : X.env.scope.names.lookup y = some .local)
    (hsw : swapsWith (.ListComp elt [⟨tg, iter, ifs, 0⟩] scope pos) (some (.Name y py)) spos.line X.env = pure true) (hi : SI X Z W tg iter c) (ok : BlkOk X.N X.env.scope scope own)
    (hg : ∀ (s : Shared) (H : Hp) (C : Addr) (cl : List (Str × Addr)) (fp : List Addr), GT (X.blk s H scope (compEnvC scope cl C X.env) fp) Z W0 tg ws g) (ht : ∀ (s : Shared) (H : Hp) (C : Addr) (cl : List (Str × Addr)) (fp : List Addr), EC (X.blk s H scope (compEnvC scope cl C X.env) fp) Z W0 ifs t)
    (he : ∀ (s : Shared) (H : Hp) (C : Addr) (cl : List (Str × Addr)) (fp : List Addr), EV (X.blk s H scope (compEnvC scope cl C X.env) fp) Z W0 elt el) (hw : ∀ j ∈ ws, j ∈ own.map (·.2) := by decide) (h0 : 0 ∉ own.map (·.2) := by decide) (hs : ∀ x, foldedSetIterable iter X.env x = pure x := by intro _; rfl) :
    SS X Z W (.Assign [.Name y py] (.ListComp elt [⟨tg, iter, ifs, 0⟩] scope pos) spos) (cOwn i (cLc c g t el (own.map (·.2)))) := fun B =>
  (ps_setLc hc hN hy hyl hsw (hi B) ok (fun s H C cl fp => L2.PG.ex (hg s H C cl fp)) (fun s H C cl fp => L2.PTs.ex (ht s H C cl fp)) (fun s H C cl fp => L2.PE.ex (he s H C cl fp)) hs).wk fun D σ H ⟨Hs, ρ, s, R, f⟩ => by
    have f := FIS.bnd (Hs := Hs) (ρ := ρ) (σ := σ) f
    refine ⟨Hs, ρ, s, R, f.bnd.imp fun src Hs1 ρ1 H1 s1 R1 _ _ q J wk L hL => lc_read (W := W) (Q := fun x H1 => gName i x σ H1 D.nx) h0 hw R1 wk hL (q.imp fun t Hs2 ρ2 H2 s2 R2 _ _ q p H3 R3 l => by
      unfold put at q
      by_cases h0 : ok0 i s2 = true
      · rw [if_pos h0] at q
        exact q _ H3 Hs2 ρ2 (R3.setOwn h0 l)
      · rw [if_neg h0] at q
        exact q.elim)⟩
end
end TL
namespace TL
open PySem PySem.Spec L2
open PyProof.Rows hiding St
variable {Z : Sg} {B : B0} {W : WX} {Hs Hs' Hs2 : Hp} {ρ ρ' ρ2 : List Addr} {σ : St} {H H' H2 : Hp} {s : S}
variable {X : Cx} {e e1 e2 e3 : Expr} {es : List Expr} {pos : Pos} {st : Stmt} {sts : List Stmt}

/-- what a def gives -/
inductive OutF where
  | ok (t : T) (c : List (Option T))
  | exc (k : Nat) (fs : List (Nat × T)) (c : List (Option T))
  | stuck
abbrev Fn := List T → List (Option T) → OutF
def spM (Z : Sg) (n : Nat) (f : Fn) : Sp := fun vs H Q E => ∃ Hs ρ c ts, RG Z Hs ρ H c ∧ RepL Z Hs ρ ts vs ∧ ts.length = n ∧ match f ts c with
  | .ok t c' => ∀ v H' Hs' ρ', RG Z Hs' ρ' H' c' → EX Hs ρ H Hs' ρ' H' → Rep Z Hs' ρ' t v → Q v H'
  | .exc k fs c' => ∀ d H' Hs' ρ', RG Z Hs' ρ' H' c' → EX Hs ρ H Hs' ρ' H' → ExF Z Hs' ρ' H' d fs → E (.ref (Z.cls k)) d H'
  | .stuck => False
/-- the body of a def, run at its arguments -/
def runF (N : Nat) (b : M Fl) : Fn := fun ts c => match b ⟨ts.map .val ++ List.replicate (N - ts.length) .un, c⟩ with
  | .ok (.rt t) s => .ok t s.c
  | .ok .nx s => .ok .non s.c
  | .ok _ _ => .stuck
  | .exc k fs s => .exc k fs s.c
  | .stuck => .stuck
theorem start_rel {N : List Str} {ts : List T} {vs : List V} {c : List (Option T)} (g : RG Z Hs ρ H c) (r : RepL Z Hs ρ ts vs) : Rel Z ⟨Hs, ρ, H, none⟩ Hs ρ (L2.start N vs) H ⟨ts.map .val ++ List.replicate (N.length - ts.length) .un, c⟩ := by
  have hv : ∀ (i : Nat) (x : Slot), (ts.map Slot.val ++ List.replicate (N.length - ts.length) Slot.un)[i]? = some x → x = .un ∨ ∃ t, x = .val t ∧ ts[i]? = some t := fun i x e => by
    by_cases hi : i < ts.length
    · rw [List.getElem?_append_left (by simpa using hi), List.getElem?_map] at e
      obtain ⟨t, e1, e2⟩ := Option.map_eq_some_iff.mp e
      exact .inr ⟨t, e2.symm, e1⟩
    · rw [List.getElem?_append_right (by simpa using hi), List.getElem?_replicate] at e
      split at e
      · cases e; exact .inl rfl
      · cases e
  refine ⟨g, .refl, ?_, fun i t e => ?_, fun i t e => ?_, fun i j t u a e _ _ _ => ?_, fun a e => nomatch e⟩
  · simp [L2.start, r.length]
  · rcases hv i _ e with h | ⟨u, h, h2⟩
    · cases h
    · cases h
      obtain ⟨v, q1, q2⟩ := r.get h2
      refine ⟨v, ?_, q2⟩
      show (vs.map some ++ List.replicate (N.length - vs.length) none)[i]? = _
      rw [List.getElem?_append_left (by rw [List.length_map]; exact (List.getElem?_eq_some_iff.mp q1).1), List.getElem?_map, q1]
      rfl
  · rcases hv i _ e with h | ⟨u, h, h2⟩ <;> cases h
  · rcases hv i _ e with h | ⟨u, h, h2⟩ <;> cases h
section
variable {P : Program} {w : World} {K : PySem.W.Frag} {mg : Str → Option Value} {base : Heap} {x qual : Str} {params : Arguments} {body : List Stmt} {scope : Scope} {dvs : List V} {kws : List (Str × V)} {f : Addr} {fd : FuncData} {N ps : List Str} {k n : Nat} {b : M Fl}
/-- the wish of a def's body: what leaves it -/
abbrev WB (E : XK) : WX := fun cls d _ H => E cls d H
/-- a def keeps its promise -/
theorem okF (F : FunD K x qual params body scope dvs kws f fd) (S : FnScope N ps scope) (hn : n = ps.length)
    (hb : ∀ (cdv : Value) (A : Around) (outer : List Env) (s : Shared) (H : Hp) (E : XK), Room k (A.deeper (envOfC qual scope s.heap.objs.size f cdv)) → SB (cxOf (L2.CX P w) P w K mg base N qual scope f cdv A outer s H E) Z (WB E) body b) :
    FnOk P w K mg base (L2.CX P w) (k + 1) f fd ps (spM Z n (runF N.length b)) :=
  F.ok S (fun vs H Q E ⟨Hs, ρ, c, ts, _, r, hl, _⟩ => by rw [r.length, hl, hn]) fun cdv A outer s H vs Q E hr ⟨Hs, ρ, c, ts, g, r, hl, q⟩ =>
    ⟨tS Z ⟨Hs, ρ, H, none⟩ (WB E) b, hb cdv A outer s H E hr _, Hs, ρ, _, start_rel g r, by
      simp only [runF] at q
      cases qb : b ⟨ts.map .val ++ List.replicate (N.length - ts.length) .un, c⟩ with
      | stuck => rw [qb] at q; exact q
      | exc j fs s1 =>
        rw [qb] at q
        exact fun d σ' H' Hs' ρ' R x => q d H' Hs' ρ' R.rg R.ex x
      | ok fl s1 =>
        rw [qb] at q
        cases fl with
        | nx => exact fun σ' H' Hs' ρ' R => q .non H' Hs' ρ' R.rg R.ex (by simp only [Rep])
        | rt t => exact fun v σ' H' Hs' ρ' R hv => q v H' Hs' ρ' R.rg R.ex hv
        | bk => exact q.elim
        | ct => exact q.elim⟩
end

/-- a def's function at trees -/
def app (f : Fn) (ts : List T) : M T := fun s => match f ts s.c with
  | .ok t c => .ok t ⟨s.g, c⟩
  | .exc k fs c => .exc k fs ⟨s.g, c⟩
  | .stuck => .stuck
theorem app_read {f : Fn} {n : Nat} {ts : List T} {vs : List V} {Q : VK} (R : Rel Z B Hs ρ σ H s) (r : RepL Z Hs ρ ts vs) (hl : ts.length = n) (q : FIN Z B W Hs ρ σ (fun t Hs' ρ' H' _ => ∀ v, Rep Z Hs' ρ' t v → Q v H') (app f ts s)) : spM Z n f vs H Q (WE W σ) := by
  refine ⟨Hs, ρ, s.c, ts, R.rg, r, hl, ?_⟩
  unfold app at q
  cases qf : f ts s.c with
  | stuck => rw [qf] at q; exact q
  | exc k fs c => rw [qf] at q; exact fun d H' Hs' ρ' g x y => q d H' Hs' ρ' (R.call g x) x.mono x.pre y
  | ok t c => rw [qf] at q; exact fun v H' Hs' ρ' g x hv => q.at (R.call g x) x.mono x.pre v hv
section
variable {k n : Nat} {f : Addr} {fd : FuncData} {ps : List Str} {dvs : List V} {ds : List Value} {x : Str} {p apos : Pos} {fn : Fn} {dts : List T} {cs : M (List T)} {m : Str} {o : Expr} {C : Addr}
@[simp] def cCall (f : Fn) (n : Nat) (dts : List T) (cs : M (List T)) : M T := TL.bnd cs fun ts => if (ts ++ dts).length = n then app f (ts ++ dts) else stk
theorem call_in {ts : List T} {vs : List V} {Q : VK} (R : Rel Z B Hs ρ σ H s) (r : RepL Z Hs ρ ts vs) (hd : ∀ Hs ρ, RepL Z Hs ρ dts dvs)
    (q : FIN Z B W Hs ρ σ (fun t Hs' ρ' H' _ => ∀ v, Rep Z Hs' ρ' t v → Q v H') ((if (ts ++ dts).length = n then app fn (ts ++ dts) else stk) s)) : spM Z n fn (vs ++ dvs) H Q (WE W σ) := by
  by_cases hl : (ts ++ dts).length = n
  · rw [if_pos hl] at q
    exact app_read R (r.append (hd _ _)) hl q
  · rw [if_neg hl] at q
    exact q.elim
/-- f(e, ..) -/
theorem ev_call (tk : Takes X W) (F : FnOk X.prog X.w X.K X.mg X.base (L2.CX X.prog X.w) k f fd ps (spM Z n fn)) (hr : Room k X.A) (hg : Gl X x) (hm : X.mg x = some (.ref f)) (hk : PySem.W.keepIn X.K (.ref f) = true) (hb : Binds X.K fd ps ds) (hd : Vals dvs ds) (hd2 : ∀ Hs ρ, RepL Z Hs ρ dts dvs)
    (ha : EA X Z W (e :: es) cs) (hdb : (x == ("__debug__" : Str)) = false := by decide) (he : starEach (e :: es) X.env = (false, eval e X.env) :: starEach es X.env := by rfl) (hpl : (backTo pos (starEach es X.env)).any (·.1) = false := by rfl) :
    EV X Z W (.Call (.Name x p) (e :: es) [] pos) (cCall fn n dts cs) := fun B =>
  (pe_callSD (E := WE W) F hr hg hm hk hb hd (passAt tk) (ha B) hdb he hpl).wk fun σ H Q ⟨Hs, ρ, s, R, f⟩ => ⟨Hs, ρ, s, R, f.bnd.imp fun ts Hs1 ρ1 H1 s1 R1 _ _ q vs hv => call_in R1 hv hd2 q⟩
/-- f() -/
theorem ev_call0 (tk : Takes X W) (F : FnOk X.prog X.w X.K X.mg X.base (L2.CX X.prog X.w) k f fd ps (spM Z n fn)) (hr : Room k X.A) (hg : Gl X x) (hm : X.mg x = some (.ref f)) (hk : PySem.W.keepIn X.K (.ref f) = true) (hb : Binds X.K fd ps ds) (hd : Vals dvs ds) (hd2 : ∀ Hs ρ, RepL Z Hs ρ dts dvs)
    (hdb : (x == ("__debug__" : Str)) = false := by decide) :
    EV X Z W (.Call (.Name x p) [] [] pos) (cCall fn n dts cNil) := fun B => by
  refine ⟨fun pins s σ H Q I h => ?_⟩
  obtain ⟨Hs, ρ, s1, R, f1⟩ := h
  refine wpAny_Call_Name_kw (ld_glob I hg hm ?_ hdb)
  refine PySem.W.callWith_K0 I.kIn hk ?_
  exact run_fnSD (E := WE W) (us := []) (vs := []) F hr hb hd (passAt tk σ) I .nil (call_in R .nil hd2 (f1.bnd.here R))
/-- o.m(e, ..), o of the class C -/
def cMeth1 (c : Nat) (m : Nat) (f : Fn) (n : Nat) (dts : List T) (o : M T) (cs : M (List T)) : M T := TL.bnd o fun t => fun s => match view t s with
  | some (.obj c' fs) => if c' = c ∧ (fs.lookup m).isNone = true then (TL.bnd cs fun ts => if (t :: ts ++ dts).length = n then app f (t :: ts ++ dts) else stk) s else .stuck
  | _ => .stuck
theorem meth_in {c j : Nat} {co : M T} {cs : M (List T)} {Q : VK} {Rd : V → Hp → List V → Hp → Prop} (hi : ∀ i j, Z.nm i = Z.nm j → i = j) (hC : Z.cls c = C) (hj : Z.nm j = m) (hd : ∀ Hs ρ, RepL Z Hs ρ dts dvs)
    (h : tV Z B W (cMeth1 c j fn n dts co cs) σ H Q) : tV Z B W co σ H fun x H1 => ∃ a dx fs, x = .ref a ∧ H1 a = some (.ins C dx fs) ∧ fs.lookup m = none ∧ tAr Z B W cs σ H1 fun vs H2 => spM Z n fn (x :: (vs ++ dvs)) H2 Q (WE W σ) := by
  obtain ⟨Hs, ρ, s, R, f⟩ := h
  refine ⟨Hs, ρ, s, R, f.bnd.imp fun t Hs1 ρ1 H1 s1 R1 _ _ q v hv => ?_⟩
  cases qv : view t s1 with
  | none => rw [qv] at q; exact q.elim
  | some u =>
    rw [qv] at q
    have vr := R1.view_ok hv qv
    cases u with
    | obj c' fs =>
      by_cases hc : c' = c ∧ (fs.lookup j).isNone = true
      · simp only [if_pos hc] at q
        obtain ⟨rfl, hno⟩ := hc
        obtain ⟨a, dx, us, rfl, h1, h2⟩ := vr
        refine ⟨a, dx, us, rfl, by rw [← hC]; exact h1, ?_, Hs1, ρ1, s1, R1, FIN.imp (FIN.bnd (c := cs) q) fun ts Hs2 ρ2 H2 s2 R2 m p q2 vs hvs => ?_⟩
        · rw [← hj]
          exact (h2.lookup hi).2 (by simpa using hno)
        · have r2 : RepL Z Hs2 ρ2 (t :: ts) (.ref a :: vs) := .cons (hv.mono m p) hvs
          exact call_in R2 r2 hd q2
      · simp only [if_neg hc] at q
        exact q.elim
    | _ => exact q.elim
theorem pe_methSD {sp : Sp} {E : St → XK} {ta : TE} {t : TA} {pl : Sem Bool} (he : PE X o ta) (c : Cls X.K C) (hm : Meth X.K C m f) (F : FnOk X.prog X.w X.K X.mg X.base (L2.CX X.prog X.w) k f fd ps sp) (hr : Room k X.A) (hb : Binds X.K fd ps ds) (hd : Vals dvs ds) (hx : ∀ σ, PassesAt (L2.CX X.prog X.w) X σ (E σ)) (ha : PA X (e :: es) t)
    (hst : starEach (e :: es) X.env = (false, eval e X.env) :: starEach es X.env := by rfl) (hpl : (backTo pos (starEach es X.env)).any (·.1) = false := by rfl)
    (ht : eval (.Call (.Attribute o m apos) (e :: es) [] pos) X.env = (do
      let ov ← eval o X.env
      standAt apos.atName
      let (f, first) ← holding [ov] (getMethod ov m pl)
      callWith pos f first (backTo pos (starEach (e :: es) X.env)) (backToKw pos (keywordEach [] X.env))) := by rfl) :
    PE X (.Call (.Attribute o m apos) (e :: es) [] pos) (fun σ H Q => ta σ H fun x H1 => ∃ a dx fs, x = .ref a ∧ H1 a = some (.ins C dx fs) ∧ fs.lookup m = none ∧ t σ H1 fun vs H2 => sp (x :: (vs ++ dvs)) H2 Q (E σ)) := by
  refine ⟨fun pins s σ H Q I h => ?_⟩
  refine PySem.W.methodCall_KW (pl := pl) (thn (he.run pins s σ H _ I h) fun u s1 ⟨x, H1, I1, rx, a, dx, fs, ex, ea, l, q⟩ => ?_) ht
  subst ex
  obtain rfl : u = Value.ref a := rx
  refine getmeth_ok I1 ea c hm l ?_
  refine PySem.W.callWith_K (first := [.ref a]) (h₀ := X.base) I.ok.mod.kin hm.kp (thn (ha.run pos pins s1 σ H1 _ I1 q) fun us s2 ⟨vs, H2, I2, r, q2⟩ => ⟨I2.kIn, ?_⟩) hst hpl
  exact run_fnSD (us := .ref a :: us) (vs := .ref a :: vs) F hr hb hd (hx σ) I2 (.cons rfl r) q2
theorem pe_meth0SD {sp : Sp} {E : St → XK} {ta : TE} {pl : Sem Bool} (he : PE X o ta) (c : Cls X.K C) (hm : Meth X.K C m f) (F : FnOk X.prog X.w X.K X.mg X.base (L2.CX X.prog X.w) k f fd ps sp) (hr : Room k X.A) (hb : Binds X.K fd ps ds) (hd : Vals dvs ds) (hx : ∀ σ, PassesAt (L2.CX X.prog X.w) X σ (E σ))
    (ht : eval (.Call (.Attribute o m apos) [] [] pos) X.env = (do
      let ov ← eval o X.env
      standAt apos.atName
      let (f, first) ← holding [ov] (getMethod ov m pl)
      callWith pos f first (backTo pos (starEach [] X.env)) (backToKw pos (keywordEach [] X.env))) := by rfl) :
    PE X (.Call (.Attribute o m apos) [] [] pos) (fun σ H Q => ta σ H fun x H1 => ∃ a dx fs, x = .ref a ∧ H1 a = some (.ins C dx fs) ∧ fs.lookup m = none ∧ tNil σ H1 fun vs H2 => sp (x :: (vs ++ dvs)) H2 Q (E σ)) := by
  refine ⟨fun pins s σ H Q I h => ?_⟩
  refine PySem.W.methodCall_KW (pl := pl) (thn (he.run pins s σ H _ I h) fun u s1 ⟨x, H1, I1, rx, a, dx, fs, ex, ea, l, q⟩ => ?_) ht
  subst ex
  obtain rfl : u = Value.ref a := rx
  refine getmeth_ok I1 ea c hm l ?_
  exact PySem.W.callWith_K0 (first := [.ref a]) I1.kIn hm.kp (run_fnSD (us := [.ref a]) (vs := [.ref a]) F hr hb hd (hx σ) I1 (.cons rfl .nil) q)
theorem ev_meth {c j : Nat} {co : M T} {pl : Sem Bool} (tk : Takes X W) (hi : ∀ i j, Z.nm i = Z.nm j → i = j) (hC : Z.cls c = C) (hj : Z.nm j = m) (he : EV X Z W o co) (cl : Cls X.K C) (hm : Meth X.K C m f) (F : FnOk X.prog X.w X.K X.mg X.base (L2.CX X.prog X.w) k f fd ps (spM Z n fn)) (hr : Room k X.A) (hb : Binds X.K fd ps ds) (hd : Vals dvs ds) (hd2 : ∀ Hs ρ, RepL Z Hs ρ dts dvs) (ha : EA X Z W (e :: es) cs)
    (hst : starEach (e :: es) X.env = (false, eval e X.env) :: starEach es X.env := by rfl) (hpl : (backTo pos (starEach es X.env)).any (·.1) = false := by rfl)
    (ht : eval (.Call (.Attribute o m apos) (e :: es) [] pos) X.env = (do
      let ov ← eval o X.env
      standAt apos.atName
      let (f, first) ← holding [ov] (getMethod ov m pl)
      callWith pos f first (backTo pos (starEach (e :: es) X.env)) (backToKw pos (keywordEach [] X.env))) := by rfl) :
    EV X Z W (.Call (.Attribute o m apos) (e :: es) [] pos) (cMeth1 c j fn n dts co cs) := fun B =>
  (pe_methSD (E := WE W) (he B) cl hm F hr hb hd (passAt tk) (ha B) hst hpl ht).wk fun σ H Q h => meth_in (Rd := fun _ _ _ _ => True) hi hC hj hd2 h
theorem ev_meth0 {c j : Nat} {co : M T} {pl : Sem Bool} (tk : Takes X W) (hi : ∀ i j, Z.nm i = Z.nm j → i = j) (hC : Z.cls c = C) (hj : Z.nm j = m) (he : EV X Z W o co) (cl : Cls X.K C) (hm : Meth X.K C m f) (F : FnOk X.prog X.w X.K X.mg X.base (L2.CX X.prog X.w) k f fd ps (spM Z n fn)) (hr : Room k X.A) (hb : Binds X.K fd ps ds) (hd : Vals dvs ds) (hd2 : ∀ Hs ρ, RepL Z Hs ρ dts dvs)
    (ht : eval (.Call (.Attribute o m apos) [] [] pos) X.env = (do
      let ov ← eval o X.env
      standAt apos.atName
      let (f, first) ← holding [ov] (getMethod ov m pl)
      callWith pos f first (backTo pos (starEach [] X.env)) (backToKw pos (keywordEach [] X.env))) := by rfl) :
    EV X Z W (.Call (.Attribute o m apos) [] [] pos) (cMeth1 c j fn n dts co cNil) := fun B =>
  (pe_meth0SD (E := WE W) (he B) cl hm F hr hb hd (passAt tk) ht).wk fun σ H Q h => by
    have := meth_in (Rd := fun _ _ _ _ => True) hi hC hj hd2 h
    obtain ⟨Hs, ρ, s, R, f⟩ := this
    refine ⟨Hs, ρ, s, R, f.imp fun t Hs1 ρ1 H1 s1 R1 _ _ q v hv => ?_⟩
    obtain ⟨a, dx, fs, h1, h2, h3, Hs3, ρ3, s3, R3, f3⟩ := q v hv
    exact ⟨a, dx, fs, h1, h2, h3, f3.here R3 [] .nil⟩
/-- one of two readings: the first that does not get stuck -/
@[simp] def alt {α : Type} (a b : M α) : M α := fun s => match a s with
  | .stuck => b s
  | o => o
theorem FIN.alt {α : Type} {P : α → Hp → List Addr → Hp → S → Prop} {a b : M α} (h : FIN Z B W Hs ρ σ P (TL.alt a b s)) : FIN Z B W Hs ρ σ P (a s) ∨ FIN Z B W Hs ρ σ P (b s) := by
  unfold TL.alt at h
  cases q : a s with
  | stuck => rw [q] at h; exact .inr h
  | ok x s1 => rw [q] at h; exact .inl h
  | exc k fs s1 => rw [q] at h; exact .inl h
theorem EV.alt {e : Expr} {a b : M T} (h1 : EV X Z W e a) (h2 : EV X Z W e b) : EV X Z W e (TL.alt a b) := fun B => ((h1 B).oder (h2 B)).wk fun σ H Q ⟨Hs, ρ, s, R, f⟩ => f.alt.elim (fun f => .inl ⟨Hs, ρ, s, R, f⟩) fun f => .inr ⟨Hs, ρ, s, R, f⟩
theorem Op2.alt {fo : Value → Value → Sem Value} {g g' : RV → RV → M T} (h1 : Op2 X Z W fo g) (h2 : Op2 X Z W fo g') : Op2 X Z W fo (fun a b => TL.alt (g a b) (g' a b)) := fun B => ((h1 B).oder (h2 B)).wk fun x y H Q ⟨σ, Hs, ρ, s, a, b, R, ha, hb, f⟩ => f.alt.elim (fun f => .inl ⟨σ, Hs, ρ, s, a, b, R, ha, hb, f⟩) fun f => .inr ⟨σ, Hs, ρ, s, a, b, R, ha, hb, f⟩
end

/-- o.f, an attribute of the object's own; cs: the classes that are known -/
def cFld (cs : List Nat) (k : Nat) (o : M RV) : M T := TL.bnd o fun r => fun s => match look r s with
  | some (.obj c fs) => (match cs.contains c, fs.lookup k with
    | true, some t => .ok t s
    | _, _ => .stuck)
  | _ => .stuck
structure FldOk (Z : Sg) (cs : List Nat) (k : Nat) : Prop where
  cl : ∀ c ∈ cs, Cls Z.K (Z.cls c)
  no : ∀ c ∈ cs, NoAttr Z.K (Z.cls c) (Z.nm k)
theorem ev_fld {o : Expr} {f : Str} {cs : List Nat} {k : Nat} {co : M RV} (hK : Z.K = X.K) (hi : ∀ i j, Z.nm i = Z.nm j → i = j) (hk : Z.nm k = f) (ok : FldOk Z cs k) (he : ER X Z W o co) (hb : attributeBase o f X.env (eval o X.env) = eval o X.env := by rfl) : EV X Z W (.Attribute o f pos) (cFld cs k co) := fun B =>
  (pe_fld (he B) hb).wk fun σ H Q ⟨Hs, ρ, s, R, f⟩ => ⟨Hs, ρ, s, R, f.bnd.imp fun r Hs1 ρ1 H1 s1 R1 _ _ q v hv => by
    cases ql : look r s1 with
    | none => simp only [ql] at q; exact q.elim
    | some u =>
      simp only [ql] at q
      have vr := R1.look_ok hv ql
      cases u with
      | obj c fs =>
        simp only at q
        cases qc : cs.contains c with
        | false => simp only [qc] at q; exact q.elim
        | true =>
          cases qf : fs.lookup k with
          | none => simp only [qc, qf] at q; exact q.elim
          | some t =>
            simp only [qc, qf] at q
            have hc : c ∈ cs := by simpa using qc
            obtain ⟨a, dx, us, rfl, h1, h2⟩ := vr
            obtain ⟨v, e1, e2⟩ := (h2.lookup hi).1 t qf
            exact ⟨a, Z.cls c, dx, us, v, rfl, h1, by rw [← hK]; exact ok.cl c hc, by rw [← hK, ← hk]; exact ok.no c hc, by rw [← hk]; exact e1, q.here R1 v e2⟩
      | _ => exact q.elim⟩
/-- o.f = e -/
def cSetF (cs : List Nat) (k : Nat) (o : M RV) (c : M T) : M Fl := TL.bnd c fun t => TL.bnd o fun r => fun s => match look r s with
  | some (.obj c fs) => (match cs.contains c && decide (fs.length < 1000), wr r (.obj c (putT k t fs)) s with
    | true, some s' => .ok .nx s'
    | _, _ => .stuck)
  | _ => .stuck
theorem ss_fld {o : Expr} {f : Str} {cs : List Nat} {k : Nat} {co : M RV} {c : M T} {pos' : Pos} (hK : Z.K = X.K) (hi : ∀ i j, Z.nm i = Z.nm j → i = j) (hk : Z.nm k = f) (ok : FldOk Z cs k) (he : EV X Z W e c) (ho : ER X Z W o co) (hs : swapsWith e (some (.Attribute o f pos')) pos.line X.env = pure false := by rfl) :
    SS X Z W (.Assign [.Attribute o f pos'] e pos) (cSetF cs k co c) := fun B =>
  (ps_fld (ho B) (he B) hs).wk fun D σ H ⟨Hs, ρ, s, R, f⟩ => ⟨Hs, ρ, s, R, (FIS.bnd (Hs := Hs) (ρ := ρ) (σ := σ) f).imp fun t Hs1 ρ1 H1 s1 R1 _ _ q v hv => ⟨Hs1, ρ1, s1, R1, (FIS.bnd (Hs := Hs1) (ρ := ρ1) (σ := σ) q).imp fun r Hs2 ρ2 H2 s2 R2 m p q2 x hx => by
    cases ql : look r s2 with
    | none => simp only [ql] at q2; exact q2.elim
    | some u =>
      simp only [ql] at q2
      cases u with
      | obj c fs =>
        simp only at q2
        cases qc : (cs.contains c && decide (fs.length < 1000)) with
        | false => simp only [qc] at q2; exact q2.elim
        | true =>
          cases qw : wr r (.obj c (putT k t fs)) s2 with
          | none => simp only [qc, qw] at q2; exact q2.elim
          | some s3 =>
            simp only [qc, qw] at q2
            have hc := Bool.and_eq_true_iff.mp qc
            have hc1 : c ∈ cs := by simpa using hc.1
            have hc2 := of_decide_eq_true hc.2
            obtain ⟨a, rfl, ⟨dx, us, h1, h2⟩, wrt⟩ := R2.write hx ql qw
            refine ⟨a, Z.cls c, dx, us, rfl, h1, by rw [← hK]; exact ok.cl c hc1, by rw [← hK, ← hk]; exact ok.no c hc1, by rw [h2.length]; exact hc2, ?_⟩
            refine q2 σ _ Hs2 ρ2 (wrt _ fun Hx hx => ⟨dx, _, hx, ?_⟩)
            rw [← hk]
            exact RepF.put hi (hv.mono m p) h2
      | _ => exact q2.elim⟩⟩
/-- o.p, a property -/
def cProp1 (c : Nat) (f : Fn) (o : M T) : M T := TL.bnd o fun t => fun s => match view t s with
  | some (.obj c' fs) => if c' = c then noX (app f [t] s) else .stuck
  | _ => .stuck
theorem ev_prop {k : Nat} {fa g : Addr} {C p : Addr} {fd : FuncData} {ps : List Str} {o : Expr} {f : Str} {c : Nat} {fn : Fn} {co : M T} (hC : Z.cls c = C) (cl : Cls X.K C) (hp : PropOf X.K C f p g) (F : FnOk X.prog X.w X.K X.mg X.base (L2.CX X.prog X.w) k g fd ps (spM Z 1 fn)) (hr : Room (k + 1) X.A) (hb : Binds X.K fd ps []) (he : EV X Z W o co) (hab : attributeBase o f X.env (eval o X.env) = eval o X.env := by rfl) :
    EV X Z W (.Attribute o f pos) (cProp1 c fn co) := fun B =>
  (pe_prop (E := E0) (dvs := []) (he B) cl hp F hr hb .nil passL hab).wk fun σ H Q ⟨Hs, ρ, s, R, f⟩ => ⟨Hs, ρ, s, R, f.bnd.imp fun t Hs1 ρ1 H1 s1 R1 _ _ q v hv => by
    cases qv : view t s1 with
    | none => simp only [qv] at q; exact q.elim
    | some u =>
      simp only [qv] at q
      have vr := R1.view_ok hv qv
      cases u with
      | obj c' fs =>
        by_cases hc : c' = c
        · subst hc
          simp only [if_true] at q
          obtain ⟨a, dx, us, rfl, h1, h2⟩ := vr
          exact ⟨a, dx, us, rfl, by rw [← hC]; exact h1, app_read (W := W0) R1 (.cons hv .nil) rfl (FIN.noX q)⟩
        · simp only [if_neg hc] at q; exact q.elim
      | _ => exact q.elim⟩
end TL
namespace TL
open PySem PySem.Spec L2
open PyProof.Rows hiding St
variable {Z : Sg} {B : B0} {W : WX} {Hs Hs' Hs2 : Hp} {ρ ρ' ρ2 : List Addr} {σ : St} {H H' H2 : Hp} {s : S}
variable {X : Cx} {e e1 e2 e3 : Expr} {es : List Expr} {pos : Pos} {st : Stmt} {sts : List Stmt}

/-- what an __init__ gives: the attributes -/
inductive OutI where
  | ok (fs : List (Nat × T)) (c : List (Option T))
  | exc (k : Nat) (fs : List (Nat × T)) (c : List (Option T))
  | stuck
abbrev FnI := List T → List (Option T) → OutI
def del1 (H : Hp) (a : Addr) : Hp := fun b => if b = a then none else H b
theorem del1_same {H : Hp} {a : Addr} : del1 H a a = none := if_pos rfl
theorem del1_ne {H : Hp} {a b : Addr} (h : b ≠ a) : del1 H a b = H b := if_neg h
def spI (Z : Sg) (c0 n : Nat) (f : FnI) : Sp := fun vs H Q E => ∃ Hs ρ c ts a dx args, vs = .ref a :: args ∧ H a = some (.ins (Z.cls c0) dx []) ∧ Hs a = none ∧ a ∉ ρ ∧ RG Z Hs ρ H c ∧ RepL Z Hs ρ ts args ∧ ts.length + 1 = n ∧ match f ts c with
  | .ok fs c' => ∀ H' Hs' ρ' dx' us, RG Z Hs' ρ' H' c' → EX Hs ρ (del1 H a) Hs' ρ' H' → Hs' a = none → a ∉ ρ' → H' a = some (.ins (Z.cls c0) dx' us) → RepF Z Hs' ρ' fs us → Q .non H'
  | .exc k fs c' => ∀ d H' Hs' ρ', RG Z Hs' ρ' H' c' → EX Hs ρ (del1 H a) Hs' ρ' H' → ExF Z Hs' ρ' H' d fs → E (.ref (Z.cls k)) d H'
  | .stuck => False
def endI (c0 : Nat) (s : S) : OutI := match s.g[(0 : Nat)]? with
  | some (.own (.obj c fs)) => if c = c0 then .ok fs s.c else .stuck
  | _ => .stuck
def runI (c0 N : Nat) (b : M Fl) : FnI := fun ts c => match b ⟨.own (.obj c0 []) :: (ts.map .val ++ List.replicate (N - (ts.length + 1)) .un), c⟩ with
  | .ok (.rt .non) s => endI c0 s
  | .ok .nx s => endI c0 s
  | .ok _ _ => .stuck
  | .exc k fs s => .exc k fs s.c
  | .stuck => .stuck
theorem start_relI {N : List Str} {c0 : Nat} {ts : List T} {a dx : Addr} {args : List V} {c : List (Option T)} (g : RG Z Hs ρ H c) (r : RepL Z Hs ρ ts args) (h1 : H a = some (.ins (Z.cls c0) dx [])) (h2 : Hs a = none) (h3 : a ∉ ρ) :
    Rel Z ⟨Hs, ρ, del1 H a, some a⟩ Hs ρ (L2.start N (.ref a :: args)) H ⟨.own (.obj c0 []) :: (ts.map .val ++ List.replicate (N.length - (ts.length + 1)) .un), c⟩ := by
  have e : L2.start N (V.ref a :: args) = some (V.ref a) :: (args.map some ++ List.replicate (N.length - (args.length + 1)) none) := by simp [L2.start]
  rw [e]
  have hv : ∀ (i : Nat) (x : Slot), (ts.map Slot.val ++ List.replicate (N.length - (ts.length + 1)) Slot.un)[i]? = some x → x = .un ∨ ∃ t, x = .val t ∧ ts[i]? = some t := fun i x e => by
    by_cases hi : i < ts.length
    · rw [List.getElem?_append_left (by simpa using hi), List.getElem?_map] at e
      obtain ⟨t, e1, e2⟩ := Option.map_eq_some_iff.mp e
      exact .inr ⟨t, e2.symm, e1⟩
    · rw [List.getElem?_append_right (by simpa using hi), List.getElem?_replicate] at e
      split at e
      · cases e; exact .inl rfl
      · cases e
  have own0 : ∀ (i : Nat) (t : T), (Slot.own (.obj c0 []) :: (ts.map Slot.val ++ List.replicate (N.length - (ts.length + 1)) Slot.un))[i]? = some (.own t) → i = 0 ∧ t = .obj c0 [] := fun i t e => by
    cases i with
    | zero => simp at e; exact ⟨rfl, e.symm⟩
    | succ i =>
      rw [List.getElem?_cons_succ] at e
      rcases hv i _ e with h | ⟨u, h, h2⟩ <;> cases h
  refine ⟨g, ⟨.refl, List.prefix_refl _, fun b o e hn => ?_, fun b q1 q2 => absurd q1 q2, fun b q1 q2 => absurd q1 q2⟩, by simp [r.length], fun i t e => ?_, fun i t e => ?_, fun i j t u b e1 e2 _ _ => ?_, fun b e => ?_⟩
  · have e : del1 H a b = some o := e
    by_cases z : b = a
    · subst z; rw [del1_same] at e; cases e
    · rwa [del1_ne z] at e
  · cases i with
    | zero => simp at e
    | succ i =>
      rw [List.getElem?_cons_succ] at e ⊢
      rcases hv i _ e with h | ⟨u, h, h2⟩
      · cases h
      · cases h
        obtain ⟨v, q1, q2⟩ := r.get h2
        refine ⟨v, ?_, q2⟩
        rw [List.getElem?_append_left (by rw [List.length_map]; exact (List.getElem?_eq_some_iff.mp q1).1), List.getElem?_map, q1]
        rfl
  · obtain ⟨rfl, rfl⟩ := own0 i t e
    exact ⟨a, rfl, h2, h3, del1_same, ⟨dx, [], h1, by simp only [RepF]⟩⟩
  · rw [(own0 i t e1).1, (own0 j u e2).1]
  · cases e; exact ⟨rfl, c0, [], rfl⟩
section
variable {P : Program} {w : World} {K : PySem.W.Frag} {mg : Str → Option Value} {base : Heap} {x qual : Str} {params : Arguments} {body : List Stmt} {scope : Scope} {dvs : List V} {kws : List (Str × V)} {f : Addr} {fd : FuncData} {N ps : List Str} {k n c0 : Nat} {b : M Fl}
/-- the body's own hand on slot 0 stays: the class says it -/
theorem okI (F : FunD K x qual params body scope dvs kws f fd) (Sc : FnScope N ps scope) (hn : n = ps.length)
    (hb : ∀ (cdv : Value) (A : Around) (outer : List Env) (s : Shared) (H : Hp) (E : XK), Room k (A.deeper (envOfC qual scope s.heap.objs.size f cdv)) → SB (cxOf (L2.CX P w) P w K mg base N qual scope f cdv A outer s H E) Z (WB E) body b) :
    FnOk P w K mg base (L2.CX P w) (k + 1) f fd ps (spI Z c0 n (runI c0 N.length b)) :=
  F.ok Sc (fun vs H Q E ⟨Hs, ρ, c, ts, a, dx, args, e, _, _, _, _, r, hl, _⟩ => by rw [e, List.length_cons, r.length, hl, hn]) fun cdv A outer s H vs Q E hr ⟨Hs, ρ, c, ts, a, dx, args, ev, h1, h2, h3, g, r, hl, q⟩ => by
    subst ev
    refine ⟨tS Z ⟨Hs, ρ, del1 H a, some a⟩ (WB E) b, hb cdv A outer s H E hr _, Hs, ρ, _, start_relI g r h1 h2 h3, ?_⟩
    simp only [runI] at q
    have fin : ∀ {s1 : S} {σ' : St} {H' Hs' : Hp} {ρ' : List Addr}, Rel Z ⟨Hs, ρ, del1 H a, some a⟩ Hs' ρ' σ' H' s1 → (match endI c0 s1 with
      | .ok fs c' => ∀ H' Hs' ρ' dx' us, RG Z Hs' ρ' H' c' → EX Hs ρ (del1 H a) Hs' ρ' H' → Hs' a = none → a ∉ ρ' → H' a = some (.ins (Z.cls c0) dx' us) → RepF Z Hs' ρ' fs us → Q .non H'
      | .exc k fs c' => ∀ d H' Hs' ρ', RG Z Hs' ρ' H' c' → EX Hs ρ (del1 H a) Hs' ρ' H' → ExF Z Hs' ρ' H' d fs → E (.ref (Z.cls k)) d H'
      | .stuck => False) → Q .non H' := fun {s1 σ' H' Hs' ρ'} R q => by
      obtain ⟨hb0, _⟩ := R.me a rfl
      unfold endI at q
      split at q
      · rename_i c1 fs c' heq
        split at heq
        · rename_i c2 fs2 hg
          split at heq
          · rename_i hc
            cases heq
            subst hc
            obtain ⟨b', g1, g2, g3, g4, ⟨dx', us, g5, g6⟩⟩ := R.own 0 _ hg
            rw [hb0] at g1
            cases g1
            exact q H' Hs' ρ' dx' us R.rg R.ex g2 g3 g5 g6
          · cases heq
        · cases heq
      · rename_i heq
        split at heq
        · split at heq <;> cases heq
        · cases heq
      · exact q.elim
    cases qb : b ⟨.own (.obj c0 []) :: (ts.map .val ++ List.replicate (N.length - (ts.length + 1)) .un), c⟩ with
    | stuck => rw [qb] at q; exact q
    | exc j fs s1 =>
      rw [qb] at q
      exact fun d σ' H' Hs' ρ' R x => q d H' Hs' ρ' R.rg R.ex x
    | ok fl s1 =>
      rw [qb] at q
      cases fl with
      | nx => exact fun σ' H' Hs' ρ' R => fin R q
      | rt t =>
        cases t with
        | non =>
          intro v σ' H' Hs' ρ' R hv
          simp only [Rep] at hv
          subst hv
          exact fin R q
        | _ => exact q.elim
      | bk => exact q.elim
      | ct => exact q.elim
end

section
variable {k n c0 : Nat} {f C : Addr} {fd : FuncData} {ps : List Str} {dvs : List V} {ds : List Value} {x : Str} {p : Pos} {fn : FnI} {dts : List T} {cs : M (List T)}
def appI (c0 : Nat) (f : FnI) (ts : List T) : M T := fun s => match f ts s.c with
  | .ok fs c => .ok (.obj c0 fs) ⟨s.g, c⟩
  | .exc k fs c => .exc k fs ⟨s.g, c⟩
  | .stuck => .stuck
@[simp] def cMake (c0 : Nat) (f : FnI) (n : Nat) (dts : List T) (cs : M (List T)) : M T := TL.bnd cs fun ts => if (ts ++ dts).length + 1 = n then appI c0 f (ts ++ dts) else stk
theorem make_in {ts : List T} {vs : List V} {Q : VK} (R : Rel Z B Hs ρ σ H s) (r : RepL Z Hs ρ ts vs) (hd : ∀ Hs ρ, RepL Z Hs ρ dts dvs)
    (q : FIN Z B W Hs ρ σ (fun t Hs' ρ' H' s' => ∀ p H2, Rel Z B Hs' ρ' σ H2 s' → Loose Z B Hs' ρ' σ H2 s' p t → Q (.ref p) H2) ((if (ts ++ dts).length + 1 = n then appI c0 fn (ts ++ dts) else stk) s)) :
    ∀ x dx, H x = none → H dx = none → dx ≠ x → spI Z c0 n fn (.ref x :: (vs ++ dvs)) (upd (upd H dx (.own x)) x (.ins (Z.cls c0) dx [])) (fun v H2 => v = .non ∧ Q (.ref x) H2) (WE W σ) := by
  intro x dx nx ndx ne
  by_cases hl : (ts ++ dts).length + 1 = n
  · rw [if_pos hl] at q
    obtain ⟨x1, x2, x3⟩ := R.no_of nx
    have m : Mono H (upd (upd H dx (.own x)) x (.ins (Z.cls c0) dx [])) := (Mono.up ndx).trans (.up (by rw [upd_ne (Ne.symm ne)]; exact nx))
    have R2 := R.grow m
    refine ⟨Hs, ρ, s.c, ts ++ dts, x, dx, vs ++ dvs, rfl, upd_same, x2, x3, R2.rg, r.append (hd _ _), hl, ?_⟩
    -- what has happened, seen from the caller
    have ex : ∀ {Hs' ρ' H'}, EX Hs ρ (del1 (upd (upd H dx (.own x)) x (.ins (Z.cls c0) dx [])) x) Hs' ρ' H' → EX Hs ρ H Hs' ρ' H' := fun {Hs' ρ' H'} y => by
      have dn : ∀ a, del1 (upd (upd H dx (.own x)) x (.ins (Z.cls c0) dx [])) x a = none → H a = none := fun a e => by
        by_cases z : a = x
        · subst z; exact nx
        · rw [del1_ne z, upd_ne z] at e
          by_cases z2 : a = dx
          · subst z2; rw [upd_same] at e; cases e
          · rwa [upd_ne z2] at e
      refine ⟨y.mono, y.pre, fun a o e hn => y.frame a o ?_ hn, fun a e1 e2 => dn a (y.freshS a e1 e2), fun a h1 h2 => dn a (y.freshR a h1 h2)⟩
      have z : a ≠ x := ne_of_none e nx
      rw [del1_ne z]
      exact m a o e
    unfold appI at q
    cases qf : fn (ts ++ dts) s.c with
    | stuck => rw [qf] at q; exact q
    | exc k fs c => rw [qf] at q; exact fun d H' Hs' ρ' g y z => q d H' Hs' ρ' (R.call g (ex y)) y.mono y.pre z
    | ok fs c =>
      rw [qf] at q
      intro H' Hs' ρ' dx' us g y hx hr ho hf
      have R3 := R.call g (ex y)
      refine ⟨rfl, q.at R3 y.mono y.pre x H' R3 ⟨hx, hr, x1, ⟨dx', us, ho, hf⟩, fun i u e q2 => ?_⟩⟩
      obtain ⟨a, h1, _, _, _, h5⟩ := R.own i u e
      rw [h1] at q2
      cases q2
      obtain ⟨o, ho⟩ := h5.has
      rw [nx] at ho; cases ho
  · rw [if_neg hl] at q
    exact q.elim
theorem run_makeS {sp : Sp} {E : St → XK} {pins : List (Addr × Obj)} {σ : St} {H : Hp} {s : Shared} {Q : VK} {us : List Value} {vs : List V} (M : Mk X.K C f) (F : FnOk X.prog X.w X.K X.mg X.base (L2.CX X.prog X.w) k f fd ps sp) (hr : Room (k + 1) X.A) (hb : Binds X.K fd ps ds) (hd : Vals dvs ds)
    (hx : PassesAt (L2.CX X.prog X.w) X σ (E σ)) (I : Inv X pins σ H s) (r : Vals vs us)
    (h : ∀ x dx, H x = none → H dx = none → dx ≠ x → sp (.ref x :: (vs ++ dvs)) (upd (upd H dx (.own x)) x (.ins C dx [])) (fun v H2 => v = .non ∧ Q (.ref x) H2) (E σ)) :
    wpAny (model X.prog X.w) X.A (call (.ref C) us) (EP X pins σ Q) X.xe s := by
  have hq := h (s.heap.objs.size + 1) s.heap.objs.size (I.hok.fresh (Nat.le_succ _)) (I.hok.fresh (Nat.le_refl _)) (Nat.ne_of_lt (Nat.lt_succ_self _))
  have I2 := Inv.made (C := C) I
  have r2 : Vals (V.ref (s.heap.objs.size + 1) :: (vs ++ dvs)) (Value.ref (s.heap.objs.size + 1) :: (us ++ ds)) := .cons rfl (r.append hd)
  have hl : (Value.ref (s.heap.objs.size + 1) :: us ++ ds).length = ps.length := by
    have e := r2.length
    rw [F.len _ _ _ _ hq] at e
    exact e.symm
  refine wpAny_call (make_map (f := f) I.kIn M.makes M.init (beq_iff_eq.mp M.fn) (codeAny_mono (F.run _ X.stack _ _ ⟨Value.ref (s.heap.objs.size + 1) :: us, []⟩ (Value.ref (s.heap.objs.size + 1) :: (us ++ ds)) _ _ (E σ) (hr.make C us [])
    (I2.env0.make C us []) (hb _ (Value.ref (s.heap.objs.size + 1) :: us) I2.kIn hl) r2 hq) fun r s' hq' => ?_))
  cases r with
  | error e => exact hx pins _ _ e s' I2 hq'
  | ok fl =>
    cases fl with
    | ret u =>
      obtain ⟨v, H', I3, rv, ev, q3⟩ := I2.after hq'
      subst ev
      exact ⟨rv, ⟨V.ref (s.heap.objs.size + 1), H', I3, rfl, q3⟩⟩
    | next => exact False.elim hq'
    | brk => exact False.elim hq'
    | cont => exact False.elim hq'
/-- C(e, ..): a new object in hand -/
theorem ef_make (tk : Takes X W) (M : Mk X.K C f) (hC : Z.cls c0 = C) (F : FnOk X.prog X.w X.K X.mg X.base (L2.CX X.prog X.w) k f fd ps (spI Z c0 n fn)) (hr : Room (k + 1) X.A) (hg : Gl X x) (hm : X.mg x = some (.ref C)) (hb : Binds X.K fd ps ds) (hd : Vals dvs ds) (hd2 : ∀ Hs ρ, RepL Z Hs ρ dts dvs)
    (ha : EA X Z W (e :: es) cs) (hdb : (x == ("__debug__" : Str)) = false := by decide) (he : starEach (e :: es) X.env = (false, eval e X.env) :: starEach es X.env := by rfl) (hpl : (backTo pos (starEach es X.env)).any (·.1) = false := by rfl) :
    EF X Z W (.Call (.Name x p) (e :: es) [] pos) (cMake c0 fn n dts cs) := fun B => by
  refine ⟨fun pins s σ H Q I h => ?_⟩
  obtain ⟨Hs, ρ, s1, R, f1⟩ := h
  refine wpAny_Call_Name_kw (ld_glob I hg hm ?_ hdb)
  refine PySem.W.callWith_K (h₀ := X.base) I.ok.mod.kin M.kp (thn ((ha B).run pos pins s σ H _ I ⟨Hs, ρ, s1, R, f1.bnd.imp fun ts Hs1 ρ1 H1 s2 R1 _ _ q vs hv => make_in R1 hv hd2 q⟩) fun us s1 ⟨vs, H1, I1, r, q⟩ => ⟨I1.kIn, ?_⟩) he hpl
  subst hC
  exact run_makeS (E := WE W) M F hr hb hd (passAt tk σ) I1 r q
theorem ef_make0 (tk : Takes X W) (M : Mk X.K C f) (hC : Z.cls c0 = C) (F : FnOk X.prog X.w X.K X.mg X.base (L2.CX X.prog X.w) k f fd ps (spI Z c0 n fn)) (hr : Room (k + 1) X.A) (hg : Gl X x) (hm : X.mg x = some (.ref C)) (hb : Binds X.K fd ps ds) (hd : Vals dvs ds) (hd2 : ∀ Hs ρ, RepL Z Hs ρ dts dvs)
    (hdb : (x == ("__debug__" : Str)) = false := by decide) :
    EF X Z W (.Call (.Name x p) [] [] pos) (cMake c0 fn n dts cNil) := fun B => by
  refine ⟨fun pins s σ H Q I h => ?_⟩
  obtain ⟨Hs, ρ, s1, R, f1⟩ := h
  refine wpAny_Call_Name_kw (ld_glob I hg hm ?_ hdb)
  refine PySem.W.callWith_K0 I.kIn M.kp ?_
  subst hC
  exact run_makeS (E := WE W) (us := []) (vs := []) M F hr hb hd (passAt tk σ) I .nil (make_in R .nil hd2 (f1.bnd.here R))
end
end TL
namespace TL
open PySem PySem.Spec L2
open PyProof.Rows hiding St
variable {Z : Sg} {B : B0} {W : WX} {Hs Hs' Hs2 : Hp} {ρ ρ' ρ2 : List Addr} {σ : St} {H H' H2 : Hp} {s : S}
variable {X : Cx} {e e1 e2 e3 : Expr} {es : List Expr} {pos : Pos} {fo : Value → Value → Sem Value}

/-- an operator that only reads what its two values show -/
@[simp] def gLook (h : T → T → Option T) (a b : RV) : M T := fun s => match look a s, look b s with
  | some t, some u => (match h t u with
    | some r => .ok r s
    | none => .stuck)
  | _, _ => .stuck
/-- two shown values and the answer, for a reading that makes nothing -/
theorem op2_read {h : T → T → Option T} {r : R2} (ho : OpR X fo r)
    (k : ∀ {Hs ρ H t u x y res} {Q : VK}, Mono Hs H → VRep Z Hs ρ H t x → VRep Z Hs ρ H u y → h t u = some res → (∀ v, Rep Z Hs ρ res v → Q v H) → r x y H Q) : Op2 X Z W fo (gLook h) := fun B => ho.wk fun x y H Q ⟨σ, Hs, ρ, s, a, b, R, ha, hb, f⟩ => by
  cases q1 : look a s with
  | none => simp only [gLook, q1] at f; exact f.elim
  | some t =>
    cases q2 : look b s with
    | none => simp only [gLook, q1, q2] at f; exact f.elim
    | some u =>
      cases q3 : h t u with
      | none => simp only [gLook, q1, q2, q3] at f; exact f.elim
      | some res =>
        simp only [gLook, q1, q2, q3] at f
        exact k R.rg.sub (R.look_ok ha q1) (R.look_ok hb q2) q3 (f.here R)
/-- .. that makes one new object p ↦ o -/
theorem op2_new {h : T → T → Option T} {r : R2} (ho : OpR X fo r)
    (k : ∀ {Hs ρ H t u x y res} {Q : VK}, Mono Hs H → VRep Z Hs ρ H t x → VRep Z Hs ρ H u y → h t u = some res → (∀ (p : Addr) (o : HO), H p = none → (∀ Hx, Mono Hs Hx → Hx p = some o → Rep Z Hx ρ res (.ref p)) → Q (.ref p) (upd H p o)) → (∀ v, Rep Z Hs ρ res v → Q v H) → r x y H Q) : Op2 X Z W fo (gLook h) := fun B => ho.wk fun x y H Q ⟨σ, Hs, ρ, s, a, b, R, ha, hb, f⟩ => by
  cases q1 : look a s with
  | none => simp only [gLook, q1] at f; exact f.elim
  | some t =>
    cases q2 : look b s with
    | none => simp only [gLook, q1, q2] at f; exact f.elim
    | some u =>
      cases q3 : h t u with
      | none => simp only [gLook, q1, q2, q3] at f; exact f.elim
      | some res =>
        simp only [gLook, q1, q2, q3] at f
        refine k R.rg.sub (R.look_ok ha q1) (R.look_ok hb q2) q3 (fun p o hp hr => ?_) (f.here R)
        have hn := (R.no_of hp).2.1
        exact f.at (R.alloc o hp) (.up hn) (List.prefix_refl _) _ (hr _ (.up hn) upd_same)

def hI (c : Int → Int → Bool) (g : Int → Int → T) : T → T → Option T
  | .int i, .int j => if c i j = true then some (g i j) else none
  | _, _ => none
theorem op2_I {C : Int → Int → Prop} {c : Int → Int → Bool} {g : Int → Int → V} {g' : Int → Int → T} (ho : OpR X fo (rI C g)) (hc : ∀ i j, c i j = true → C i j) (hg : ∀ i j Hs ρ, Rep Z Hs ρ (g' i j) (g i j)) : Op2 X Z W fo (gLook (hI c g')) :=
  op2_read ho fun {Hs ρ H t u x y res Q} m ht hu e q => by
    match t, u, e with
    | .int i, .int j, e =>
      by_cases h : c i j = true
      · simp only [hI, if_pos h, Option.some.injEq] at e
        subst e
        simp only [VRep, Rep] at ht hu
        exact ⟨i, j, ht, hu, hc i j h, q _ (hg i j _ _)⟩
      · simp only [hI, if_neg h] at e; cases e
theorem op2_I0 {g : Int → Int → V} {g' : Int → Int → T} (ho : OpR X fo (rI0 g)) (hg : ∀ i j Hs ρ, Rep Z Hs ρ (g' i j) (g i j)) : Op2 X Z W fo (gLook (hI (fun _ _ => true) g')) :=
  op2_I (C := fun _ _ => True) (g := g) (ho.wk fun x y H Q ⟨i, j, h1, h2, _, h4⟩ => ⟨i, j, h1, h2, h4⟩) (fun _ _ _ => trivial) hg
abbrev gAddI := gLook (hI (fun _ _ => true) fun i j => .int (i + j))
abbrev gSubI := gLook (hI (fun _ _ => true) fun i j => .int (i - j))
theorem o_addI : Op2 X Z W (binaryOp .Add) gAddI := op2_I0 op_add fun _ _ _ _ => by simp only [Rep]
theorem o_subI : Op2 X Z W (binaryOp .Sub) gSubI := op2_I0 op_sub fun _ _ _ _ => by simp only [Rep]
def sz64 (i : Int) : Bool := decide (-(2 ^ 64) < i ∧ i < 2 ^ 64)
abbrev gMulI := gLook (hI (fun i j => sz64 i || sz64 j) fun i j => .int (i * j))
theorem o_mulI : Op2 X Z W (binaryOp .Mult) gMulI := op2_I op_mul (fun i j h => by
  rcases Bool.or_eq_true_iff.mp h with h | h
  · exact .inl (of_decide_eq_true h)
  · exact .inr (of_decide_eq_true h)) fun _ _ _ _ => by simp only [Rep]
abbrev gModI := gLook (hI (fun _ j => decide (0 < j)) fun i j => .int (i % j))
theorem o_modI : Op2 X Z W (binaryOp .Mod) gModI := op2_I op_mod (fun i j h => of_decide_eq_true h) fun _ _ _ _ => by simp only [Rep]
abbrev gDivI := gLook (hI (fun _ j => decide (0 < j ∧ j < 1073741824)) fun i j => .int (i / j))
theorem o_divI : Op2 X Z W (binaryOp .FloorDiv) gDivI := op2_I op_fdiv (fun i j h => by unfold CDiv; exact of_decide_eq_true h) fun _ _ _ _ => by simp only [Rep]
abbrev gPowI := gLook (hI (fun i j => decide (0 ≤ j ∧ j ≤ 1000000 ∧ i.natAbs < 2 ^ 64)) fun i j => .int (i ^ j.toNat))
theorem o_powI : Op2 X Z W (binaryOp .Pow) gPowI := op2_I op_pow (fun i j h => by unfold CPow; exact of_decide_eq_true h) fun _ _ _ _ => by simp only [Rep]
abbrev gLtI := gLook (hI (fun _ _ => true) fun i j => .bl (decide (i < j)))
abbrev gLeI := gLook (hI (fun _ _ => true) fun i j => .bl (decide (i ≤ j)))
abbrev gGtI := gLook (hI (fun _ _ => true) fun i j => .bl (decide (j < i)))
abbrev gGeI := gLook (hI (fun _ _ => true) fun i j => .bl (decide (j ≤ i)))
theorem o_ltI : Op2 X Z W (compareOp .Lt) gLtI := op2_I0 op_lt fun _ _ _ _ => by simp only [Rep]
theorem o_leI : Op2 X Z W (compareOp .LtE) gLeI := op2_I0 op_le fun _ _ _ _ => by simp only [Rep]
theorem o_gtI : Op2 X Z W (compareOp .Gt) gGtI := op2_I0 op_gt fun _ _ _ _ => by simp only [Rep]
theorem o_geI : Op2 X Z W (compareOp .GtE) gGeI := op2_I0 op_ge fun _ _ _ _ => by simp only [Rep]

def hAddS : T → T → Option T
  | .str x, .str y => if fits (x.length + y.length) = true then some (.str (x ++ y)) else none
  | _, _ => none
theorem o_addS : Op2 X Z W (binaryOp .Add) (gLook hAddS) := op2_read op_add_str fun {Hs ρ H t u x y res Q} m ht hu e q => by
  match t, u, e with
  | .str a, .str b, e =>
    by_cases h : fits (a.length + b.length) = true
    · simp only [hAddS, if_pos h, Option.some.injEq] at e
      subst e
      simp only [VRep, Rep] at ht hu
      exact ⟨a, b, ht, hu, fits_le h, q _ (by simp only [Rep])⟩
    · simp only [hAddS, if_neg h] at e; cases e
/-- + of two lists, wherever they stand -/
theorem op_catL : OpR X (binaryOp .Add) (fun x y H Q => ∃ l b xs zs, x = .ref l ∧ y = .ref b ∧ SqL X.K H l xs ∧ SqL X.K H b zs ∧ xs.length + zs.length ≤ sizeLine ∧ ∀ p, H p = none → Q (.ref p) (upd H p (.lst (xs ++ zs)))) := by
  rintro pins s σ H x y v u Q I rx ry ⟨l, b, xs, zs, rfl, rfl, h1, h2, hz, q⟩
  cases rx
  cases ry
  obtain ⟨its, r, ⟨⟨c1, d1, t1, s1⟩, n, e, k1, k2, k3⟩, _⟩ := I.list h1
  obtain ⟨its2, r2, ⟨⟨c2, d2, t2, s2⟩, n2, e2, j1, j2, j3⟩, _⟩ := I.list h2
  simp only at k1 k2 k3 j1 j2 j3
  subst k1 k2 k3 j1 j2 j3
  have hsz : its.toArray.size + its2.toArray.size ≤ sizeLine := by rw [List.size_toArray, List.size_toArray, ← r.length, ← r2.length]; exact hz
  refine concat_meets ⟨_, e, rfl⟩ ⟨_, e2, rfl⟩ noFill_list_add seq_list_add PySem.F.slot_list_add PySem.F.entry_list_add (PySem.F.args_list_add_2 _ _) (PyProof.Rows.list_addW l b its.toArray its2.toArray n n2 none none s1 s2 hsz) ⟨e, e2, ?_⟩
  have ea : its.toArray ++ its2.toArray = (its ++ its2).toArray := by simp
  rw [ea]
  exact ⟨.ref _, _, I.lnew (t' := s.toks) (r.append r2) (by rw [List.length_append]; exact hz), rfl, q _ I.fresh⟩
def hAddL : T → T → Option T
  | .lst x, .lst y => if fits (x.length + y.length) = true then some (.lst (x ++ y)) else none
  | _, _ => none
theorem o_addL (hK : Z.K = X.K) : Op2 X Z W (binaryOp .Add) (gLook hAddL) := op2_new op_catL fun {Hs ρ H t u x y res Q} m ht hu e q _ => by
  match t, u, e with
  | .lst a, .lst b, e =>
    by_cases h : fits (a.length + b.length) = true
    · simp only [hAddL, if_pos h, Option.some.injEq] at e
      subst e
      obtain ⟨l, vs, rfl, h1, h2, h3⟩ := ht
      obtain ⟨l2, ws, rfl, g1, g2, g3⟩ := hu
      refine ⟨l, l2, vs, ws, rfl, rfl, (.inl h1), (.inl g1), by rw [h2.length, g2.length]; exact fits_le h, fun p hp => q p _ hp fun Hx mx hx => ?_⟩
      simp only [Rep]
      exact ⟨p, _, rfl, .inl hx, (h2.append g2).mono mx (List.prefix_refl _), by rw [List.length_append]; exact fits_le h⟩
    · simp only [hAddL, if_neg h] at e; cases e
def hAddT : T → T → Option T
  | .tup x, .tup y => if fits (x.length + y.length) = true then some (.tup (x ++ y)) else none
  | _, _ => none
theorem o_addT (hK : Z.K = X.K) : Op2 X Z W (binaryOp .Add) (gLook hAddT) := op2_new op_catA fun {Hs ρ H t u x y res Q} m ht hu e q q0 => by
  match t, u, e with
  | .tup a, .tup b, e =>
    by_cases h : fits (a.length + b.length) = true
    · simp only [hAddT, if_pos h, Option.some.injEq] at e
      subst e
      have ht' := ht
      have hu' := hu
      simp only [VRep, Rep] at ht hu
      obtain ⟨l, vs, rfl, h1, h2, h3⟩ := ht
      obtain ⟨l2, ws, rfl, g1, g2, g3⟩ := hu
      refine ⟨l, l2, vs, ws, rfl, rfl, by rw [← hK]; exact sqT_mono m h1, by rw [← hK]; exact sqT_mono m g1, by rw [h2.length, g2.length]; exact fits_le h, fun z => ?_, fun z z2 => ?_, fun z z2 p hp => q p _ hp fun Hx mx hx => ?_⟩
      · have : a = [] := List.eq_nil_of_length_eq_zero (by rw [← h2.length, z]; rfl)
        subst this
        exact q0 _ hu'
      · have : b = [] := List.eq_nil_of_length_eq_zero (by rw [← g2.length, z2]; rfl)
        subst this
        rw [List.append_nil] at q0
        exact q0 _ ht'
      · simp only [Rep]
        exact ⟨p, _, rfl, SqT.of hx, (h2.append g2).mono mx (List.prefix_refl _), by rw [List.length_append]; exact fits_le h⟩
    · simp only [hAddT, if_neg h] at e; cases e

def isN : T → Bool
  | .non => true
  | _ => false
theorem rep_non {t : T} {v : V} (h : Rep Z Hs ρ t v) : decide (v = .non) = isN t := by
  cases t with
  | non => simp only [Rep] at h; subst h; rfl
  | cell n => simp only [Rep] at h; obtain ⟨a, _, rfl⟩ := h; rfl
  | bl b => simp only [Rep] at h; subst h; rfl
  | int b => simp only [Rep] at h; subst h; rfl
  | str b => simp only [Rep] at h; subst h; rfl
  | ty b => simp only [Rep] at h; subst h; rfl
  | tup b => simp only [Rep] at h; obtain ⟨a, vs, rfl, _⟩ := h; rfl
  | lst b => simp only [Rep] at h; obtain ⟨a, vs, rfl, _⟩ := h; rfl
  | dK b => simp only [Rep] at h; obtain ⟨a, vs, rfl, _⟩ := h; rfl
  | dT b => simp only [Rep] at h; obtain ⟨a, vs, rfl, _⟩ := h; rfl
  | obj c b => simp only [Rep] at h; obtain ⟨a, dx, vs, rfl, _⟩ := h; rfl
  | exn c b => simp only [Rep] at h; obtain ⟨a, rfl, h⟩ := h; rfl
def gIsN (a b : RV) : M T := fun s => match a, b with
  | .v t, .v .non => .ok (.bl (isN t)) s
  | _, _ => .stuck
def gNotN (a b : RV) : M T := fun s => match a, b with
  | .v t, .v .non => .ok (.bl (!isN t)) s
  | _, _ => .stuck
theorem o_isN : Op2 X Z W (compareOp .Is) gIsN := fun B => op_isN.wk fun x y H Q ⟨σ, Hs, ρ, s, a, b, R, ha, hb, f⟩ => by
  match a, b, f with
  | .v t, .v .non, f =>
    have ha : Rep Z Hs ρ t x := ha
    have hb : Rep Z Hs ρ .non y := hb
    simp only [Rep] at hb
    exact ⟨hb, by rw [rep_non ha]; exact f.here R _ (by simp only [Rep])⟩
theorem o_notN : Op2 X Z W (compareOp .IsNot) gNotN := fun B => op_notN.wk fun x y H Q ⟨σ, Hs, ρ, s, a, b, R, ha, hb, f⟩ => by
  match a, b, f with
  | .v t, .v .non, f =>
    have ha : Rep Z Hs ρ t x := ha
    have hb : Rep Z Hs ρ .non y := hb
    simp only [Rep] at hb
    exact ⟨hb, by rw [rep_non ha]; exact f.here R _ (by simp only [Rep])⟩
def hIsB : T → T → Option T
  | .bl a, .bl b => some (.bl (a == b))
  | _, _ => none
theorem o_isB : Op2 X Z W (compareOp .Is) (gLook hIsB) := op2_read op_isBl fun {Hs ρ H t u x y res Q} m ht hu e q => by
  match t, u, e with
  | .bl a, .bl b, e =>
    simp only [hIsB, Option.some.injEq] at e
    subst e
    simp only [VRep, Rep] at ht hu
    exact ⟨a, b, ht, hu, q _ (by simp only [Rep, Bool.beq_eq_decide_eq])⟩
def hNotB : T → T → Option T
  | .bl a, .bl b => some (.bl (!(a == b)))
  | _, _ => none
theorem o_notB : Op2 X Z W (compareOp .IsNot) (gLook hNotB) := op2_read op_notBl fun {Hs ρ H t u x y res Q} m ht hu e q => by
  match t, u, e with
  | .bl a, .bl b, e =>
    simp only [hNotB, Option.some.injEq] at e
    subst e
    simp only [VRep, Rep] at ht hu
    exact ⟨a, b, ht, hu, q _ (by simp only [Rep, Bool.beq_eq_decide_eq])⟩

mutual
/-- the data that a tree is -/
def pd : T → Option PyData
  | .non => some .none
  | .bl b => some (.bool b)
  | .int i => some (.int i)
  | .str x => some (.str x)
  | .tup xs => (pdL xs).map .tuple
  | .lst xs => (pdL xs).map .list
  | _ => none
def pdL : List T → Option (List PyData)
  | [] => some []
  | t :: ts => match pd t, pdL ts with
    | some d, some ds => some (d :: ds)
    | _, _ => none
end
mutual
theorem pd_dp (m : Mono Hs H) : ∀ {t : T} {v : V} {d : PyData}, Rep Z Hs ρ t v → pd t = some d → Dp Z.K H v d
  | .non, v, d, h, e => by simp only [Rep] at h; simp only [pd, Option.some.injEq] at e; subst h e; exact .non
  | .bl b, v, d, h, e => by simp only [Rep] at h; simp only [pd, Option.some.injEq] at e; subst h e; exact .bl b
  | .int b, v, d, h, e => by simp only [Rep] at h; simp only [pd, Option.some.injEq] at e; subst h e; exact .int b
  | .str b, v, d, h, e => by simp only [Rep] at h; simp only [pd, Option.some.injEq] at e; subst h e; exact .str b
  | .tup xs, v, d, h, e => by
    simp only [Rep] at h
    simp only [pd] at e
    obtain ⟨ds, e1, rfl⟩ := Option.map_eq_some_iff.mp e
    obtain ⟨a, vs, rfl, h1, h2, _⟩ := h
    exact .tup (sqT_mono m h1) (pdL_dp m h2 e1)
  | .lst xs, v, d, h, e => by
    simp only [Rep] at h
    simp only [pd] at e
    obtain ⟨ds, e1, rfl⟩ := Option.map_eq_some_iff.mp e
    obtain ⟨a, vs, rfl, h1, h2, _⟩ := h
    exact .lst (.inl (rd_mono m h1)) (pdL_dp m h2 e1)
  | .dK _, _, _, _, e => by simp only [pd] at e; cases e
  | .dT _, _, _, _, e => by simp only [pd] at e; cases e
  | .obj _ _, _, _, _, e => by simp only [pd] at e; cases e
  | .exn _ _, _, _, _, e => by simp only [pd] at e; cases e
  | .ty _, _, _, _, e => by simp only [pd] at e; cases e
  | .cell _, _, _, _, e => by simp only [pd] at e; cases e
theorem pdL_dp (m : Mono Hs H) : ∀ {ts : List T} {vs : List V} {ds : List PyData}, RepL Z Hs ρ ts vs → pdL ts = some ds → DpAll Z.K H vs ds
  | [], vs, ds, h, e => by simp only [RepL] at h; simp only [pdL, Option.some.injEq] at e; subst h e; exact .nil
  | t :: ts, vs, ds, h, e => by
    simp only [RepL] at h
    obtain ⟨v, r, rfl, h1, h2⟩ := h
    simp only [pdL] at e
    cases q1 : pd t with
    | none => simp only [q1] at e; cases e
    | some d =>
      cases q2 : pdL ts with
      | none => simp only [q1, q2] at e; cases e
      | some ds' =>
        simp only [q1, q2, Option.some.injEq] at e
        subst e
        exact .cons (pd_dp m h1 q1) (pdL_dp m h2 q2)
end
theorem vpd_dp (m : Mono Hs H) : ∀ {t : T} {v : V} {d : PyData}, VRep Z Hs ρ H t v → pd t = some d → Dp Z.K H v d
  | .lst xs, v, d, h, e => by
    simp only [pd] at e
    obtain ⟨ds, e1, rfl⟩ := Option.map_eq_some_iff.mp e
    obtain ⟨a, vs, rfl, h1, h2, _⟩ := h
    exact .lst (.inl h1) (pdL_dp m h2 e1)
  | .non, _, _, h, e => pd_dp m h e
  | .bl b, _, _, h, e => pd_dp m h e
  | .int b, _, _, h, e => pd_dp m h e
  | .str b, _, _, h, e => pd_dp m h e
  | .tup xs, _, _, h, e => pd_dp m h e
  | .dK _, _, _, _, e => by simp only [pd] at e; cases e
  | .dT _, _, _, _, e => by simp only [pd] at e; cases e
  | .obj _ _, _, _, _, e => by simp only [pd] at e; cases e
  | .exn _ _, _, _, _, e => by simp only [pd] at e; cases e
  | .ty _, _, _, _, e => by simp only [pd] at e; cases e
  | .cell _, _, _, _, e => by simp only [pd] at e; cases e
/-- == of two data trees -/
def eqD (t u : T) : Option Bool := match pd t, pd u with
  | some d, some e => if SeqAt.shaped d = true ∧ SeqAt.shaped e = true then some (PyData.eqv d e) else none
  | _, _ => none
def hEqD (t u : T) : Option T := (eqD t u).map .bl
def hNeD (t u : T) : Option T := (eqD t u).map fun b => .bl !b
theorem eqD_some {t u : T} {b : Bool} (h : eqD t u = some b) : ∃ d e, pd t = some d ∧ pd u = some e ∧ SeqAt.shaped d = true ∧ SeqAt.shaped e = true ∧ b = PyData.eqv d e := by
  unfold eqD at h
  cases q1 : pd t with
  | none => simp only [q1] at h; cases h
  | some d =>
    cases q2 : pd u with
    | none => simp only [q1, q2] at h; cases h
    | some e =>
      simp only [q1, q2] at h
      split at h
      · rename_i hs
        cases h
        exact ⟨d, e, rfl, rfl, hs.1, hs.2, rfl⟩
      · cases h
theorem o_eqD {k : Nat} (hK : Z.K = X.K) (hr : Room k X.A) : Op2 X Z W (compareOp .Eq) (gLook hEqD) := op2_read (op_eqD hr.units) fun {Hs ρ H t u x y res Q} m ht hu e q => by
  obtain ⟨b, e1, rfl⟩ := Option.map_eq_some_iff.mp e
  obtain ⟨d, f, h1, h2, h3, h4, rfl⟩ := eqD_some e1
  exact ⟨d, f, by rw [← hK]; exact vpd_dp m ht h1, by rw [← hK]; exact vpd_dp m hu h2, h3, h4, q _ (by simp only [Rep])⟩
theorem o_neD {k : Nat} (hK : Z.K = X.K) (hr : Room k X.A) : Op2 X Z W (compareOp .NotEq) (gLook hNeD) := op2_read (op_neD hr.units) fun {Hs ρ H t u x y res Q} m ht hu e q => by
  obtain ⟨b, e1, rfl⟩ := Option.map_eq_some_iff.mp e
  obtain ⟨d, f, h1, h2, h3, h4, rfl⟩ := eqD_some e1
  exact ⟨d, f, by rw [← hK]; exact vpd_dp m ht h1, by rw [← hK]; exact vpd_dp m hu h2, h3, h4, q _ (by simp only [Rep])⟩
def inD (t : T) : T → Option Bool
  | .lst us => match pd t, pdL us with
    | some d, some ds => if SeqAt.shaped d = true ∧ SeqAt.shaped (.list ds) = true then some (ds.any fun z => PyData.eqv z d) else none
    | _, _ => none
  | _ => none
def hInD (t u : T) : Option T := (inD t u).map .bl
def hNotInD (t u : T) : Option T := (inD t u).map fun b => .bl !b
theorem inD_some {t u : T} {b : Bool} (h : inD t u = some b) : ∃ d ds, pd t = some d ∧ pd u = some (.list ds) ∧ SeqAt.shaped d = true ∧ SeqAt.shaped (.list ds) = true ∧ b = ds.any fun z => PyData.eqv z d := by
  match u, h with
  | .lst us, h =>
    simp only [inD] at h
    cases q1 : pd t with
    | none => simp only [q1] at h; cases h
    | some d =>
      cases q2 : pdL us with
      | none => simp only [q1, q2] at h; cases h
      | some e =>
        simp only [q1, q2] at h
        split at h
        · rename_i hs
          cases h
          exact ⟨d, e, rfl, by simp [pd, q2], hs.1, hs.2, rfl⟩
        · cases h
theorem u65 {k : Nat} {A : Around} (hr : Room (k + 1) A) : A.units + 65 < cLine := by
  have h1 : Room k A.in1 := hr.in1
  have := h1.units
  show A.units + 65 < cLine
  have e : A.in1.units = A.units + 1 := rfl
  omega
theorem o_inD {k : Nat} (hK : Z.K = X.K) (hr : Room (k + 1) X.A) : Op2 X Z W (compareOp .In) (gLook hInD) := op2_read (op_inD (u65 hr)) fun {Hs ρ H t u x y res Q} m ht hu e q => by
  obtain ⟨b, e1, rfl⟩ := Option.map_eq_some_iff.mp e
  obtain ⟨d, f, h1, h2, h3, h4, rfl⟩ := inD_some e1
  exact ⟨d, f, by rw [← hK]; exact vpd_dp m ht h1, by rw [← hK]; exact vpd_dp m hu h2, h3, h4, q _ (by simp only [Rep])⟩
theorem o_notInD {k : Nat} (hK : Z.K = X.K) (hr : Room (k + 1) X.A) : Op2 X Z W (compareOp .NotIn) (gLook hNotInD) := op2_read (op_notInD (u65 hr)) fun {Hs ρ H t u x y res Q} m ht hu e q => by
  obtain ⟨b, e1, rfl⟩ := Option.map_eq_some_iff.mp e
  obtain ⟨d, f, h1, h2, h3, h4, rfl⟩ := inD_some e1
  exact ⟨d, f, by rw [← hK]; exact vpd_dp m ht h1, by rw [← hK]; exact vpd_dp m hu h2, h3, h4, q _ (by simp only [Rep])⟩
/-- one sign in a text -/
def sign1 (x : Str) : Option Nat := match x.cps.toList with
  | [c] => some c
  | _ => none
theorem sign1_some {x : Str} {c : Nat} (h : sign1 x = some c) : x = ⟨#[c]⟩ := by
  unfold sign1 at h
  split at h
  · rename_i d e
    cases h
    cases x with
    | mk a =>
      have e : a.toList = [c] := e
      have : a = #[c] := by rw [← Array.toArray_toList (xs := a), e]
      rw [this]
  · cases h
def inS : T → T → Option Bool
  | .str x, .str z => (sign1 x).map fun c => decide (c ∈ z.cps.toList)
  | _, _ => none
def hInS (t u : T) : Option T := (inS t u).map .bl
def hNotInS (t u : T) : Option T := (inS t u).map fun b => .bl !b
theorem inS_some {t u : T} {b : Bool} (h : inS t u = some b) : ∃ c z, t = .str ⟨#[c]⟩ ∧ u = .str z ∧ b = decide (c ∈ z.cps.toList) := by
  match t, u, h with
  | .str x, .str z, h =>
    simp only [inS] at h
    obtain ⟨c, h1, rfl⟩ := Option.map_eq_some_iff.mp h
    exact ⟨c, z, by rw [sign1_some h1], rfl, rfl⟩
theorem o_inS : Op2 X Z W (compareOp .In) (gLook hInS) := op2_read op_in_sign fun {Hs ρ H t u x y res Q} m ht hu e q => by
  obtain ⟨b, e1, rfl⟩ := Option.map_eq_some_iff.mp e
  obtain ⟨c, z, rfl, rfl, rfl⟩ := inS_some e1
  simp only [VRep, Rep] at ht hu
  exact ⟨c, z, ht, hu, q _ (by simp only [Rep])⟩
theorem o_notInS : Op2 X Z W (compareOp .NotIn) (gLook hNotInS) := op2_read op_notIn_sign fun {Hs ρ H t u x y res Q} m ht hu e q => by
  obtain ⟨b, e1, rfl⟩ := Option.map_eq_some_iff.mp e
  obtain ⟨c, z, rfl, rfl, rfl⟩ := inS_some e1
  simp only [VRep, Rep] at ht hu
  exact ⟨c, z, ht, hu, q _ (by simp only [Rep])⟩
end TL
namespace TL
open PySem PySem.Spec L2
open PyProof.Rows hiding St
variable {Z : Sg} {B : B0} {W : WX} {Hs Hs' Hs2 : Hp} {ρ ρ' ρ2 : List Addr} {σ : St} {H H' H2 : Hp} {s : S}
variable {X : Cx} {e e1 e2 e3 : Expr} {es : List Expr} {pos p p1 p2 p3 : Pos} {fo : Value → Value → Sem Value}

def RepRs (Z : Sg) (Hs : Hp) (ρ : List Addr) (σ : St) : List RV → List V → Prop
  | [], vs => vs = []
  | r :: rs, vs => ∃ v t, vs = v :: t ∧ RepR Z Hs ρ σ r v ∧ RepRs Z Hs ρ σ rs t
theorem RepRs.nil : RepRs Z Hs ρ σ [] [] := rfl
theorem RepRs.cons {r : RV} {rs : List RV} {v : V} {vs : List V} (h : RepR Z Hs ρ σ r v) (h2 : RepRs Z Hs ρ σ rs vs) : RepRs Z Hs ρ σ (r :: rs) (v :: vs) := ⟨v, vs, rfl, h, h2⟩
theorem RepRs.one {r : RV} {xs : List V} (h : RepRs Z Hs ρ σ [r] xs) : ∃ x, xs = [x] ∧ RepR Z Hs ρ σ r x := by
  obtain ⟨x, t, rfl, h1, h2⟩ := h
  have h2 : t = [] := h2
  subst h2
  exact ⟨x, rfl, h1⟩
def tArR (Z : Sg) (B : B0) (W : WX) (c : M (List RV)) : TA := fun σ H Q => ∃ Hs ρ s, Rel Z B Hs ρ σ H s ∧ FIN Z B W Hs ρ σ (fun ts Hs' ρ' H' _ => ∀ vs, RepRs Z Hs' ρ' σ ts vs → Q vs H') (c s)
def AR (X : Cx) (Z : Sg) (W : WX) (es : List Expr) (c : M (List RV)) : Prop := ∀ B, PA X es (tArR Z B W c)
@[simp] def rNil : M (List RV) := ret []
@[simp] def rCons (c : M RV) (cs : M (List RV)) : M (List RV) := TL.bnd c fun t => TL.bnd cs fun ts => ret (t :: ts)
theorem ar_nil : AR X Z W [] rNil := fun B => pa_nil.wk fun σ H Q ⟨Hs, ρ, s, R, f⟩ => f.here R [] .nil
theorem ar_cons {c : M RV} {cs : M (List RV)} (h : ER X Z W e c) (h2 : AR X Z W es cs) (he : starEach (e :: es) X.env = (false, eval e X.env) :: starEach es X.env := by rfl) : AR X Z W (e :: es) (rCons c cs) := fun B =>
  (pa_cons (h B) (h2 B) he).wk fun σ H Q ⟨Hs, ρ, s, R, f⟩ => ⟨Hs, ρ, s, R, f.bnd.imp fun t Hs1 ρ1 H1 s1 R1 _ _ q v hv => ⟨Hs1, ρ1, s1, R1, q.bnd.imp fun ts Hs2 ρ2 H2 s2 R2 m p q2 vs hvs => q2.here R2 _ (.cons (hv.mono' m p) hvs)⟩⟩

def CallT (X : Cx) (Z : Sg) (W : WX) (f : Value) (g : List RV → M T) : Prop := ∀ B, CallR X f fun xs H Q => ∃ σ Hs ρ s rs, Rel Z B Hs ρ σ H s ∧ RepRs Z Hs ρ σ rs xs ∧ FIN Z B W Hs ρ σ (fun t Hs' ρ' H' _ => ∀ v, Rep Z Hs' ρ' t v → Q v H') (g rs s)
def CallF (X : Cx) (Z : Sg) (W : WX) (f : Value) (g : List RV → M T) : Prop := ∀ B, CallR X f fun xs H Q => ∃ σ Hs ρ s rs, Rel Z B Hs ρ σ H s ∧ RepRs Z Hs ρ σ rs xs ∧ FIN Z B W Hs ρ σ (fun t Hs' ρ' H' s' => ∀ p H2, Rel Z B Hs' ρ' σ H2 s' → Loose Z B Hs' ρ' σ H2 s' p t → Q (.ref p) H2) (g rs s)
@[simp] def cCallB (cs : M (List RV)) (g : List RV → M T) : M T := TL.bnd cs g
section
variable {g : List RV → M T} {cs : M (List RV)} {id n : String} {x : Str}
theorem ev_callB (hc : CallT X Z W (.builtin id) g) (ha : AR X Z W (e :: es) cs) (hg : Gl X x) (hm : X.mg x = none) (hv : bootBuiltins x = some (.builtin id)) (hn : x ≠ "__name__" := by decide) (hdb : (x == ("__debug__" : Str)) = false := by decide)
    (he : starEach (e :: es) X.env = (false, eval e X.env) :: starEach es X.env := by rfl) (hpl : (backTo pos (starEach es X.env)).any (·.1) = false := by rfl) : EV X Z W (.Call (.Name x p) (e :: es) [] pos) (cCallB cs g) := fun B =>
  (pe_callB (hc B) hg hm hv (ha B) hn hdb he hpl).wk fun σ H Q ⟨Hs, ρ, s, R, f⟩ => ⟨Hs, ρ, s, R, f.bnd.imp fun rs Hs1 ρ1 H1 s1 R1 _ _ q vs hvs => ⟨σ, Hs1, ρ1, s1, rs, R1, hvs, q⟩⟩
theorem ev_callTy (hc : CallT X Z W (.type n) g) (ha : AR X Z W (e :: es) cs) (hg : Gl X x) (hm : X.mg x = none) (hv : bootBuiltins x = some (.type n)) (hn : x ≠ "__name__" := by decide) (hdb : (x == ("__debug__" : Str)) = false := by decide)
    (he : starEach (e :: es) X.env = (false, eval e X.env) :: starEach es X.env := by rfl) (hpl : (backTo pos (starEach es X.env)).any (·.1) = false := by rfl) : EV X Z W (.Call (.Name x p) (e :: es) [] pos) (cCallB cs g) := fun B =>
  (pe_callTy (hc B) hg hm hv (ha B) hn hdb he hpl).wk fun σ H Q ⟨Hs, ρ, s, R, f⟩ => ⟨Hs, ρ, s, R, f.bnd.imp fun rs Hs1 ρ1 H1 s1 R1 _ _ q vs hvs => ⟨σ, Hs1, ρ1, s1, rs, R1, hvs, q⟩⟩
theorem ef_callB (hc : CallF X Z W (.builtin id) g) (ha : AR X Z W (e :: es) cs) (hg : Gl X x) (hm : X.mg x = none) (hv : bootBuiltins x = some (.builtin id)) (hn : x ≠ "__name__" := by decide) (hdb : (x == ("__debug__" : Str)) = false := by decide)
    (he : starEach (e :: es) X.env = (false, eval e X.env) :: starEach es X.env := by rfl) (hpl : (backTo pos (starEach es X.env)).any (·.1) = false := by rfl) : EF X Z W (.Call (.Name x p) (e :: es) [] pos) (cCallB cs g) := fun B =>
  (pe_callB (hc B) hg hm hv (ha B) hn hdb he hpl).wk fun σ H Q ⟨Hs, ρ, s, R, f⟩ => ⟨Hs, ρ, s, R, f.bnd.imp fun rs Hs1 ρ1 H1 s1 R1 _ _ q vs hvs => ⟨σ, Hs1, ρ1, s1, rs, R1, hvs, q⟩⟩
theorem ef_callTy (hc : CallF X Z W (.type n) g) (ha : AR X Z W (e :: es) cs) (hg : Gl X x) (hm : X.mg x = none) (hv : bootBuiltins x = some (.type n)) (hn : x ≠ "__name__" := by decide) (hdb : (x == ("__debug__" : Str)) = false := by decide)
    (he : starEach (e :: es) X.env = (false, eval e X.env) :: starEach es X.env := by rfl) (hpl : (backTo pos (starEach es X.env)).any (·.1) = false := by rfl) : EF X Z W (.Call (.Name x p) (e :: es) [] pos) (cCallB cs g) := fun B =>
  (pe_callTy (hc B) hg hm hv (ha B) hn hdb he hpl).wk fun σ H Q ⟨Hs, ρ, s, R, f⟩ => ⟨Hs, ρ, s, R, f.bnd.imp fun rs Hs1 ρ1 H1 s1 R1 _ _ q vs hvs => ⟨σ, Hs1, ρ1, s1, rs, R1, hvs, q⟩⟩
theorem CallT.alt {g g' : List RV → M T} {f : Value} (h : CallT X Z W f g) (h' : CallT X Z W f g') : CallT X Z W f (fun rs s => match g rs s with | .stuck => g' rs s | o => o) := fun B => ((h B).oder (h' B)).wk fun xs H Q ⟨σ, Hs, ρ, s, rs, R, hr, f⟩ => by
  cases q : g rs s with
  | ok t s1 => simp only [q] at f; exact .inl ⟨σ, Hs, ρ, s, rs, R, hr, by rw [q]; exact f⟩
  | exc c fs s1 => simp only [q] at f; exact .inl ⟨σ, Hs, ρ, s, rs, R, hr, by rw [q]; exact f⟩
  | stuck => simp only [q] at f; exact .inr ⟨σ, Hs, ρ, s, rs, R, hr, f⟩
end
/-- one argument, only read -/
@[simp] def gL1 (h : T → Option T) : List RV → M T
  | [a] => fun s => match look a s with
    | some t => (match h t with
      | some r => .ok r s
      | none => .stuck)
    | _ => .stuck
  | _ => stk
theorem call1_read {h : T → Option T} {f : Value} {r : List V → Hp → VK → Prop} (ho : CallR X f r)
    (k : ∀ {Hs ρ H t x res} {Q : VK}, Mono Hs H → VRep Z Hs ρ H t x → h t = some res → (∀ v, Rep Z Hs ρ res v → Q v H) → r [x] H Q) : CallT X Z W f (gL1 h) := fun B => ho.wk fun xs H Q ⟨σ, Hs, ρ, s, rs, R, hr, f⟩ => by
  match rs, hr, f with
  | [a], hr, f =>
    obtain ⟨x, rfl, ha⟩ := hr.one
    cases q1 : look a s with
    | none => simp only [gL1, q1] at f; exact f.elim
    | some t =>
      cases q3 : h t with
      | none => simp only [gL1, q1, q3] at f; exact f.elim
      | some res =>
        simp only [gL1, q1, q3] at f
        exact k R.rg.sub (R.look_ok ha q1) q3 (f.here R)
  | [], _, f => exact f.elim
  | _ :: _ :: _, _, f => exact f.elim
/-- .. that makes a new object -/
theorem call1_new {h : T → Option T} {f : Value} {r : List V → Hp → VK → Prop} (ho : CallR X f r)
    (k : ∀ {Hs ρ H t x res} {Q : VK}, Mono Hs H → VRep Z Hs ρ H t x → h t = some res → (∀ (p : Addr) (o : HO), H p = none → (∀ Hx : Hp, Hx p = some o → CRep Z Hs ρ Hx p res) → Q (.ref p) (upd H p o)) → r [x] H Q) : CallF X Z W f (gL1 h) := fun B => ho.wk fun xs H Q ⟨σ, Hs, ρ, s, rs, R, hr, f⟩ => by
  match rs, hr, f with
  | [a], hr, f =>
    obtain ⟨x, rfl, ha⟩ := hr.one
    cases q1 : look a s with
    | none => simp only [gL1, q1] at f; exact f.elim
    | some t =>
      cases q3 : h t with
      | none => simp only [gL1, q1, q3] at f; exact f.elim
      | some res =>
        simp only [gL1, q1, q3] at f
        refine k R.rg.sub (R.look_ok ha q1) q3 fun p o hp hc => ?_
        obtain ⟨R2, l⟩ := R.newLoose (o := o) (t := res) hp hc
        exact f.here R p _ R2 l
  | [], _, f => exact f.elim
  | _ :: _ :: _, _, f => exact f.elim
def hLen : T → Option T
  | .str x => if fits x.length = true then some (.int x.length) else none
  | .lst xs => some (.int xs.length)
  | .tup xs => some (.int xs.length)
  | _ => none
theorem c_len (hK : Z.K = X.K) : CallT X Z W (.builtin "len") (gL1 hLen) := call1_read call_len fun {Hs ρ H t x res Q} m ht e q => by
  match t, e with
  | .str z, e =>
    simp only [VRep, Rep] at ht
    by_cases h : fits z.length = true
    · simp only [hLen, if_pos h, Option.some.injEq] at e
      subst e ht
      exact ⟨_, _, rfl, ⟨fits_le h, rfl⟩, q _ (by simp only [Rep])⟩
    · simp only [hLen, if_neg h] at e; cases e
  | .lst xs, e =>
    simp only [hLen, Option.some.injEq] at e
    subst e
    obtain ⟨a, vs, rfl, h1, h2, h3⟩ := ht
    exact ⟨_, _, rfl, .inl ⟨vs, .inl h1, rfl⟩, q _ (by simp only [Rep, h2.length])⟩
  | .tup xs, e =>
    simp only [hLen, Option.some.injEq] at e
    subst e
    simp only [VRep, Rep] at ht
    obtain ⟨a, vs, rfl, h1, h2, h3⟩ := ht
    exact ⟨_, _, rfl, .inr ⟨vs, by rw [← hK]; exact sqT_mono m h1, rfl⟩, q _ (by simp only [Rep, h2.length])⟩
def hList : T → Option T
  | .lst xs => some (.lst xs)
  | .tup xs => some (.lst xs)
  | _ => none
theorem c_list (hK : Z.K = X.K) : CallF X Z W (.type "list") (gL1 hList) := call1_new call_list_of fun {Hs ρ H t x res Q} m ht e q => by
  match t, e with
  | .lst xs, e =>
    simp only [hList, Option.some.injEq] at e
    subst e
    obtain ⟨a, vs, rfl, h1, h2, h3⟩ := ht
    exact ⟨_, vs, rfl, .inl (.inl h1), fun l hl => q l _ hl fun Hx hx => ⟨vs, hx, h2, h3⟩⟩
  | .tup xs, e =>
    simp only [hList, Option.some.injEq] at e
    subst e
    simp only [VRep, Rep] at ht
    obtain ⟨a, vs, rfl, h1, h2, h3⟩ := ht
    exact ⟨_, vs, rfl, .inr (by rw [← hK]; exact sqT_mono m h1), fun l hl => q l _ hl fun Hx hx => ⟨vs, hx, h2, h3⟩⟩
/-- the intsT that a list is -/
def intsT : List T → Option (List Int)
  | [] => some []
  | .int i :: ts => (intsT ts).map (i :: ·)
  | _ :: _ => none
theorem intsT_rep : ∀ {ts : List T} {ns : List Int} {vs : List V}, intsT ts = some ns → RepL Z Hs ρ ts vs → vs = ns.map V.int
  | [], ns, vs, e, h => by simp only [RepL] at h; simp only [intsT, Option.some.injEq] at e; subst h e; rfl
  | t :: ts, ns, vs, e, h => by
    simp only [RepL] at h
    obtain ⟨v, r, rfl, h1, h2⟩ := h
    cases t with
    | int i =>
      simp only [intsT] at e
      obtain ⟨ms, e1, rfl⟩ := Option.map_eq_some_iff.mp e
      simp only [Rep] at h1
      subst h1
      rw [intsT_rep e1 h2]; rfl
    | _ => simp only [intsT] at e; cases e
def hSum : T → Option T
  | .lst xs => (intsT xs).map fun ns => .int ns.sum
  | .tup xs => none
  | _ => none
theorem c_sum (hc : X.calm = true) (hK : Z.K = X.K) : CallT X Z W (.builtin "sum") (gL1 hSum) := call1_read (cr_sum hc) fun {Hs ρ H t x res Q} m ht e q => by
  match t, e with
  | .lst xs, e =>
    simp only [hSum] at e
    obtain ⟨ns, e1, rfl⟩ := Option.map_eq_some_iff.mp e
    obtain ⟨a, vs, rfl, h1, h2, h3⟩ := ht
    have := intsT_rep e1 h2
    subst this
    exact ⟨a, ns, rfl, .inl h1, q _ (by simp only [Rep])⟩
def hInt : T → Option T
  | .int i => some (.int i)
  | .bl b => some (.int (if b = true then 1 else 0))
  | _ => none
theorem c_int : CallT X Z W (.type "int") (gL1 hInt) := call1_read call_int1 fun {Hs ρ H t x res Q} m ht e q => by
  match t, e with
  | .int i, e =>
    simp only [hInt, Option.some.injEq] at e
    simp only [VRep, Rep] at ht
    subst e ht
    exact .inl ⟨i, rfl, q _ (by simp only [Rep])⟩
  | .bl b, e =>
    simp only [hInt, Option.some.injEq] at e
    simp only [VRep, Rep] at ht
    subst e ht
    exact .inr ⟨b, rfl, q _ (by simp only [Rep])⟩
def hIntS : T → Option T
  | .str x => if x.length ≤ 640 then (PySem.intText? x).map .int else none
  | _ => none
theorem c_intS : CallT X Z W (.type "int") (gL1 hIntS) := call1_read call_int_str fun {Hs ρ H t x res Q} m ht e q => by
  match t, e with
  | .str z, e =>
    by_cases h : z.length ≤ 640
    · simp only [hIntS, if_pos h] at e
      obtain ⟨n, e1, rfl⟩ := Option.map_eq_some_iff.mp e
      simp only [VRep, Rep] at ht
      subst ht
      exact ⟨z, n, rfl, e1, h, q _ (by simp only [Rep])⟩
    · simp only [hIntS, if_neg h] at e; cases e
def hStr : T → Option T
  | .int i => if i.natAbs.log2 < 1920 then some (.str (toString i)) else none
  | _ => none
theorem c_str : CallT X Z W (.type "str") (gL1 hStr) := call1_read call_str_int fun {Hs ρ H t x res Q} m ht e q => by
  match t, e with
  | .int i, e =>
    by_cases h : i.natAbs.log2 < 1920
    · simp only [hStr, if_pos h, Option.some.injEq] at e
      simp only [VRep, Rep] at ht
      subst e ht
      exact ⟨i, rfl, h, q _ (by simp only [Rep])⟩
    · simp only [hStr, if_neg h] at e; cases e

theorem _root_.L2.IxR.wk {r r' : R2} (h : IxR X r) (k : ∀ x y H Q, r' x y H Q → r x y H Q) : IxR X r' := fun va sl pins s σ H x y v u Q I rx ry q hs => h va sl pins s σ H x y v u Q I rx ry (k _ _ _ _ q) hs
def hIx : T → T → Option T
  | .lst xs, .int i => atI xs i
  | .tup xs, .int i => atI xs i
  | .str z, .int i => if fits z.length = true then (atI z.cps.toList i).map fun c => .str ⟨#[c]⟩ else none
  | _, _ => none
theorem atI_rep {ts : List T} {vs : List V} {i : Int} {t : T} (h : RepL Z Hs ρ ts vs) (e : atI ts i = some t) : ∃ v, atI vs i = some v ∧ Rep Z Hs ρ t v := by
  unfold atI at e ⊢
  rw [h.length]
  obtain ⟨j, h1, h2⟩ := Option.bind_eq_some_iff.mp e
  obtain ⟨v, h3, h4⟩ := h.get h2
  exact ⟨v, Option.bind_eq_some_iff.mpr ⟨j, h1, h3⟩, h4⟩
theorem ev_ix {c1 c2 : M RV} (hK : Z.K = X.K) (h1 : ER X Z W e1 c1) (h2 : ER X Z W e2 c2) (hs : PlainIx e2) : EV X Z W (.Subscript e1 e2 pos) (cBin c1 c2 (gLook hIx)) := fun B =>
  (pe_ix (ix_seq.wk (r' := fun x y H Q => ∃ σ Hs ρ s a b, Rel Z B Hs ρ σ H s ∧ RepR Z Hs ρ σ a x ∧ RepR Z Hs ρ σ b y ∧ FIN Z B W Hs ρ σ (fun t Hs' ρ' H' _ => ∀ v, Rep Z Hs' ρ' t v → Q v H') (gLook hIx a b s)) (by
    rintro x y H Q ⟨σ, Hs, ρ, s, a, b, R, ha, hb, f⟩
    cases q1 : look a s with
    | none => simp only [gLook, q1] at f; exact f.elim
    | some t =>
      cases q2 : look b s with
      | none => simp only [gLook, q1, q2] at f; exact f.elim
      | some u =>
        cases q3 : hIx t u with
        | none => simp only [gLook, q1, q2, q3] at f; exact f.elim
        | some res =>
          simp only [gLook, q1, q2, q3] at f
          have va := R.look_ok ha q1
          have vb := R.look_ok hb q2
          have f := f.here R
          match t, u, q3 with
          | .lst xs, .int i, q3 =>
            simp only [hIx] at q3
            simp only [VRep, Rep] at vb
            obtain ⟨l, vs, rfl, g1, g2, g3⟩ := va
            obtain ⟨v, g4, g5⟩ := atI_rep g2 q3
            exact .inl ⟨l, vs, i, v, rfl, vb, .inl g1, g4, f v g5⟩
          | .tup xs, .int i, q3 =>
            simp only [hIx] at q3
            simp only [VRep, Rep] at va vb
            obtain ⟨l, vs, rfl, g1, g2, g3⟩ := va
            obtain ⟨v, g4, g5⟩ := atI_rep g2 q3
            exact .inr (.inl ⟨l, vs, i, v, rfl, vb, by rw [← hK]; exact sqT_mono R.rg.sub g1, g4, f v g5⟩)
          | .str z, .int i, q3 =>
            by_cases h : fits z.length = true
            · simp only [hIx, if_pos h] at q3
              obtain ⟨c, g1, rfl⟩ := Option.map_eq_some_iff.mp q3
              simp only [VRep, Rep] at va vb
              exact .inr (.inr ⟨z, i, c, va, vb, fits_le h, g1, f _ (by simp only [Rep])⟩)
            · simp only [hIx, if_neg h] at q3; cases q3)) (h1 B) (h2 B) hs).wk fun σ H Q h => bin_read (f := fun _ _ => pure .none) h

end TL
namespace TL
open PySem PySem.Spec L2
open PyProof.Rows hiding St
variable {Z : Sg} {B : B0} {W : WX} {Hs Hs' Hs2 : Hp} {ρ ρ' ρ2 : List Addr} {σ : St} {H H' H2 : Hp} {s : S}
variable {X : Cx} {e e1 e2 e3 : Expr} {es : List Expr} {pos p p1 p2 p3 : Pos} {fo : Value → Value → Sem Value}

def tOO (Z : Sg) (B : B0) (W : WX) (c : M (Option Int)) : TO := fun σ H Q => ∃ Hs ρ s, Rel Z B Hs ρ σ H s ∧ FIN Z B W Hs ρ σ (fun o _ _ H' _ => Q o H') (c s)
def EO (X : Cx) (Z : Sg) (W : WX) (e : Option Expr) (c : M (Option Int)) : Prop := ∀ B, PO X e (tOO Z B W c)
theorem _root_.L2.PO.wk {e : Option Expr} {t t' : TO} (h : PO X e t) (k : ∀ σ H Q, t' σ H Q → t σ H Q) : PO X e t' := ⟨fun pins s σ H Q I q => h.run pins s σ H Q I (k σ H Q q)⟩
theorem _root_.L2.SlR.wk {r r' : V → Option Int → Option Int → Hp → VK → Prop} (h : SlR X r) (k : ∀ x l u H Q, r' x l u H Q → r x l u H Q) : SlR X r' := fun pins s σ H x v vl vu lo hi sl Q I rx is pl pu q => h pins s σ H x v vl vu lo hi sl Q I rx is pl pu (k _ _ _ _ _ q)
@[simp] def oNone : M (Option Int) := ret none
theorem eo_none : EO X Z W none oNone := fun B => po_none.wk fun σ H Q ⟨Hs, ρ, s, R, f⟩ => f.here R
def asO : T → M (Option Int)
  | .int i => ret (some i)
  | _ => stk
@[simp] def oSome (c : M T) : M (Option Int) := TL.bnd c asO
theorem eo_some {c : M T} (h : EV X Z W e c) : EO X Z W (some e) (oSome c) := fun B => (po_some (h B)).wk fun σ H Q ⟨Hs, ρ, s, R, f⟩ => ⟨Hs, ρ, s, R, f.bnd.imp fun t Hs1 ρ1 H1 s1 R1 _ _ q v hv => by
  cases t with
  | int i => exact ⟨i, by simpa only [Rep] using hv, q.here R1⟩
  | _ => exact q.elim⟩
/-- the items of xs[lo:hi] -/
def cutT {α : Type} (xs : List α) (lo hi : Option Int) : List α := (xs.drop (HT.sIx xs.length 0 lo)).take (HT.sIx xs.length xs.length hi - HT.sIx xs.length 0 lo)
theorem cutT_rep {ts : List T} {vs : List V} {lo hi : Option Int} (h : RepL Z Hs ρ ts vs) : RepL Z Hs ρ (cutT ts lo hi) (cutV vs lo hi) := by
  unfold cutT cutV
  rw [h.length]
  exact (h.drop _).take _
theorem cutT_len {α : Type} (xs : List α) (lo hi : Option Int) : (cutT xs lo hi).length ≤ xs.length := by
  unfold cutT
  rw [List.length_take, List.length_drop]
  omega
@[simp] def cSl (c : M RV) (lo hi : M (Option Int)) (h : T → Option Int → Option Int → Option T) : M T := TL.bnd c fun a => TL.bnd lo fun l => TL.bnd hi fun u => fun s => match look a s with
  | some t => (match h t l u with
    | some r => .ok r s
    | none => .stuck)
  | none => .stuck
section
variable {lo hi : Option Expr} {c : M RV} {cl ch : M (Option Int)}
theorem sl_read {Q : VK} {h : T → Option Int → Option Int → Option T} {P : T → Hp → List Addr → Hp → S → Prop} {Hs : Hp} {ρ : List Addr} {s : S} (R : Rel Z B Hs ρ σ H s) (f : FIN Z B W Hs ρ σ P (cSl c cl ch h s)) :
    tR Z B W c σ H fun x H1 => tOO Z B W cl σ H1 fun l H2 => tOO Z B W ch σ H2 fun u H3 => ∃ Hs ρ s a t r, Rel Z B Hs ρ σ H3 s ∧ RepR Z Hs ρ σ a x ∧ look a s = some t ∧ h t l u = some r ∧ P r Hs ρ H3 s ∧
      FIN Z B W Hs ρ σ P (.ok r s) :=
  ⟨Hs, ρ, s, R, f.bnd.imp fun a Hs1 ρ1 H1 s1 R1 _ _ q v hv => ⟨Hs1, ρ1, s1, R1, q.bnd.imp fun l Hs2 ρ2 H2 s2 R2 m p q2 => ⟨Hs2, ρ2, s2, R2, q2.bnd.imp fun u Hs3 ρ3 H3 s3 R3 m3 p3 q3 => by
    cases e1 : look a s3 with
    | none => simp only [e1] at q3; exact q3.elim
    | some t =>
      cases e2 : h t l u with
      | none => simp only [e1, e2] at q3; exact q3.elim
      | some r =>
        simp only [e1, e2] at q3
        exact ⟨Hs3, ρ3, s3, a, t, r, R3, (hv.mono' m p).mono' m3 p3, e1, e2, q3.here R3, q3⟩⟩⟩⟩
def hSlL : T → Option Int → Option Int → Option T
  | .lst xs, l, u => some (.lst (cutT xs l u))
  | _, _, _ => none
theorem ef_slL (hK : Z.K = X.K) (h1 : ER X Z W e c) (hl : EO X Z W lo cl) (hh : EO X Z W hi ch) : EF X Z W (.Subscript e (.Slice lo hi none p2) pos) (cSl c cl ch hSlL) := fun B =>
  (pe_slice sl_list (h1 B) (hl B) (hh B)).wk fun σ H Q ⟨Hs, ρ, s, R, f⟩ => by
    obtain ⟨Hs0, ρ0, s0, R0, g⟩ := sl_read (Q := Q) R f
    refine ⟨Hs0, ρ0, s0, R0, g.imp fun a Hs1 ρ1 H1 s1 _ _ _ q1 v hv => ?_⟩
    obtain ⟨Hs1, ρ1, s1, R1, g1⟩ := q1 v hv
    refine ⟨Hs1, ρ1, s1, R1, g1.imp fun l Hs2 ρ2 H2 s2 _ _ _ q2 => ?_⟩
    obtain ⟨Hs2, ρ2, s2, R2, g2⟩ := q2
    refine ⟨Hs2, ρ2, s2, R2, g2.imp fun u Hs3 ρ3 H3 s3 _ _ _ q3 => ?_⟩
    obtain ⟨Hs4, ρ4, s4, a, t, r, R4, ha, e1, e2, q4, _⟩ := q3
    have va := R4.look_ok ha e1
    match t, e2 with
    | .lst xs, e2 =>
      simp only [hSlL, Option.some.injEq] at e2
      subst e2
      obtain ⟨b, vs, rfl, g1, g2, g3⟩ := va
      refine ⟨b, vs, rfl, .inl g1, fun p hp => ?_⟩
      obtain ⟨R5, lo⟩ := R4.newLoose (o := .lst (cutV vs l u)) (t := .lst (cutT xs l u)) hp fun Hx hx => ⟨_, hx, cutT_rep g2, Nat.le_trans (cutT_len _ _ _) g3⟩
      exact q4 p _ R5 lo
def hSlS : T → Option Int → Option Int → Option T
  | .str z, l, u => if fits z.length = true then some (.str (Txt.slice z l u)) else none
  | _, _, _ => none
theorem ev_slS (h1 : ER X Z W e c) (hl : EO X Z W lo cl) (hh : EO X Z W hi ch) : EV X Z W (.Subscript e (.Slice lo hi none p2) pos) (cSl c cl ch hSlS) := fun B =>
  (pe_slice C8.sl_txt (h1 B) (hl B) (hh B)).wk fun σ H Q ⟨Hs, ρ, s, R, f⟩ => by
    obtain ⟨Hs0, ρ0, s0, R0, g⟩ := sl_read (Q := Q) R f
    refine ⟨Hs0, ρ0, s0, R0, g.imp fun a Hs1 ρ1 H1 s1 _ _ _ q1 v hv => ?_⟩
    obtain ⟨Hs1, ρ1, s1, R1, g1⟩ := q1 v hv
    refine ⟨Hs1, ρ1, s1, R1, g1.imp fun l Hs2 ρ2 H2 s2 _ _ _ q2 => ?_⟩
    obtain ⟨Hs2, ρ2, s2, R2, g2⟩ := q2
    refine ⟨Hs2, ρ2, s2, R2, g2.imp fun u Hs3 ρ3 H3 s3 _ _ _ q3 => ?_⟩
    obtain ⟨Hs4, ρ4, s4, a, t, r, R4, ha, e1, e2, q4, _⟩ := q3
    have va := R4.look_ok ha e1
    match t, e2 with
    | .str z, e2 =>
      by_cases hz : fits z.length = true
      · simp only [hSlS, if_pos hz, Option.some.injEq] at e2
        subst e2
        simp only [VRep, Rep] at va
        exact ⟨z, va, fits_le hz, q4 _ (by simp only [Rep])⟩
      · simp only [hSlS, if_neg hz] at e2; cases e2
def hSlT : T → Option Int → Option Int → Option T
  | .tup xs, l, u => some (.tup (cutT xs l u))
  | _, _, _ => none
theorem ev_slT (hK : Z.K = X.K) (h1 : ER X Z W e c) (hl : EO X Z W lo cl) (hh : EO X Z W hi ch) : EV X Z W (.Subscript e (.Slice lo hi none p2) pos) (cSl c cl ch hSlT) := fun B =>
  (pe_slice sl_tupA (h1 B) (hl B) (hh B)).wk fun σ H Q ⟨Hs, ρ, s, R, f⟩ => by
    obtain ⟨Hs0, ρ0, s0, R0, g⟩ := sl_read (Q := Q) R f
    refine ⟨Hs0, ρ0, s0, R0, g.imp fun a Hs1 ρ1 H1 s1 _ _ _ q1 v hv => ?_⟩
    obtain ⟨Hs1, ρ1, s1, R1, g1⟩ := q1 v hv
    refine ⟨Hs1, ρ1, s1, R1, g1.imp fun l Hs2 ρ2 H2 s2 _ _ _ q2 => ?_⟩
    obtain ⟨Hs2, ρ2, s2, R2, g2⟩ := q2
    refine ⟨Hs2, ρ2, s2, R2, g2.imp fun u Hs3 ρ3 H3 s3 _ _ _ q3 => ?_⟩
    obtain ⟨Hs4, ρ4, s4, a, t, r, R4, ha, e1, e2, q4, q5⟩ := q3
    have va := R4.look_ok ha e1
    match t, e2 with
    | .tup xs, e2 =>
      simp only [hSlT, Option.some.injEq] at e2
      subst e2
      have va' := va
      simp only [VRep, Rep] at va
      obtain ⟨b, vs, rfl, g1, g2, g3⟩ := va
      refine ⟨b, vs, rfl, by rw [← hK]; exact sqT_mono R4.rg.sub g1, fun hw => q4 _ ?_, fun hw p hp => ?_⟩
      · have : cutT xs l u = xs := by
          unfold cutT
          rw [← g2.length]
          rw [hw.1, hw.2]
          simp [g2.length]
        rw [this]; exact va'
      · refine q5.at (R4.alloc _ hp) (.up (R4.no_of hp).2.1) (List.prefix_refl _) _ ?_
        simp only [Rep]
        exact ⟨p, _, rfl, SqT.of upd_same, (cutT_rep g2).mono (.up (R4.no_of hp).2.1) (List.prefix_refl _), Nat.le_trans (cutT_len _ _ _) g3⟩
end

theorem _root_.L2.MtR.wk {id : String} {r r' : V → List V → Hp → VK → Prop} (h : MtR X id r) (k : ∀ x xs H Q, r' x xs H Q → r x xs H Q) : MtR X id r' := fun pins s σ H x xs v us Q I rx rs q => h pins s σ H x xs v us Q I rx rs (k _ _ _ _ q)
def tyB (n : String) : T → Bool
  | .str _ => n == "str"
  | .lst _ => n == "list"
  | _ => false
def chkT (n : String) (a : RV) : M Unit := fun s => match look a s with
  | some t => if tyB n t = true then .ok () s else .stuck
  | none => .stuck
theorem tyB_ok (hK : Z.K = X.K) {n : String} {t : T} {v : V} (h : VRep Z Hs ρ H t v) (e : tyB n t = true) : tyV X.K n v H := by
  cases t with
  | str z =>
    simp only [VRep, Rep] at h
    subst h
    exact eq_of_beq e
  | lst xs =>
    obtain ⟨b, vs, rfl, g1, g2, g3⟩ := h
    exact .inl ⟨eq_of_beq e, vs, .inl g1⟩
  | _ => cases e
def MtT (X : Cx) (Z : Sg) (W : WX) (id : String) (g : RV → List RV → M T) : Prop := ∀ B, MtR X id fun x xs H Q => ∃ σ Hs ρ s a rs, Rel Z B Hs ρ σ H s ∧ RepR Z Hs ρ σ a x ∧ RepRs Z Hs ρ σ rs xs ∧ FIN Z B W Hs ρ σ (fun t Hs' ρ' H' _ => ∀ v, Rep Z Hs' ρ' t v → Q v H') (g a rs s)
@[simp] def cBM (n : String) (co : M RV) (cs : M (List RV)) (g : RV → List RV → M T) : M T := TL.bnd co fun a => TL.bnd (chkT n a) fun _ => TL.bnd cs fun rs => g a rs
section
variable {o : Expr} {n id : String} {g : RV → List RV → M T} {co : M RV} {cs : M (List RV)} {name : Str} {apos cpos : Pos}
theorem ev_bm (hK : Z.K = X.K) (pa : PlainAttrs n) (slot : PySem.Slot n name id) (hty : typeOf (.builtin id) = pure (.type "method_descriptor")) (hm : MtT X Z W id g) (ho : ER X Z W o co) (ha : AR X Z W (e :: es) cs)
    (hbase : attributeBase o name X.env (eval o X.env) = eval o X.env := by rfl)
    (hfew : ((backTo cpos (starEach (e :: es) X.env)).all (fun x => !x.1) && (backToKw cpos (keywordEach [] X.env)).all (fun x => x.1.isSome)
      && decide ((e :: es).length + ([] : List Keyword).length + (if ([] : List Keyword).isEmpty then 0 else 1) < 30)) = true := by rfl)
    (hline : (apos.endLine == cpos.line) = true := by rfl) (hs : starEach (e :: es) X.env = (false, eval e X.env) :: starEach es X.env := by rfl) (hplain : (backTo cpos (starEach es X.env)).any (·.1) = false := by rfl) :
    EV X Z W (.Call (.Attribute o name apos) (e :: es) [] cpos) (cBM n co cs g) := fun B =>
  (pe_bm pa slot hty (hm B) (ho B) (ha B) hbase hfew hline hs hplain).wk fun σ H Q ⟨Hs, ρ, s, R, f⟩ => ⟨Hs, ρ, s, R, f.bnd.imp fun a Hs1 ρ1 H1 s1 R1 _ _ q v hv => by
    have q := q.bnd
    unfold chkT at q
    cases e1 : look a s1 with
    | none => simp only [e1] at q; exact q.elim
    | some t =>
      by_cases h : tyB n t = true
      · simp only [e1, if_pos h] at q
        exact ⟨tyB_ok hK (R1.look_ok hv e1) h, Hs1, ρ1, s1, R1, (q.here R1).bnd.imp fun rs Hs2 ρ2 H2 s2 R2 m p q2 vs hvs => ⟨σ, Hs2, ρ2, s2, a, rs, R2, hv.mono' m p, hvs, q2⟩⟩
      · simp only [e1, if_neg h] at q; exact q.elim⟩
theorem ev_bm0 (hK : Z.K = X.K) (pa : PlainAttrs n) (slot : PySem.Slot n name id) (hty : typeOf (.builtin id) = pure (.type "method_descriptor")) (hm : MtT X Z W id g) (ho : ER X Z W o co)
    (hbase : attributeBase o name X.env (eval o X.env) = eval o X.env := by rfl) (hline : (apos.endLine == cpos.line) = true := by rfl) :
    EV X Z W (.Call (.Attribute o name apos) [] [] cpos) (cBM n co rNil g) := fun B =>
  (pe_bm0 pa slot hty (hm B) (ho B) hbase hline).wk fun σ H Q ⟨Hs, ρ, s, R, f⟩ => ⟨Hs, ρ, s, R, f.bnd.imp fun a Hs1 ρ1 H1 s1 R1 _ _ q v hv => by
    have q := q.bnd
    unfold chkT at q
    cases e1 : look a s1 with
    | none => simp only [e1] at q; exact q.elim
    | some t =>
      by_cases h : tyB n t = true
      · simp only [e1, if_pos h] at q
        exact ⟨tyB_ok hK (R1.look_ok hv e1) h, σ, Hs1, ρ1, s1, a, [], R1, hv, .nil, q.here R1⟩
      · simp only [e1, if_neg h] at q; exact q.elim⟩
end
/-- what a list's method does: its items, the arguments' trees, the answer, the items behind -/
def gLM (h : List T → List T → Option (T × List T)) (a : RV) (rs : List RV) : M T := fun s => match look a s with
  | some (.lst ts) => (match asV rs with
    | some us => (match h ts us with
      | some (r, ts') => (match wr a (.lst ts') s with
        | some s' => .ok r s'
        | none => .stuck)
      | none => .stuck)
    | none => .stuck)
  | _ => .stuck
where
  asV : List RV → Option (List T)
    | [] => some []
    | .v t :: rs => (asV rs).map (t :: ·)
    | .loc _ :: _ => none
theorem asV_rep : ∀ {rs : List RV} {us : List T} {vs : List V}, gLM.asV rs = some us → RepRs Z Hs ρ σ rs vs → RepL Z Hs ρ us vs
  | [], us, vs, e, h => by
    simp only [gLM.asV, Option.some.injEq] at e
    have h : vs = [] := h
    subst e h
    exact .nil
  | .v t :: rs, us, vs, e, h => by
    simp only [gLM.asV] at e
    obtain ⟨ts, e1, rfl⟩ := Option.map_eq_some_iff.mp e
    obtain ⟨v, r, rfl, h1, h2⟩ := h
    exact .cons h1 (asV_rep e1 h2)
  | .loc _ :: _, us, vs, e, h => by simp only [gLM.asV] at e; cases e
theorem mt_list {id : String} {h : List T → List T → Option (T × List T)} {r : V → List V → Hp → VK → Prop} (hm : MtR X id r)
    (k : ∀ {Hs : Hp} {ρ : List Addr} {H : Hp} {ts us : List T} {res : T} {ts' : List T} {a : Addr} {vs ws : List V} {Q : VK}, H a = some (.lst vs) → RepL Z Hs ρ ts vs → ts.length ≤ sizeLine → RepL Z Hs ρ us ws → h ts us = some (res, ts') →
      (∀ v vs', RepL Z Hs ρ ts' vs' → ts'.length ≤ sizeLine → Rep Z Hs ρ res v → Q v (upd H a (.lst vs'))) → r (.ref a) ws H Q) : MtT X Z W id (gLM h) := fun B => hm.wk fun x xs H Q ⟨σ, Hs, ρ, s, a, rs, R, ha, hr, f⟩ => by
  unfold gLM at f
  split at f
  · rename_i ts hl
    split at f
    · rename_i us hu
      split at f
      · rename_i res ts' hh
        split at f
        · rename_i s' hw
          obtain ⟨b, rfl, ⟨vs, h1, h2, h3⟩, wk⟩ := R.write ha hl hw
          refine k h1 h2 h3 (asV_rep hu hr) hh fun v vs' h4 h5 h6 => ?_
          exact f.at (wk (.lst vs') fun Hx hx => ⟨vs', hx, h4, h5⟩) .refl (List.prefix_refl _) v h6
        · exact f.elim
      · exact f.elim
    · exact f.elim
  · exact f.elim
def hAppend : List T → List T → Option (T × List T)
  | ts, [t] => if ts.length < sizeLine then some (.non, ts ++ [t]) else none
  | _, _ => none
theorem m_append : MtT X Z W "list.append" (gLM hAppend) := mt_list (r := rAppend) mt_append fun {Hs ρ H ts us res ts' a vs ws Q} h1 h2 h3 h4 e q => by
  match us, e with
  | [t], e =>
    by_cases h : ts.length < sizeLine
    · simp only [hAppend, if_pos h, Option.some.injEq, Prod.mk.injEq] at e
      obtain ⟨rfl, rfl⟩ := e
      simp only [RepL] at h4
      obtain ⟨v, r, rfl, g1, rfl⟩ := h4
      exact ⟨a, vs, v, rfl, rfl, h1, by rw [h2.length]; exact h, q _ _ (h2.snoc g1) (by simp; omega) (by simp only [Rep])⟩
    · simp only [hAppend, if_neg h] at e; cases e
def hPop : List T → List T → Option (T × List T)
  | ts, [] => (ts[ts.length - 1]?).map fun t => (t, ts.dropLast)
  | _, _ => none
theorem RepL.dropLast {ts : List T} {vs : List V} (h : RepL Z Hs ρ ts vs) : RepL Z Hs ρ ts.dropLast vs.dropLast := by
  rw [List.dropLast_eq_take, List.dropLast_eq_take, h.length]
  exact h.take _
theorem m_pop : MtT X Z W "list.pop" (gLM hPop) := mt_list (r := rPop) mt_pop fun {Hs ρ H ts us res ts' a vs ws Q} h1 h2 h3 h4 e q => by
  match us, e with
  | [], e =>
    simp only [hPop] at e
    obtain ⟨t, e1, e2⟩ := Option.map_eq_some_iff.mp e
    simp only [Prod.mk.injEq] at e2
    obtain ⟨rfl, rfl⟩ := e2
    simp only [RepL] at h4
    subst h4
    obtain ⟨v, g1, g2⟩ := h2.get e1
    exact ⟨a, vs, v, rfl, rfl, h1, by rw [h2.length]; exact g1, q _ _ h2.dropLast (by simp; omega) g2⟩
theorem RepL.eraseIdx : ∀ {ts : List T} {vs : List V} (n : Nat), RepL Z Hs ρ ts vs → RepL Z Hs ρ (ts.eraseIdx n) (vs.eraseIdx n)
  | [], _, n, h => by simp only [RepL] at h; subst h; exact .nil
  | u :: ts, _, 0, h => by
    simp only [RepL] at h
    obtain ⟨w, r, rfl, h1, h2⟩ := h
    exact h2
  | u :: ts, _, n + 1, h => by
    simp only [RepL] at h
    obtain ⟨w, r, rfl, h1, h2⟩ := h
    exact .cons h1 (RepL.eraseIdx n h2)
def hPopAt : List T → List T → Option (T × List T)
  | ts, [.int i] => if -(2 ^ 63) ≤ i ∧ i < 2 ^ 63 then (match seqIndex? i ts.length with
    | some k => (ts[k]?).map fun t => (t, ts.eraseIdx k)
    | none => none) else none
  | _, _ => none
theorem m_popAt : MtT X Z W "list.pop" (gLM hPopAt) := mt_list (r := rPopAt) mt_popAt fun {Hs ρ H ts us res ts' a vs ws Q} h1 h2 h3 h4 e q => by
  match us, e with
  | [.int i], e =>
    simp only [hPopAt] at e
    split at e
    · rename_i hi
      split at e
      · rename_i k hk
        obtain ⟨t, e1, e2⟩ := Option.map_eq_some_iff.mp e
        simp only [Prod.mk.injEq] at e2
        obtain ⟨rfl, rfl⟩ := e2
        simp only [RepL] at h4
        obtain ⟨w, r, rfl, g0, rfl⟩ := h4
        simp only [Rep] at g0
        subst g0
        obtain ⟨v, g1, g2⟩ := h2.get e1
        exact ⟨a, vs, i, k, v, rfl, rfl, h1, hi.1, hi.2, by rw [h2.length]; exact hk, g1, q _ _ (h2.eraseIdx k) (Nat.le_trans (len_erase _ _) h3) g2⟩
      · cases e
    · cases e
def hRev : List T → List T → Option (T × List T)
  | ts, [] => some (.non, ts.reverse)
  | _, _ => none
theorem m_reverse : MtT X Z W "list.reverse" (gLM hRev) := mt_list (r := rReverse) mt_reverse fun {Hs ρ H ts us res ts' a vs ws Q} h1 h2 h3 h4 e q => by
  match us, e with
  | [], e =>
    simp only [hRev, Option.some.injEq, Prod.mk.injEq] at e
    obtain ⟨rfl, rfl⟩ := e
    simp only [RepL] at h4
    subst h4
    exact ⟨a, vs, rfl, rfl, h1, q _ _ h2.reverse (by simp; omega) (by simp only [Rep])⟩

def gSM (h : Str → List T → Option T) (a : RV) (rs : List RV) : M T := fun s => match look a s with
  | some (.str x) => (match looks rs s with
    | some us => (match h x us with
      | some r => .ok r s
      | none => .stuck)
    | none => .stuck)
  | _ => .stuck
where
  looks : List RV → S → Option (List T)
    | [], _ => some []
    | r :: rs, s => match look r s, looks rs s with
      | some t, some ts => some (t :: ts)
      | _, _ => none
theorem mt_str {id : String} {h : Str → List T → Option T} {r : V → List V → Hp → VK → Prop} (hm : MtR X id r)
    (k : ∀ {Hs : Hp} {ρ : List Addr} {H : Hp} {x : Str} {us : List T} {res : T} {ws : List V} {Q : VK}, Mono Hs H → Paired (fun u w => VRep Z Hs ρ H u w) us ws → h x us = some res →
      (∀ v, Rep Z Hs ρ res v → Q v H) → r (.str x) ws H Q) : MtT X Z W id (gSM h) := fun B => hm.wk fun x xs H Q ⟨σ, Hs, ρ, s, a, rs, R, ha, hr, f⟩ => by
  have lk : ∀ {rs : List RV} {us : List T} {ws : List V}, gSM.looks rs s = some us → RepRs Z Hs ρ σ rs ws → Paired (fun u w => VRep Z Hs ρ H u w) us ws := by
    intro rs
    induction rs with
    | nil =>
      intro us ws e h
      simp only [gSM.looks, Option.some.injEq] at e
      have h : ws = [] := h
      subst e h
      exact .nil
    | cons r rs ih =>
      intro us ws e h
      simp only [gSM.looks] at e
      obtain ⟨v, t, rfl, h1, h2⟩ := h
      split at e
      · rename_i t' ts' g1 g2
        cases e
        exact .cons (R.look_ok h1 g1) (ih g2 h2)
      · cases e
  unfold gSM at f
  split at f
  · rename_i z hl
    split at f
    · rename_i us hu
      split at f
      · rename_i res hh
        have va := R.look_ok ha hl
        simp only [VRep, Rep] at va
        subst va
        exact k R.rg.sub (lk hu hr) hh (f.here R)
      · exact f.elim
    · exact f.elim
  · exact f.elim
end TL
namespace TL
open PySem PySem.Spec L2
open PyProof.Rows hiding St
variable {Z : Sg} {B : B0} {W : WX} {Hs Hs' Hs2 : Hp} {ρ ρ' ρ2 : List Addr} {σ : St} {H H' H2 : Hp} {s : S}
variable {X : Cx} {e e1 e2 e3 : Expr} {es : List Expr} {pos p p1 p2 p3 : Pos} {fo fo2 : Value → Value → Sem Value}

def repT {α : Type} (k : Nat) (xs : List α) : List α := (List.replicate k xs).flatten
theorem repT_rep {ts : List T} {vs : List V} (h : RepL Z Hs ρ ts vs) : ∀ k : Nat, RepL Z Hs ρ (repT k ts) (repT k vs)
  | 0 => .nil
  | k + 1 => by
    unfold repT
    rw [List.replicate_succ, List.replicate_succ, List.flatten_cons, List.flatten_cons]
    exact h.append (repT_rep h k)
theorem repT_len {α : Type} (xs : List α) : ∀ k : Nat, (repT k xs).length = k * xs.length
  | 0 => by simp [repT]
  | k + 1 => by
    have := repT_len xs k
    unfold repT at this ⊢
    rw [List.replicate_succ, List.flatten_cons, List.length_append, this, Nat.succ_mul, Nat.add_comm]
def hRep (ts : List T) : T → Option T
  | .int k => if -(2 ^ 63) ≤ k ∧ k < 2 ^ 63 ∧ ts.length * k.toNat ≤ sizeLine then some (.lst (repT k.toNat ts)) else none
  | _ => none
/-- [..] * n -/
@[simp] def cRepL (c1 c2 : M T) : M T := TL.bnd c1 fun t => TL.bnd c2 fun k => fun s => match t with
  | .lst ts => (match hRep ts k with
    | some r => .ok r s
    | none => .stuck)
  | _ => .stuck
theorem ef_rep {c1 c2 : M T} (h1 : EF X Z W e1 c1) (h2 : EV X Z W e2 c2) : EF X Z W (.BinOp e1 .Mult e2 pos) (cRepL c1 c2) := fun B =>
  (pe_op op_rep (h1 B) (h2 B)).wk fun σ H Q ⟨Hs, ρ, s, R, f⟩ => ⟨Hs, ρ, s, R, f.bnd.imp fun t Hs1 ρ1 H1 s1 R1 _ _ q p H2 R2 l => by
    obtain ⟨o, e0, q0⟩ := crep_obj l.rep
    have lr := l.rep
    have R3 := R2.freezeAt l.hs l.hr l.hb e0 l.no
    refine ⟨_, ρ1, s1, R3, ?_⟩
    have q := FIN.mono (.up (o := o) l.hs) (List.prefix_refl _) q
    refine q.bnd.imp fun k Hs3 ρ3 H3 s3 R4 m3 p3 q3 v hv => ?_
    match t, lr, q3 with
    | .lst ts, lr, q3 =>
      obtain ⟨vs, g1, g2, g3⟩ := lr
      have hp : H3 p = some (.lst vs) := by
        rw [e0] at g1
        cases g1
        exact R4.rg.sub _ _ (m3 _ _ upd_same)
      match k, q3 with
      | .int k, q3 =>
        by_cases hb : -(2 ^ 63) ≤ k ∧ k < 2 ^ 63 ∧ ts.length * k.toNat ≤ sizeLine
        · simp only [hRep, if_pos hb] at q3
          simp only [Rep] at hv
          refine ⟨p, k, vs, rfl, hv, hp, hb.1, hb.2.1, by rw [g2.length]; exact hb.2.2, fun p2 hp2 => ?_⟩
          have g4 := (g2.mono (.up (o := o) l.hs) (List.prefix_refl _)).mono m3 p3
          obtain ⟨R5, l5⟩ := R4.newLoose (o := .lst (List.replicate k.toNat vs).flatten) (t := .lst (repT k.toNat ts)) hp2 fun Hx hx => ⟨_, hx, repT_rep g4 _, by rw [repT_len, Nat.mul_comm]; exact hb.2.2⟩
          exact q3.here R4 p2 _ R5 l5
        · simp only [hRep, if_neg hb] at q3; exact q3.elim
      | .non, q3 => exact q3.elim
      | .bl _, q3 => exact q3.elim
      | .str _, q3 => exact q3.elim
      | .tup _, q3 => exact q3.elim
      | .lst _, q3 => exact q3.elim
      | .dK _, q3 => exact q3.elim
      | .dT _, q3 => exact q3.elim
      | .obj _ _, q3 => exact q3.elim
      | .exn _ _, q3 => exact q3.elim
      | .ty _, q3 => exact q3.elim
      | .cell _, q3 => exact q3.elim
    | .non, lr, q3 => exact lr.elim
    | .bl _, lr, q3 => exact lr.elim
    | .int _, lr, q3 => exact lr.elim
    | .str _, lr, q3 => exact lr.elim
    | .tup _, lr, q3 => exact lr.elim
    | .dK _, lr, q3 => exact q3.elim
    | .dT _, lr, q3 => exact q3.elim
    | .obj _ _, lr, q3 => exact q3.elim
    | .exn _ _, lr, q3 => exact lr.elim
    | .ty _, lr, q3 => exact lr.elim
    | .cell _, lr, q3 => exact lr.elim⟩
/-- text * n, n at most a thousand -/
def repS (z : Str) (k : Int) : Str := ⟨(List.replicate k.toNat z.cps).foldl (· ++ ·) #[]⟩
theorem foldl_app (a : Array Nat) (l : List (Array Nat)) : l.foldl (· ++ ·) a = a ++ l.foldl (· ++ ·) #[] := by
  induction l generalizing a with
  | nil => simp
  | cons b r ih => rw [List.foldl_cons, List.foldl_cons, ih, ih (#[] ++ b)]; simp
theorem repS_len (z : Str) (k : Int) : (⟨(List.replicate k.toNat z.cps).foldl (· ++ ·) #[]⟩ : Str).length = k.toNat * z.length := by
  have : ∀ (n : Nat), ((List.replicate n z.cps).foldl (· ++ ·) #[]).size = n * z.length := by
    intro n
    induction n with
    | zero => simp
    | succ n ih =>
      rw [List.replicate_succ, List.foldl_cons, foldl_app, Array.size_append, ih, Nat.succ_mul]
      simp [Str.length, Nat.add_comm]
  exact this _
theorem op_repS : OpR X (binaryOp .Mult) (fun x y H Q => ∃ z k, x = .str z ∧ y = .int k ∧ 0 ≤ k ∧ k ≤ 1000 ∧ z.length ≤ 1000 ∧ Q (.str (repS z k)) H) := by
  rintro pins s σ H x y v u Q I rx ry ⟨z, k, rfl, rfl, h0, h1, hz, q⟩
  obtain ⟨t, rfl⟩ := rx
  obtain ⟨t', rfl⟩ := ry
  have e1 : decide (k < -(2 ^ 63 : Int)) = false := decide_eq_false (by omega)
  have e2 : decide (k ≥ (2 ^ 63 : Int)) = false := decide_eq_false (by omega)
  refine PySem.P.mul_str (by rw [e1, e2]; rfl) (fun h2 _ => ?_) (fun h2 _ => ?_) ?_
  · have h3 : (1000 : Int) ≤ (2 ^ 63 - 1) / k := by
      rw [Int.le_ediv_iff_mul_le (by omega)]
      have : (1000 : Int) * k ≤ 1000 * 1000 := by omega
      omega
    have : (z.length : Int) ≤ 1000 := by omega
    omega
  · unfold Builtin.Str.tooLong
    have h3 : k.toNat ≤ 1000 := by omega
    have h4 : z.length * k.toNat ≤ 1000 * 1000 := Nat.mul_le_mul hz h3
    have := sizeLine_eq
    refine decide_eq_false ?_
    omega
  · split
    · rename_i h2
      have : k = 0 := by omega
      subst this
      refine ⟨by decide, ?_⟩
      exact ⟨.str _, H, I.tok _, ⟨_, rfl⟩, by simpa [repS, Str.empty] using q⟩
    · split
      · rename_i h2 h3
        have e : repS z k = z := by
          rcases Bool.or_eq_true_iff.mp h3 with h | h
          · have : k = 1 := eq_of_beq h
            subst this
            cases z; simp [repS]
          · have hz0 : z.length = 0 := eq_of_beq h
            have : z.cps = #[] := by
              cases z with
              | mk a => exact Array.size_eq_zero_iff.mp hz0
            unfold repS
            rw [this]
            have : ∀ n : Nat, (List.replicate n (#[] : Array Nat)).foldl (· ++ ·) #[] = #[] := by
              intro n
              induction n with
              | zero => rfl
              | succ n ih => rw [List.replicate_succ, List.foldl_cons]; simpa using ih
            rw [this]
            cases z with
            | mk a => simp only at this ⊢; simp_all
        exact ⟨.str z, H, I.tok _, ⟨_, rfl⟩, by rw [← e]; exact q⟩
      · refine ⟨?_, ?_⟩
        · rw [repS_len]
          have h3 : k.toNat ≤ 1000 := by omega
          have h4 : k.toNat * z.length ≤ 1000 * 1000 := Nat.mul_le_mul h3 hz
          have := sizeLine_eq
          omega
        · exact ⟨.str _, H, I.tok _, ⟨_, rfl⟩, q⟩
def hRepS : T → T → Option T
  | .str z, .int k => if 0 ≤ k ∧ k ≤ 1000 ∧ z.length ≤ 1000 then some (.str (repS z k)) else none
  | _, _ => none
theorem o_repS : Op2 X Z W (binaryOp .Mult) (gLook hRepS) := op2_read op_repS fun {Hs ρ H t u x y res Q} m ht hu e q => by
  match t, u, e with
  | .str z, .int k, e =>
    by_cases h : 0 ≤ k ∧ k ≤ 1000 ∧ z.length ≤ 1000
    · simp only [hRepS, if_pos h, Option.some.injEq] at e
      subst e
      simp only [VRep, Rep] at ht hu
      exact ⟨z, k, ht, hu, h.1, h.2.1, h.2.2, q _ (by simp only [Rep])⟩
    · simp only [hRepS, if_neg h] at e; cases e
abbrev gMulW := gLook (hI (fun i j => decide (i.natAbs.log2 + j.natAbs.log2 < 1000000)) fun i j => .int (i * j))
theorem o_mulW : Op2 X Z W (binaryOp .Mult) gMulW := op2_I op_mulW (fun i j h => by unfold CMulW; exact of_decide_eq_true h) fun _ _ _ _ => by simp only [Rep]
abbrev gDivW := gLook (hI (fun _ j => decide (0 < j ∧ j.natAbs.log2 < 9000)) fun i j => .int (i / j))
theorem o_divW : Op2 X Z W (binaryOp .FloorDiv) gDivW := op2_I op_fdivW (fun i j h => by unfold CDivW; exact of_decide_eq_true h) fun _ _ _ _ => by simp only [Rep]

@[simp] def cChain (c1 c2 c3 : M RV) (g g' : RV → RV → M T) : M T := TL.bnd c1 fun a => TL.bnd c2 fun b => TL.bnd (g a b) fun t => TL.bnd (asB t) fun k => if k = true then TL.bnd c3 fun c => g' b c else ret (.bl false)
theorem chain_read {c1 c2 c3 : M RV} {g g' : RV → RV → M T} {P : T → Hp → List Addr → Hp → S → Prop} {Q : V → Hp → Prop} {σ : St} {H : Hp} {Hs : Hp} {ρ : List Addr} {s : S} (R : Rel Z B Hs ρ σ H s) (f : FIN Z B W Hs ρ σ P (cChain c1 c2 c3 g g' s))
    (kP : ∀ t Hs ρ H s, P t Hs ρ H s → ∀ v, Rep Z Hs ρ t v → Q v H) :
    tChain (fun x y H Q => ∃ σ Hs ρ s a b, Rel Z B Hs ρ σ H s ∧ RepR Z Hs ρ σ a x ∧ RepR Z Hs ρ σ b y ∧ FIN Z B W Hs ρ σ (fun t Hs' ρ' H' _ => ∀ v, Rep Z Hs' ρ' t v → Q v H') (g a b s))
      (fun x y H Q => ∃ σ Hs ρ s a b, Rel Z B Hs ρ σ H s ∧ RepR Z Hs ρ σ a x ∧ RepR Z Hs ρ σ b y ∧ FIN Z B W Hs ρ σ (fun t Hs' ρ' H' _ => ∀ v, Rep Z Hs' ρ' t v → Q v H') (g' a b s))
      (tR Z B W c1) (tR Z B W c2) (tR Z B W c3) σ H Q :=
  ⟨Hs, ρ, s, R, f.bnd.imp fun a Hs1 ρ1 H1 s1 R1 _ _ q v hv => ⟨Hs1, ρ1, s1, R1, q.bnd.imp fun b Hs2 ρ2 H2 s2 R2 m p q2 w hw => ⟨σ, Hs2, ρ2, s2, a, b, R2, hv.mono' m p, hw, q2.bnd.imp fun t Hs3 ρ3 H3 s3 R3 m3 p3 q3 z hz => by
    obtain ⟨k, e, q4⟩ := asB_read (Q := fun k H3 => if k = true then tR Z B W c3 σ H3 fun w' H4 => (∃ σ Hs ρ s a b, Rel Z B Hs ρ σ H4 s ∧ RepR Z Hs ρ σ a w ∧ RepR Z Hs ρ σ b w' ∧ FIN Z B W Hs ρ σ (fun t Hs' ρ' H' _ => ∀ v, Rep Z Hs' ρ' t v → Q v H') (g' a b s)) else Q (.bl false) H3) R3 hz (q3.bnd.imp fun k Hs4 ρ4 H4 s4 R4 m4 p4 q4 => by
        cases k with
        | false => exact kP _ _ _ _ _ (q4.here R4) _ (by simp only [Rep])
        | true => exact ⟨Hs4, ρ4, s4, R4, q4.bnd.imp fun c Hs5 ρ5 H5 s5 R5 m5 p5 q5 w' hw' => ⟨σ, Hs5, ρ5, s5, b, c, R5, ((hw.mono' m3 p3).mono' m4 p4).mono' m5 p5, hw', q5.imp fun t Hs6 ρ6 H6 s6 R6 m6 p6 q6 v hv => kP _ _ _ _ _ q6 v hv⟩⟩)
    exact ⟨k, e, q4⟩⟩⟩⟩
theorem ev_chain {op op' : CmpOp} {c1 c2 c3 : M RV} {g g' : RV → RV → M T} (h1 : ER X Z W e1 c1) (h2 : ER X Z W e2 c2) (h3 : ER X Z W e3 c3) (ho : Op2 X Z W (compareOp op) g) (ho' : Op2 X Z W (compareOp op') g')
    (hm : lastMarks [op, op'] [e2, e3] = false := by with_unfolding_all rfl) : EV X Z W (.Compare e1 [op, op'] [e2, e3] pos) (cChain c1 c2 c3 g g') := fun B =>
  (pe_chain (ho B) (ho' B) (h1 B) (h2 B) (h3 B) hm).wk fun σ H Q ⟨Hs, ρ, s, R, f⟩ => chain_read R f fun t Hs ρ H s h => h
theorem eb_chain {op op' : CmpOp} {c1 c2 c3 : M RV} {g g' : RV → RV → M T} (h1 : ER X Z W e1 c1) (h2 : ER X Z W e2 c2) (h3 : ER X Z W e3 c3) (ho : Op2 X Z W (compareOp op) g) (ho' : Op2 X Z W (compareOp op') g')
    (hm : lastMarks [op, op'] [e2, e3] = false := by with_unfolding_all rfl) : EB X Z W (.Compare e1 [op, op'] [e2, e3] pos) (cB (cChain c1 c2 c3 g g')) := fun B =>
  (pt_chain (ho B) (ho' B) (h1 B) (h2 B) (h3 B) hm).wk fun σ H Q ⟨Hs, ρ, s, R, f⟩ => by
    have f := f.bnd
    exact chain_read (Q := fun v H1 => ∃ k, v = .bl k ∧ Q k H1) R (f.imp (P' := fun t Hs' ρ' H' s' => Rel Z B Hs' ρ' σ H' s' ∧ FIN Z B W Hs' ρ' σ (fun b _ _ H' _ => Q b H') (asB t s')) fun t Hs1 ρ1 H1 s1 R1 _ _ q => ⟨R1, q⟩) fun t Hs1 ρ1 H1 s1 h v hv => asB_read h.1 hv h.2

inductive TN where
  | ty (n : String) | cl (c : Nat) | ex (c : Nat)
  deriving DecidableEq
def tyN : T → TN
  | .non => .ty "NoneType"
  | .bl _ => .ty "bool"
  | .int _ => .ty "int"
  | .str _ => .ty "str"
  | .tup _ => .ty "tuple"
  | .lst _ => .ty "list"
  | .dK _ => .ty "dict"
  | .dT _ => .ty "?"
  | .obj c _ => .cl c
  | .exn c _ => .ex c
  | .ty _ => .ty "type"
  | .cell _ => .ty "?"
/-- what isinstance asks of a class -/
structure IsC (K : PySem.W.Frag) (C : Addr) : Prop where
  cls : Cls K C
  ha : PySem.W.findIn K (.ref C) "__class__" = some (some (.builtin "object.__class__"))
  hn : PySem.W.specialIn K (.builtin "object.__class__") "__get__" = some (some (.builtin "getset_descriptor.__get__"))
  ht : PySem.W.takesIn K (.builtin "object.__class__") = some true
  hm : PySem.W.mroIn K C (.type "object") = some true
/-- the answers about the class u, by the value's type -/
structure IsTab (Z : Sg) (u : Value) (f : TN → Option Bool) : Prop where
  ty : ∀ n b, f (.ty n) = some b → PySem.W.kitOne Z.K (.type n) u = some b ∧ n ≠ "type" ∧ n ≠ "?"
  cl : ∀ c b, f (.cl c) = some b → PySem.W.kitOne Z.K (.ref (Z.cls c)) u = some b ∧ IsC Z.K (Z.cls c)
  ex : ∀ c, f (.ex c) = none
@[simp] def cIsi (c : M RV) (f : TN → Option Bool) : M T := TL.bnd c fun a => fun s => match look a s with
  | some t => (match f (tyN t) with
    | some b => .ok (.bl b) s
    | none => .stuck)
  | none => .stuck
theorem tyN_ok (hK : Z.K = X.K) {t : T} {v : V} {u : Value} {f : TN → Option Bool} {b : Bool} (F : IsTab Z u f) (m : Mono Hs H) (h : VRep Z Hs ρ H t v) (e : f (tyN t) = some b) : ∃ ty, TyX X.K H v ty ∧ PySem.W.kitOne X.K ty u = some b := by
  cases t with
  | non => simp only [VRep, Rep] at h; subst h; exact ⟨_, .base .non, by rw [← hK]; exact (F.ty _ _ e).1⟩
  | bl x => simp only [VRep, Rep] at h; subst h; exact ⟨_, .base (.bl x), by rw [← hK]; exact (F.ty _ _ e).1⟩
  | int x => simp only [VRep, Rep] at h; subst h; exact ⟨_, .base (.int x), by rw [← hK]; exact (F.ty _ _ e).1⟩
  | str x => simp only [VRep, Rep] at h; subst h; exact ⟨_, .base (.str x), by rw [← hK]; exact (F.ty _ _ e).1⟩
  | tup xs =>
    simp only [VRep, Rep] at h
    obtain ⟨a, vs, rfl, h1, _⟩ := h
    have h1 := sqT_mono m h1
    rcases h1 with (h1 | ⟨o, h1⟩) | ⟨o, _, _, h1, h2, _⟩
    · exact ⟨_, .base (.tup h1), by rw [← hK]; exact (F.ty _ _ e).1⟩
    · exact ⟨_, .fTuple h1, by rw [← hK]; exact (F.ty _ _ e).1⟩
    · exact ⟨_, .kTuple (by rw [← hK]; exact h1) h2, by rw [← hK]; exact (F.ty _ _ e).1⟩
  | lst xs =>
    obtain ⟨a, vs, rfl, h1, _⟩ := h
    rcases h1 with h1 | ⟨o, h1⟩
    · exact ⟨_, .base (.lst h1), by rw [← hK]; exact (F.ty _ _ e).1⟩
    · exact ⟨_, .base (.frz h1), by rw [← hK]; exact (F.ty _ _ e).1⟩
  | dK xs =>
    obtain ⟨a, vs, rfl, h1, _⟩ := h
    rcases h1 with h1 | ⟨o, h1⟩
    · exact ⟨_, .base (.dK h1), by rw [← hK]; exact (F.ty _ _ e).1⟩
    · exact ⟨_, .fDict h1, by rw [← hK]; exact (F.ty _ _ e).1⟩
  | dT xs => exact absurd rfl (F.ty _ _ e).2.2
  | obj c fs =>
    obtain ⟨a, dx, us, rfl, h1, _⟩ := h
    obtain ⟨g1, g2⟩ := F.cl _ _ e
    exact ⟨_, .base (.ins h1 (by rw [← hK]; exact g2.cls) (by rw [← hK]; exact g2.ha) (by rw [← hK]; exact g2.hn) (by rw [← hK]; exact g2.ht) (by rw [← hK]; exact g2.hm)), by rw [← hK]; exact g1⟩
  | exn c fs =>
    simp only [tyN] at e
    rw [F.ex] at e; cases e
  | ty n => exact absurd rfl (F.ty _ _ e).2.1
  | cell n => exact h.elim
theorem ev_isi {c : M RV} {vc : V} {u : Value} {f : TN → Option Bool} {x : Str} (hK : Z.K = X.K) (F : IsTab Z u f) (h1 : ER X Z W e1 c) (hc : PE X e2 (tC vc)) (hv : ClsV vc u) (hg : Gl X x) (hm : X.mg x = none) (hb : bootBuiltins x = some (.builtin "isinstance")) (hn : x ≠ "__name__" := by decide) (hdb : (x == ("__debug__" : Str)) = false := by decide)
    (he : starEach [e1, e2] X.env = (false, eval e1 X.env) :: starEach [e2] X.env := by rfl) (he2 : starEach [e2] X.env = (false, eval e2 X.env) :: starEach [] X.env := by rfl) (hpl : (backTo pos (starEach [e2] X.env)).any (·.1) = false := by rfl) :
    EV X Z W (.Call (.Name x p) [e1, e2] [] pos) (cIsi c f) := fun B =>
  (pe_callB call_isi hg hm hb (pa_cons (h1 B) (pa_cons hc pa_nil he2) he) hn hdb he hpl).wk fun σ H Q ⟨Hs, ρ, s, R, fi⟩ => ⟨Hs, ρ, s, R, fi.bnd.imp fun a Hs1 ρ1 H1 s1 R1 _ _ q v ha => by
    cases e0 : look a s1 with
    | none => simp only [e0] at q; exact q.elim
    | some t =>
      cases e3 : f (tyN t) with
      | none => simp only [e0, e3] at q; exact q.elim
      | some b =>
        simp only [e0, e3] at q
        obtain ⟨ty, g1, g2⟩ := tyN_ok hK F R1.rg.sub (R1.look_ok ha e0) e3
        exact ⟨v, vc, ty, u, b, rfl, hv, g1, g2, q.here R1 _ (by simp only [Rep])⟩⟩
end TL
namespace TL
open PySem PySem.Spec L2
open PyProof.Rows hiding St

/-- what the written part says of an own exception class -/
structure XCls (X : Cx) (C : Addr) : Prop where
  T : OexC X.K C
  hm : PySem.W.ks_superIn X.K C C "__init__" = some (some (.builtin "ValueError.__init__"))
  hB : PySem.W.subIn X.K (.ref C) (.type "ValueError") = some true
  hsub : PySem.W.mroIn X.K C (.ref C) = some true
  ho : PySem.W.nsIn X.K PySem.cStatics "thirdparty.any" = some none
  q : PySem.W.excInitIn X.K C [.type "ValueError", .type "Exception", .type "BaseException", .type "object"] "ValueError.__new__" = true

section
variable {X : Cx} {pins : List (Addr × Obj)} {σ : St} {H : Hp} {s : Shared}
theorem wpAt_super {C a f cda cc : Addr} {fd : FuncData} {ar : Arg} {vs : Array Value} {file : Str} {tf : Tok} {oc ccl cl : Value} {od cdd cld : Option Addr} {osl ccs csl : Array (Option Value)}
    {body : List Stmt} {e : Expr} {es : List Expr} {p0 p1 apos pos : Pos} {t : TA} (I : Inv X pins σ H s) (xc : XCls X C)
    (hks : X.env.kindOf "super" = some .globalImplicit) (hkc : X.env.kindOf "__class__" = some .free) (hfu : X.env.func = some f) (lk : X.K.lookup f = some ⟨oc, od, .func fd, osl⟩)
    (hp : (fd.params.posonlyargs ++ fd.params.args).head? = some ar) (hN : X.N[0]? = some ar.arg) (hl0 : X.env.kindOf ar.arg = some .local) (h0 : σ[0]? = some (some (.ref a)))
    (hco : X.env.code = .ref cda) (hcode : X.K.lookup cda = some ⟨ccl, cdd, .fields vs, ccs⟩) (hvs : vs[2]? = some (.str file tf)) (hfile : ((X.prog.main.file : Str) == file) = true)
    (hcell : X.env.cells.lookup ("__class__" : Str) = some cc) (hcc : X.K.lookup cc = some ⟨cl, cld, .cell (some (.ref C)), csl⟩)
    (hsm : X.mg "super" = none) (htop : (X.prog.main.scope.names.lookup ("super" : Str)).isSome = false) (hboot : bootBuiltins "super" = some (.type "super"))
    (ea : H a = some (exo a C none)) (ha : PA X (e :: es) t) (ht : t σ H fun ws H1 => H1 = H ∧ ws.length ≤ 1000)
    (he : starEach (e :: es) X.env = (false, eval e X.env) :: starEach es X.env := by rfl) (hpl : (backTo pos (starEach es X.env)).any (·.1) = false := by rfl)
    (hev : eval (.Call (.Attribute (.Call (.Name "super" p0) [] [] p1) "__init__" apos) (e :: es) [] pos) X.env = (do
      let ov ← attributeBase (.Call (.Name "super" p0) [] [] p1) "__init__" X.env (eval (.Call (.Name "super" p0) [] [] p1) X.env)
      standAt apos.atName
      let (f, first) ← holding [ov] (getMethod ov "__init__" (pure false))
      callWith pos f first (backTo pos (starEach (e :: es) X.env)) []) := by rfl) :
    PySem.wpAt (model X.prog X.w) X.A (.func body X.env) (eval (.Call (.Attribute (.Call (.Name "super" p0) [] [] p1) "__init__" apos) (e :: es) [] pos) X.env) (fun _ s' => Inv X pins σ H s') X.xe s := by
  obtain ⟨nm, q, N, bs, bm, sn, sub, ab, col, dd, k0, k1, k2, k3, k5, hC, hbm⟩ := xc.T.cls
  have hcl : PySem.W.clsIn X.K C = some { name := nm, bases := bs, mro := .ref C :: bm, ns := N, qualname := q, hasDict := true, slotNames := sn, subclasses := sub, abstract := ab, collection := col, hasDel := false } := by unfold PySem.W.clsIn; rw [hC] <;> rfl
  obtain ⟨t1, hx⟩ := exo_at I.hok ea
  obtain ⟨oD, hD1, hD2⟩ : ∃ oD, s.heap.get? C = some oD ∧ ∃ cd, oD.data = .cls cd := ⟨_, I.kIn _ _ hC, _, rfl⟩
  obtain ⟨cdD, hD2⟩ := hD2
  obtain ⟨hh, g, d, tk, os⟩ := s
  refine PySem.ks_wpAt_MethodCall ?_ hev
  refine PySem.ks_wpAt_super_base hks hkc rfl hfu (I.kIn _ _ lk) rfl hp hco (I.kIn _ _ hcode) rfl hvs hfile htop ?_
  have hk := I.ok.kind
  obtain ⟨mb, b1, b2⟩ := I.mod.blt
  refine PySem.W.ks_loadName_global hk hks (PySem.Calls.loadGlobal_builtin (by rw [I.ok.glob]; exact I.mod.glob.keeps I.bk) hsm (by rw [I.ok.blt]; exact b1.keeps I.bk) ((b2 _ (by decide)).trans hboot) ⟨rfl, ?_⟩)
  refine wpAny_loadName_free hk hkc hcell ⟨_, I.kIn _ _ hcc, rfl⟩ ?_
  obtain ⟨m, hns, hlook⟩ := I.loc
  obtain ⟨u, ru, lu⟩ := hlook 0 ar.arg (.ref a) hN h0 (.inl hl0)
  obtain rfl : u = Value.ref a := ru
  have hm0 : m ar.arg = some (.ref a) := by
    rcases lu with ⟨_, e1⟩ | ⟨e1, _⟩
    · exact e1
    · rw [hl0] at e1
      rcases e1 with e1 | e1 <;> cases e1
  refine wpAny_loadName_local hk hl0 hns hm0 ?_
  refine PySem.ks_wpAny_isType_cls hD1 hD2 ⟨rfl, ?_⟩
  refine PySem.ks_wpAny_call_super hD1 hD2 hx rfl (fun c e => nomatch e) (PySem.W.looks_mroIn I.kIn xc.hsub) (fun h' e1 k1 => ?_)
  have I1 : Inv X pins σ H ⟨h', g, d, tk, os⟩ := I.kept (t' := tk) k1
  have hx1 := k1 _ _ hx
  have J1 : PySem.W.InstAt h' a _ C none := ⟨hx1, rfl, rfl, trivial⟩
  have hm : PySem.W.alongIn X.K "__init__" (((.ref C :: bm : List Value).dropWhile (· != .ref C)).drop 1) = some (some (.builtin "ValueError.__init__")) := by
    have := xc.hm
    unfold PySem.W.ks_superIn at this
    rw [hcl] at this
    exact this
  refine PySem.W.kxs_getMethod PySem.W.kxs_ValueError e1 (PySem.W.looks_opaque I1.kIn xc.ho) (l₀ := .ref C :: bm) ?_ rfl I1.kIn hm (J1.type.andThen (PySem.W.looks_subIn I1.kIn xc.hB)) (PySem.W.ks_ne I1.kIn J1 hcl) rfl ?_
  · exact fun A Q E s k q => wpAny_bind ((PySem.W.looks_clsIn I1.kIn hcl) A _ E s k (wpAny_pure q))
  have k2 : ∀ b o, h'.get? b = some o → (h'.push (PySem.W.kxs_mw "ValueError.__init__" a)).get? b = some o := fun b o e => Heap.get?_push_of_some _ e
  have I2 : Inv X pins σ H ⟨h'.push (PySem.W.kxs_mw "ValueError.__init__" a), g, d, tk + 1, os⟩ := I1.kept (t' := tk + 1) k2
  have eu : (h'.push (PySem.W.kxs_mw "ValueError.__init__" a)).get? h'.objs.size = some (PySem.W.kxs_mw "ValueError.__init__" a) := Heap.get?_push_size _ rfl
  have hu : H h'.objs.size = none := I1.hok.fresh (Nat.le_refl _)
  have I3 : Inv X ((h'.objs.size, PySem.W.kxs_mw "ValueError.__init__" a) :: pins) σ H ⟨h'.push (PySem.W.kxs_mw "ValueError.__init__" a), g, d, tk + 1, os⟩ :=
    ⟨I2.ok, I2.os, I2.bare, I2.base, I2.loc, I2.cell, I2.free, I2.freeC, fun p hp => by
      rcases List.mem_append.mp hp with hp | hp
      · exact I2.pin p (List.mem_append_left _ hp)
      · rcases List.mem_cons.mp hp with rfl | hp
        · exact ⟨eu, hu, Nat.ne_of_gt I1.lt, I1.nofs (Nat.le_refl _), fun v z => nomatch z⟩
        · exact I2.pin p (List.mem_append_right _ hp), I2.hok, I2.len⟩
  rw [he]
  refine PySem.W.kxs_callWith (i := "ValueError.__init__") (x := a) (by show (false || (backTo pos (starEach es X.env)).any (·.1)) = false; rw [hpl]; rfl) ?_
  rw [← he]
  have hA := ha.run pos _ _ σ H _ I3 ht
  rw [he] at hA ⊢
  refine PySem.Calls.evalArgs_plain (thn hA fun us s3 ⟨ws, H3, I4, r, e3, hl⟩ => ?_)
  subst e3
  obtain ⟨eu3, _⟩ := I4.pin (h'.objs.size, PySem.W.kxs_mw "ValueError.__init__" a) (List.mem_append_right _ List.mem_cons_self)
  refine ⟨eu3, ?_⟩
  have I5 : Inv X pins σ H3 s3 := ⟨I4.ok, I4.os, I4.bare, I4.base, I4.loc, I4.cell, I4.free, I4.freeC, fun p hp => I4.pin p (by
      rcases List.mem_append.mp hp with hp | hp
      · exact List.mem_append_left _ hp
      · exact List.mem_append_right _ (List.mem_cons_of_mem _ hp)), I4.hok, I4.len⟩
  obtain ⟨t3, hx3⟩ := exo_at I5.hok ea
  have hlen : us.length ≤ sizeLine := by
    rw [← r.length, sizeLine_eq]
    omega
  obtain ⟨nm', N', qn', bs', bm', hdct', sn', sub', ab', col', dd', k0', k1', k2', k3', k5', hC', hT'⟩ := PySem.W.excInit_of I5.kIn xc.q
  obtain ⟨h3, g3, d3, tk3, os3⟩ := s3
  show wpAny _ _ (call (.ref h'.objs.size) ([] ++ us)) _ _ _
  rw [List.nil_append]
  refine wpAny_call (codeAny_of_tree ?_)
  show wpAny _ X.A.in1 (callAny (.ref h'.objs.size) ⟨us, []⟩) _ _ _
  simp only [callAny]
  refine wpAny_bind (wpAny_load eu3 ?_)
  simp only [PySem.W.kxs_mw, show (Value.type "method-wrapper" == Value.type "method" || Value.type "method-wrapper" == Value.type "builtin_function_or_method" || Value.type "method-wrapper" == Value.type "method-wrapper") = true by decide, if_true]
  refine PySem.W.KFB.if_so (by decide) ?_
  refine wpAny_bind (PySem.W.check_bound_init F.excBase_ValueError.toExcCallFacts hC' hx3 rfl ?_)
  refine wpAny_bind (wpAny_pure (wpAny_pure ?_))
  refine ⟨plainId_quiet F.excBase_ValueError.init.plain _, codeAny_builtin F.excBase_ValueError.initEntry ?_⟩
  refine PySem.W.exc_init_tree (cls := .ref C) (t0 := t3) (dv := none) (c2 := .none) (c3 := .none) (b4 := .bool false) hx3 hlen fun h4 k4 hx4 ht4 => ?_
  have J := I5.write (t' := tk3) (x := a) (e := a) (o := exo a C none) (by rw [ea]; exact True.intro) (.inl rfl) k4 ⟨_, hx4⟩ (exo_ok hx4)
  have eu : upd H3 a (exo a C none) = H3 := by
    funext b
    by_cases hb : b = a
    · rw [hb, upd_same, ea]
    · rw [upd_ne hb]
  rw [eu] at J
  exact J
end

/-- the written part of a def that says super(), and its class -/
structure SupD (P : Program) (K : PySem.W.Frag) (mg : Str → Option Value) (F : NdefX.NF) (f C : Addr) (fd : FuncData) (N ps : List Str) (x0 : Str) : Prop where
  lk : ∃ dV kV doc pm an ctv oc od osl, fd = PySem.W.fnX F.name F.qual F.params F.body F.scope F.cl dV kV doc pm an (.ref F.c) ctv ∧ K.lookup f = some ⟨oc, od, .func fd, osl⟩
  cd : PySem.W.codeIn K (.ref F.c) F.qual = true
  cell : ∃ cc cl cld csl, F.cl = [(("__class__" : Str), cc)] ∧ K.lookup cc = some ⟨cl, cld, .cell (some (.ref C)), csl⟩
  S : NdefX.NScope N ps [("__class__" : Str)] F.scope
  sup : F.scope.names.lookup ("super" : Str) = some .globalImplicit
  par : ∃ ar, (F.params.posonlyargs ++ F.params.args).head? = some ar ∧ ar.arg = x0
  n0 : ps[0]? = some x0
  code : ∃ ccl cdd vs ccs file tf, K.lookup F.c = some ⟨ccl, cdd, .fields vs, ccs⟩ ∧ vs[2]? = some (.str file tf) ∧ ((P.main.file : Str) == file) = true
  sm : mg "super" = none
  top : (P.main.scope.names.lookup ("super" : Str)).isSome = false
section
variable {CX : CXT} {P : Program} {w : World} {K : PySem.W.Frag} {mg : Str → Option Value} {base : Heap} {N ps : List Str} {F : NdefX.NF} {f C : Addr} {fd : FuncData} {x0 : Str} {k : Nat} {sp : Sp}
theorem fn_super {e : Expr} {es : List Expr} {p0 p1 apos pos pos' : Pos} {rest : List Stmt} (D : SupD P K mg F f C fd N ps x0) (hboot : bootBuiltins "super" = some (.type "super"))
    (xc : ∀ X : Cx, X.K = K → XCls X C)
    (hbody : F.body = .Expr (.Call (.Attribute (.Call (.Name "super" p0) [] [] p1) "__init__" apos) (e :: es) [] pos) pos' :: rest)
    (len : ∀ vs H Q E, sp vs H Q E → vs.length = ps.length)
    (hb : ∀ (A : Around) (outer : List Env) (s : Shared) (H : Hp) (vs : List V) (Q : VK) (E : XK), sp vs H Q E →
      ∃ a r, vs = .ref a :: r ∧ H a = some (exo a C none) ∧
        (∃ ta, PA (NdefX.ncx CX P w K mg base N F f A outer s H E) (e :: es) ta ∧ ta (NdefX.startF N vs [some (.ref C)]) H fun ws H1 => H1 = H ∧ ws.length ≤ 1000) ∧
        ∃ t, PSs (NdefX.ncx CX P w K mg base N F f A outer s H E) rest t ∧ t { nx := fun _ H' => Q .non H', rt := Q } (NdefX.startF N vs [some (.ref C)]) H)
    (hev : ∀ env : Env, eval (.Call (.Attribute (.Call (.Name "super" p0) [] [] p1) "__init__" apos) (e :: es) [] pos) env = (do
      let ov ← attributeBase (.Call (.Name "super" p0) [] [] p1) "__init__" env (eval (.Call (.Name "super" p0) [] [] p1) env)
      standAt apos.atName
      let (f, first) ← holding [ov] (getMethod ov "__init__" (pure false))
      callWith pos f first (backTo pos (starEach (e :: es) env)) []) := by intro env; rfl)
    (hst : ∀ env : Env, starEach (e :: es) env = (false, eval e env) :: starEach es env := by intro env; rfl) (hpl : ∀ env : Env, (backTo pos (starEach es env)).any (·.1) = false := by intro env; rfl)
    (hsw : ∀ env : Env, swapsWith (.Call (.Attribute (.Call (.Name "super" p0) [] [] p1) "__init__" apos) (e :: es) [] pos) none pos'.line env = pure false := by intro env; rfl) :
    FnOk P w K mg base CX (k + 1) f fd ps sp := by
  refine ⟨len, fun A outer s H args us vs Q E hr e0 hbind r hsp => ?_⟩
  have hl := len _ _ _ _ hsp
  obtain ⟨dV, kV, doc, pm, an, ctv, oc, od, osl, efd, lk⟩ := D.lk
  obtain ⟨cc, cl, cld, csl, hcl, hcc⟩ := D.cell
  obtain ⟨ar, har, har0⟩ := D.par
  obtain ⟨ccl, cdd, vvs, ccs, file, tf, hcode, hvs, hfile⟩ := D.code
  have KX : K.In s.heap := e0.mod.kin.keeps fun b o e => (e0.bs b o e).1
  have lim : s.heap.NoLimit := e0.mod.nolimit.keeps fun b o e => (e0.bs b o e).1
  have S := D.S
  have Hcc : H cc = none := (e0.bs cc _ (e0.mod.kin _ _ hcc)).2
  have Ccell : s.heap.IsCell cc (some (.ref C)) := ⟨_, KX _ _ hcc, rfl⟩
  have CA : NdefX.CellsAt F.cl [("__class__" : Str)] [some (.ref C)] s.heap H := by
    rw [hcl]
    refine ⟨rfl, fun y c e => ?_, fun x y c e1 e2 => ?_, fun i y e => ?_⟩
    · have := PySem.mem_of_lookup e
      simp only [List.mem_singleton, Prod.mk.injEq] at this
      obtain ⟨_, rfl⟩ := this
      exact ⟨Hcc, _, Ccell⟩
    · have h1 := PySem.mem_of_lookup e1
      have h2 := PySem.mem_of_lookup e2
      simp only [List.mem_singleton, Prod.mk.injEq] at h1 h2
      rw [h1.1, h2.1]
    · cases i with
      | zero =>
        simp at e
        subst e
        exact ⟨cc, by simp [List.lookup], fun v hv => ⟨.ref C, by simp at hv; subst hv; rfl, Ccell⟩⟩
      | succ i => simp at e
  obtain ⟨a, rs, hvs0, ea, ⟨ta, hpa, hta⟩, t, ht, hq⟩ := hb A outer s H vs Q E hsp
  refine codeAny_call_function hr.depth (KX _ _ lk) rfl (by rw [efd]; exact S.co) (by rw [efd]; exact S.gen) (by rw [efd]) (by rw [efd]; exact PySem.W.codeRec_of KX D.cd) (hbind _ _ _ _ ?_)
  subst efd
  refine wpAny_newFunctionEnv S.nocell (fun ⟨n, _⟩ hy => S.par n (List.of_mem_zip hy).1) (fun h₁ hns hsb => ⟨lim.fresh _ hsb, ?_⟩) S.kind
  show codeAny _ _ (.func F.body (NdefX.envF F f s.heap.objs.size)) _ _
  have kp : ∀ b o, s.heap.get? b = some o → h₁.get? b = some o := fun b o e => hsb.extBut b o (Nat.ne_of_lt (Heap.lt_size e)) (Heap.get?_push_of_some _ e)
  have I : Inv (NdefX.ncx CX P w K mg base N F f A outer s H E) [] (NdefX.startF N vs [some (.ref C)]) H { s with heap := h₁, toks := s.toks + (ps.zip us).length } := NdefX.inv_startN S hr.hd e0 hl r CA hns kp
  have hpre := S.pre
  have hN0 : N[0]? = some x0 := by
    have h1 : (ps ++ [("__class__" : Str)])[0]? = some x0 := by
      rw [List.getElem?_append_left (by have := (List.getElem?_eq_some_iff.mp D.n0).1; exact this)]; exact D.n0
    rw [← hpre, List.getElem?_take_of_lt (by simp)] at h1
    exact h1
  have hx0 : F.scope.names.lookup x0 = some .local := S.par x0 (List.mem_of_getElem? D.n0)
  refine PySem.ks_codeAny_funcAt ?_
  rw [hbody]
  have hfin : ∀ (fl : Flow) (s' : Shared), SP (NdefX.ncx CX P w K mg base N F f A outer s H E) [] { nx := fun _ H' => Q .non H', rt := Q } fl s' → CR CX outer P w H s Q E (.ok (.ret (match fl with | .ret v => v | _ => .none))) s' := fun fl s' hs => by
    have fin : ∀ {σ' : L2.St} {H' : Hp} {v : V} {u : Value}, Inv (NdefX.ncx CX P w K mg base N F f A outer s H E) [] σ' H' s' → L2.RelV v u → Q v H' → CE outer P w H s Q u s' :=
      fun {σ' H' v u} J rv q => ⟨v, H', J.os, J.bare, J.base, J.hok, rv, q⟩
    cases fl with
    | ret u =>
      obtain ⟨v, σ', H', J, rv, q⟩ := hs
      exact fin J rv q
    | next =>
      obtain ⟨σ', H', J, q⟩ := hs
      exact fin (v := V.non) (u := Value.none) J rfl q
    | brk =>
      obtain ⟨_, _, _, q⟩ := hs
      exact False.elim q
    | cont =>
      obtain ⟨_, _, _, q⟩ := hs
      exact False.elim q
  refine PySem.ks_wpAt_execs_cons (PySem.ks_wpAt_mono (Q := fun (fl : Flow) s' => fl = Flow.next ∧ Inv (NdefX.ncx CX P w K mg base N F f A outer s H E) [] (NdefX.startF N vs [some (.ref C)]) H s') (PySem.ks_wpAt_Expr_any ?_ (show interactive (NdefX.envF F f s.heap.objs.size) = false from I.quiet) (hsw _)) (fun fl s' h => ?_) fun e s' h => h)
  · have h0 : (NdefX.startF N vs [some (.ref C)])[0]? = some (some (.ref a)) := by
      rw [hvs0]; rfl
    refine PySem.ks_wpAt_mono (wpAt_super (X := NdefX.ncx CX P w K mg base N F f A outer s H E) I (xc _ rfl) D.sup (S.frk _ (by simp)) rfl lk har (by rw [har0]; exact hN0) (by rw [har0]; exact hx0) h0 rfl hcode hvs hfile (by show F.cl.lookup _ = some cc; rw [hcl]; simp [List.lookup]) hcc D.sm D.top hboot ea hpa hta (hst _) (hpl _) (hev _)) (fun _ s' h => ⟨rfl, h⟩) fun e s' h => h
  · obtain ⟨rfl, J⟩ := h
    exact PySem.wpAt_of_wpAny (wpAny_mono (ht.run [] s' _ H _ J hq) (fun fl s2 hs => hfin fl s2 hs) fun e s2 hs => hs)
end
end TL
namespace PySem
namespace TLK
open PySem.W PySem.Calls PyProof.Rows PySem.HandSPX
section
variable {M : Model} {A : Around} {E : Value → Shared → Prop} {h : Heap} {g : Array GenState} {d : Drawn} {t : Nat} {os : OsState}
variable {nm q : Str} {C N : Addr} {bs bm bmB : List Value} {hdct : Bool} {sn : List Str} {sub : List Value} {ab : Bool} {col : Option Bool} {dd : Option Addr} {k0 k1 k2 k3 k5 : Option Value} {B newId initId : String} {kw : List (Str × Value)}
theorem check_newK (F : ExcBaseFacts B newId initId bmB) (kT : ∀ X : String, bm.contains (.type X) = bmB.contains (.type X)) {us : List Value} {Q : Unit → Shared → Prop}
    (kC : h.get? C = some (excClassObj nm q C N bs bm hdct sn sub ab col dd k0 k1 k2 k3 k5 newId)) (fin : Q () ⟨h, g, d, t, os⟩) : wpAny M A (checkBuiltinCall newId ⟨.ref C :: us, kw⟩) Q E ⟨h, g, d, t, os⟩ := by
  have inB : (Value.ref C :: bm).contains (.type B) = true := by rw [List.contains_cons, kT, F.hasB, Bool.or_true]
  have star := F.noStar
  simp only [checkBuiltinCall, F.newKind, F.newSplit, F.newRow]
  repeat (first | refine wpAny_loadPart_at kC ?_ | (refine wpAny_isSubtype_exc kC ?_; rw [inB]) | refine wpAny_staticBase_exc kC ?_ | refine wpAny_madeBy_exc kC ?_ | simp only [bne_self_eq_false, Bool.false_eq_true, if_false] | wp_step)
  all_goals exact fin
end
section
variable {prog : Program} {w : World} {A : Around} {E : Value → Shared → Prop} {R : Result → Shared → Prop} {h : Heap} {g : Array GenState} {d : Drawn} {t : Nat} {os : OsState}
variable {nm q : Str} {C N : Addr} {bs bm bmB : List Value} {hdct : Bool} {sn : List Str} {sub : List Value} {ab : Bool} {col : Option Bool} {dd : Option Addr} {k0 k1 k2 k3 k5 : Option Value} {B newId initId : String} {kw : List (Str × Value)}
theorem new_K (F : ExcBaseFacts B newId initId bmB) (kT : ∀ X : String, bm.contains (.type X) = bmB.contains (.type X)) {us : List Value}
    (kC : h.get? C = some (excClassObj nm q C N bs bm hdct sn sub ab col dd k0 k1 k2 k3 k5 newId))
    (fin : R (.ok (.ret (.ref (h.objs.size + 1)))) ⟨(h.push { cls := .type "tuple", data := .seq us.toArray }).push
      { cls := .ref C, data := .fields #[.ref h.objs.size, .none, .none, .none, .bool false, .none] }, g, d, t, os⟩) (few : us.length ≤ sizeLine) :
    codeAny (model prog w) A (.builtin newId ⟨.ref C :: us, kw⟩) R ⟨h, g, d, t, os⟩ := by
  have ends := F.ends
  have inB : (Value.ref C :: bm).contains (.type B) = true := by rw [List.contains_cons, kT, F.hasB, Bool.or_true]
  have noA : (Value.ref C :: bm).contains (.type "AttributeError") = false := by rw [List.contains_cons, kT, F.noAttr]; rfl
  have noN : (Value.ref C :: bm).contains (.type "NameError") = false := by rw [List.contains_cons, kT, F.noName]; rfl
  refine codeAny_builtinAt F.entry ?_
  unfold Builtin.«BaseException.__new__»
  refine wpAt_bind ?_
  show wpAt _ _ _ (stack >>= _) _ _ _
  refine wpAt_bind (wpAt_stack fun p below => wpAt_of_wpAny ?_)
  wp_walk
  refine wpAt_of_wpAny ?_
  rw [F.owner]
  repeat (first | with_reducible refine wpAny_madeHere_exc F.canon kC ?_ | with_reducible refine wpAny_loadPart_at kC ?_ | (with_reducible refine wpAny_isSubtype_exc kC ?_; first | rw [inB] | rw [noA] | rw [noN]) | wp_step)
  show R _ _
  rw [Heap.size_push]
  exact fin
theorem type_callK (F : ExcBaseFacts B newId initId bmB) (kT : ∀ X : String, bm.contains (.type X) = bmB.contains (.type X)) {us : List Value} {fI : Addr} {Q : Fin → Shared → Prop}
    (kC : h.get? C = some (excClassObj nm q C N bs bm hdct sn sub ab col dd k0 k1 k2 k3 k5 newId))
    (ini : W.Looks (model prog w) h (typeLookup (.ref C) "__init__") (some (.ref fI))) (bd : ∀ self, W.Looks (model prog w) h (bindSpecial (.ref fI) self) (.ref fI, [self])) (few : us.length ≤ sizeLine)
    (fin : codeAny (model prog w) A (.call (.ref fI) ⟨.ref (h.objs.size + 1) :: us, kw⟩)
      (fun r s' => match r with | .ok (.ret v) => v = .none ∧ Q (.done (.ret (.ref (h.objs.size + 1)))) s' | .ok _ => False | .error e => E e s')
      ⟨(h.push (W.kdv_tup us)).push (excO C h.objs.size), g, d, t, os⟩) :
    wpAny (model prog w) A (Builtin.«type.__call__» ⟨.ref C :: us, kw⟩) Q E ⟨h, g, d, t, os⟩ := by
  repeat (first | with_reducible refine wpAny_loadPart_at kC ?_ | with_reducible refine wpAny_madeBy_exc kC ?_ | wp_step)
  refine codeAny_call_builtin_code (Code.quiet_builtin _ F.quiet) (check_newK F kT kC ?_)
  refine new_K F kT kC ?_ few
  show wpAny _ _ _ _ _ _
  have k : ∀ b o, h.get? b = some o → ((h.push (W.kdv_tup us)).push (excO C h.objs.size)).get? b = some o := fun b o e => Heap.get?_push_of_some _ (Heap.get?_push_of_some _ e)
  have kC1 := k _ _ kC
  have got : ((h.push (W.kdv_tup us)).push (excO C h.objs.size)).get? (h.objs.size + 1) = some (excO C h.objs.size) := by heap_get
  have inC : (Value.ref C :: bm).contains (.ref C) = true := by simp
  have ini1 := ini.keeps k
  have bd1 := (bd (.ref (h.objs.size + 1))).keeps k
  unfold isInstance
  repeat (first | with_reducible refine wpAny_loadPart_at got ?_ | (with_reducible refine wpAny_isSubtype_exc kC1 ?_; rw [inC]) | wp_step)
  show wpAny _ _ (typeLookup (.ref C) _) _ _ _
  refine ini1.at ?_
  refine wpAny_holding (wpAny_bind (bd1.at ?_))
  refine wpAny_bind (wpAny_call (codeAny_mono fin fun r s' z => ?_))
  rcases r with e | (v | _ | _ | _) <;> first | exact z | exact z.elim | skip
  obtain ⟨rfl, z⟩ := z
  first
    | exact wpAny_pure (wpAny_pure z)
    | (wp_walk; exact z)
theorem call_K (F : ExcBaseFacts B newId initId bmB) (kT : ∀ X : String, bm.contains (.type X) = bmB.contains (.type X)) {us : List Value} {fI : Addr}
    (kC : h.get? C = some (excClassObj nm q C N bs bm hdct sn sub ab col dd k0 k1 k2 k3 k5 newId))
    (ini : W.Looks (model prog w) h (typeLookup (.ref C) "__init__") (some (.ref fI))) (bd : ∀ self, W.Looks (model prog w) h (bindSpecial (.ref fI) self) (.ref fI, [self])) (few : us.length ≤ sizeLine)
    (fin : codeAny (model prog w) (A.under (.builtin "type.__call__" ⟨.ref C :: us, kw⟩)) (.call (.ref fI) ⟨.ref (h.objs.size + 1) :: us, kw⟩) (W.InitBack (h.objs.size + 1) R)
      ⟨(h.push (W.kdv_tup us)).push (excO C h.objs.size), g, d, t, os⟩) :
    codeAny (model prog w) A (.call (.ref C) ⟨us, kw⟩) R ⟨h, g, d, t, os⟩ := by
  have lk := tc_lookup
  have bn := tc_bind (.ref C)
  have tyC : (⟨h, g, d, t, os⟩ : Shared).TypeIs (.ref C) "type" := ⟨_, kC, rfl⟩
  refine codeAny_of_tree ?_
  show wpAny _ _ (callAny (.ref C) _) _ _ _
  repeat (any_goals (first | assumption | with_reducible refine wpAny_loadPart_at kC ?_ | wp_step))
  refine ⟨rfl, ?_⟩
  refine codeAny_call_builtin_at (Code.quiet_builtin _ (by decide +kernel)) entry_typeCall (wpAny_check_type_call_sub kC (type_callK F kT kC ini bd few ?_))
  refine codeAny_mono fin fun r s' z => ?_
  rcases r with e | (v | _ | _ | _) <;> exact z
end
end TLK
end PySem
namespace TL
open PySem PySem.Spec L2
open PyProof.Rows hiding St
variable {Z : Sg} {B : B0} {W : WX} {Hs Hs' Hs2 : Hp} {ρ ρ' ρ2 : List Addr} {σ : St} {H H' H2 : Hp} {s : S}
variable {X : Cx} {e e1 e2 e3 : Expr} {es : List Expr} {pos p p1 p2 p3 : Pos}

theorem RepF.append : ∀ {fs gs : List (Nat × T)} {us vs : List (Str × V)}, RepF Z Hs ρ fs us → RepF Z Hs ρ gs vs → RepF Z Hs ρ (fs ++ gs) (us ++ vs)
  | [], _, _, _, h, h' => by simp only [RepF] at h; subst h; exact h'
  | (k, t) :: fs, _, _, _, h, h' => by
    simp only [RepF] at h
    obtain ⟨v, r, rfl, h1, h2⟩ := h
    simp only [List.cons_append, RepF]
    exact ⟨v, _, rfl, h1, RepF.append h2 h'⟩
theorem RepF.rev : ∀ {fs : List (Nat × T)} {us : List (Str × V)}, RepF Z Hs ρ fs us → RepF Z Hs ρ fs.reverse us.reverse
  | [], _, h => by simp only [RepF] at h; subst h; simp only [List.reverse_nil, RepF]
  | (k, t) :: fs, _, h => by
    simp only [RepF] at h
    obtain ⟨v, r, rfl, h1, h2⟩ := h
    rw [List.reverse_cons, List.reverse_cons]
    exact (RepF.rev h2).append (by simp only [RepF]; exact ⟨v, [], rfl, h1, rfl⟩)
theorem RepF.zip : ∀ {kn : List Nat} {ts : List T} {vs : List V}, RepL Z Hs ρ ts vs → RepF Z Hs ρ (kn.zip ts) ((kn.map Z.nm).zip vs)
  | [], _, _, h => by simp only [List.zip_nil_left, List.map_nil, RepF]
  | k :: kn, [], _, h => by simp only [RepL] at h; subst h; simp only [List.zip_nil_right, RepF]
  | k :: kn, t :: ts, _, h => by
    simp only [RepL] at h
    obtain ⟨v, r, rfl, h1, h2⟩ := h
    simp only [List.zip_cons_cons, List.map_cons, RepF]
    exact ⟨v, _, rfl, h1, RepF.zip h2⟩
/-- the promise of an __init__ that stores its parameters as the attributes ks -/
def spX (C : Addr) (ks : List Str) : Sp := fun vs H Q E => ∃ a ws, vs = .ref a :: ws ∧ ws.length = ks.length ∧ H a = some (exo a C none) ∧
  ∀ dx, H dx = none → dx ≠ a → Q .non (upd (upd H dx (exd dx (ks.zip ws).reverse)) a (exo a C (some dx)))

section
variable {CX : CXT} {P : Program} {w : World} {K : PySem.W.Frag} {mg : Str → Option Value} {base : Heap} {N : List Str} {F : NdefX.NF} {f C : Addr} {fd : FuncData} {x0 y1 y2 : Str} {k : Nat}
theorem fn_x1 {p0 p1 apos pos pos' q1 q2 q3 q4 q5 : Pos} (D : SupD P K mg F f C fd N [x0, y1] x0) (hboot : bootBuiltins "super" = some (.type "super")) (xc : ∀ X : Cx, X.K = K → XCls X C)
    (hbody : F.body = [.Expr (.Call (.Attribute (.Call (.Name "super" p0) [] [] p1) "__init__" apos) [.Name y1 q1] [] pos) pos', .Assign [.Attribute (.Name x0 q2) y1 q3] (.Name y1 q4) q5])
    (hno : PySem.W.findIn K (.ref C) y1 = some none)
    (hd0 : (x0 == ("__debug__" : Str)) = false := by decide) (hc0 : (x0 == ("__classdict__" : Str)) = false := by decide) (hd1 : (y1 == ("__debug__" : Str)) = false := by decide) (hc1 : (y1 == ("__classdict__" : Str)) = false := by decide)
    (hev : ∀ env : Env, eval (.Call (.Attribute (.Call (.Name "super" p0) [] [] p1) "__init__" apos) [.Name y1 q1] [] pos) env = (do
      let ov ← attributeBase (.Call (.Name "super" p0) [] [] p1) "__init__" env (eval (.Call (.Name "super" p0) [] [] p1) env)
      standAt apos.atName
      let (f, first) ← holding [ov] (getMethod ov "__init__" (pure false))
      callWith pos f first (backTo pos (starEach [.Name y1 q1] env)) []) := by intro env; rfl)
    (hst : ∀ env : Env, starEach [.Name y1 q1] env = (false, eval (.Name y1 q1) env) :: starEach [] env := by intro env; rfl) (hpl : ∀ env : Env, (backTo pos (starEach [] env)).any (·.1) = false := by intro env; rfl)
    (hsw : ∀ env : Env, swapsWith (.Call (.Attribute (.Call (.Name "super" p0) [] [] p1) "__init__" apos) [.Name y1 q1] [] pos) none pos'.line env = pure false := by intro env; rfl)
    (hsw1 : ∀ env : Env, swapsWith (.Name y1 q4) (some (.Attribute (.Name x0 q2) y1 q3)) q5.line env = pure false := by intro env; rfl) :
    FnOk P w K mg base CX (k + 1) f fd [x0, y1] (spX C [y1]) := by
  refine fn_super (hev := hev) (hst := hst) (hpl := hpl) (hsw := hsw) D hboot xc hbody (fun vs H Q E ⟨a, ws, e, hl, _⟩ => by rw [e, List.length_cons, hl]; rfl) fun A outer s H vs Q E hsp => ?_
  obtain ⟨a, ws, rfl, hl, ea, q⟩ := hsp
  obtain ⟨v, rfl⟩ : ∃ v, ws = [v] := by
    match ws, hl with
    | [v], _ => exact ⟨v, rfl⟩
  have S := D.S
  have hN : ∀ i y, ([x0, y1] ++ [("__class__" : Str)])[i]? = some y → N[i]? = some y := fun i y h => by
    have hp := S.pre
    rw [← hp] at h
    have hi : i < ([x0, y1].length + [("__class__" : Str)].length) := by
      have := (List.getElem?_eq_some_iff.mp h).1
      rw [List.length_take] at this
      omega
    rw [List.getElem?_take_of_lt hi] at h
    exact h
  have v0 : Vis F.scope x0 := .inl (S.par x0 (by simp))
  have v1 : Vis F.scope y1 := .inl (S.par y1 (by simp))
  refine ⟨a, [v], rfl, ea, ⟨tCons (tVar 1) tNil, pa_cons (pe_var (hN 1 y1 rfl) v1 hd1 hc1) pa_nil (hst _), v, rfl, rfl, by simp⟩, tOst K y1 (tVar 0) (tVar 1), pss_one (ps_ost (X := NdefX.ncx CX P w K mg base N F f A outer s H E) (pe_var (hN 0 x0 rfl) v0 hd0 hc0) (pe_var (hN 1 y1 rfl) v1 hd1 hc1) (hsw1 _)), v, rfl, .ref a, rfl, a, C, rfl, (xc (NdefX.ncx CX P w K mg base N F f A outer s H E) rfl).T, hno, .inl ⟨ea, fun dx n1 n2 => q dx n1 n2⟩⟩
theorem fn_x2 {p0 p1 apos pos pos' q1 q1' q2 q3 q4 q5 r2 r3 r4 r5 : Pos} (D : SupD P K mg F f C fd N [x0, y1, y2] x0) (hboot : bootBuiltins "super" = some (.type "super")) (xc : ∀ X : Cx, X.K = K → XCls X C)
    (hbody : F.body = [.Expr (.Call (.Attribute (.Call (.Name "super" p0) [] [] p1) "__init__" apos) [.Name y1 q1, .Name y2 q1'] [] pos) pos', .Assign [.Attribute (.Name x0 q2) y1 q3] (.Name y1 q4) q5, .Assign [.Attribute (.Name x0 r2) y2 r3] (.Name y2 r4) r5])
    (hno : PySem.W.findIn K (.ref C) y1 = some none) (hno2 : PySem.W.findIn K (.ref C) y2 = some none)
    (hd0 : (x0 == ("__debug__" : Str)) = false := by decide) (hc0 : (x0 == ("__classdict__" : Str)) = false := by decide) (hd1 : (y1 == ("__debug__" : Str)) = false := by decide) (hc1 : (y1 == ("__classdict__" : Str)) = false := by decide) (hd2 : (y2 == ("__debug__" : Str)) = false := by decide) (hc2 : (y2 == ("__classdict__" : Str)) = false := by decide)
    (hev : ∀ env : Env, eval (.Call (.Attribute (.Call (.Name "super" p0) [] [] p1) "__init__" apos) [.Name y1 q1, .Name y2 q1'] [] pos) env = (do
      let ov ← attributeBase (.Call (.Name "super" p0) [] [] p1) "__init__" env (eval (.Call (.Name "super" p0) [] [] p1) env)
      standAt apos.atName
      let (f, first) ← holding [ov] (getMethod ov "__init__" (pure false))
      callWith pos f first (backTo pos (starEach [.Name y1 q1, .Name y2 q1'] env)) []) := by intro env; rfl)
    (hst : ∀ env : Env, starEach [.Name y1 q1, .Name y2 q1'] env = (false, eval (.Name y1 q1) env) :: starEach [.Name y2 q1'] env := by intro env; rfl) (hst2 : ∀ env : Env, starEach [.Name y2 q1'] env = (false, eval (.Name y2 q1') env) :: starEach [] env := by intro env; rfl) (hpl : ∀ env : Env, (backTo pos (starEach [.Name y2 q1'] env)).any (·.1) = false := by intro env; rfl)
    (hsw : ∀ env : Env, swapsWith (.Call (.Attribute (.Call (.Name "super" p0) [] [] p1) "__init__" apos) [.Name y1 q1, .Name y2 q1'] [] pos) none pos'.line env = pure false := by intro env; rfl)
    (hsw1 : ∀ env : Env, swapsWith (.Name y1 q4) (some (.Attribute (.Name x0 q2) y1 q3)) q5.line env = pure false := by intro env; rfl) (hsw2 : ∀ env : Env, swapsWith (.Name y2 r4) (some (.Attribute (.Name x0 r2) y2 r3)) r5.line env = pure false := by intro env; rfl) :
    FnOk P w K mg base CX (k + 1) f fd [x0, y1, y2] (spX C [y1, y2]) := by
  refine fn_super (hev := hev) (hst := hst) (hpl := hpl) (hsw := hsw) D hboot xc hbody (fun vs H Q E ⟨a, ws, e, hl, _⟩ => by rw [e, List.length_cons, hl]; rfl) fun A outer s H vs Q E hsp => ?_
  obtain ⟨a, ws, rfl, hl, ea, q⟩ := hsp
  obtain ⟨v, v', rfl⟩ : ∃ v v', ws = [v, v'] := by
    match ws, hl with
    | [v, v'], _ => exact ⟨v, v', rfl⟩
  have S := D.S
  have hN : ∀ i y, ([x0, y1, y2] ++ [("__class__" : Str)])[i]? = some y → N[i]? = some y := fun i y h => by
    have hp := S.pre
    rw [← hp] at h
    have hi : i < ([x0, y1, y2].length + [("__class__" : Str)].length) := by
      have := (List.getElem?_eq_some_iff.mp h).1
      rw [List.length_take] at this
      omega
    rw [List.getElem?_take_of_lt hi] at h
    exact h
  have w0 : Vis F.scope x0 := .inl (S.par x0 (by simp))
  have w1 : Vis F.scope y1 := .inl (S.par y1 (by simp))
  have w2 : Vis F.scope y2 := .inl (S.par y2 (by simp))
  have hT := (xc (NdefX.ncx CX P w K mg base N F f A outer s H E) rfl).T
  refine ⟨a, [v, v'], rfl, ea, ⟨tCons (tVar 1) (tCons (tVar 2) tNil), pa_cons (pe_var (hN 1 y1 rfl) w1 hd1 hc1) (pa_cons (pe_var (hN 2 y2 rfl) w2 hd2 hc2) pa_nil (hst2 _)) (hst _), v, rfl, v', rfl, rfl, by simp⟩, tSeq (tOst K y1 (tVar 0) (tVar 1)) (tOst K y2 (tVar 0) (tVar 2)),
    pss_cons (ps_ost (X := NdefX.ncx CX P w K mg base N F f A outer s H E) (pe_var (hN 0 x0 rfl) w0 hd0 hc0) (pe_var (hN 1 y1 rfl) w1 hd1 hc1) (hsw1 _)) (pss_one (ps_ost (X := NdefX.ncx CX P w K mg base N F f A outer s H E) (pe_var (hN 0 x0 rfl) w0 hd0 hc0) (pe_var (hN 2 y2 rfl) w2 hd2 hc2) (hsw2 _))),
    v, rfl, .ref a, rfl, a, C, rfl, hT, hno, .inl ⟨ea, fun dx n1 n2 => ?_⟩⟩
  refine ⟨v', rfl, .ref a, rfl, a, C, rfl, hT, hno2, .inr ⟨dx, _, upd_same, by rw [upd_ne n2, upd_same], by simp, ?_⟩⟩
  have := q dx n1 n2
  have e : upd (upd (upd H dx (exd dx [(y1, v)])) a (exo a C (some dx))) dx (exd dx ((y2, v') :: [(y1, v)])) = upd (upd H dx (exd dx ([y1, y2].zip [v, v']).reverse)) a (exo a C (some dx)) := by
    funext b
    by_cases h1 : b = dx
    · subst h1
      rw [upd_same, upd_ne n2, upd_same]; rfl
    · rw [upd_ne h1]
      by_cases h2 : b = a
      · subst h2; rw [upd_same, upd_same]
      · rw [upd_ne h2, upd_ne h2, upd_ne h1, upd_ne h1]
  show Q .non _
  rw [e]
  exact this
end
end TL
namespace TL
open PySem PySem.Spec L2
open PyProof.Rows hiding St
variable {Z : Sg} {B : B0} {W : WX} {Hs Hs' Hs2 : Hp} {ρ ρ' ρ2 : List Addr} {σ : St} {H H' H2 : Hp} {s : S}
variable {X : Cx} {e e1 e2 e3 : Expr} {es : List Expr} {pos p p1 p2 p3 : Pos}
section
variable {CX : CXT} {C fI : Addr} {k : Nat} {fd : FuncData} {ps ks : List Str} {sp : Sp} {x : Str} {t tk : TA} {g : List Value → List Value → List Value} {gV : List V → List V → List V} {n : Nat} {kws : List Keyword}
theorem run_oex {pins : List (Addr × Obj)} {s : Shared} {Q : VK} {us ws : List Value} {vs zs : List V} (T : OexC X.K C) (iC : PySem.W.findIn X.K (.ref C) "__init__" = some (some (.ref fI))) (tI : PySem.W.typeIn X.K (.ref fI) = some (.type "function"))
    (F1 : FnOk X.prog X.w X.K X.mg X.base CX k fI fd ps sp) (hr : Room (k + 1) X.A) (hb : KBn X.K fd ps (n + 1) ks g gV) (hx : Passes CX X (fun _ _ _ => False)) (I : Inv X pins σ H s) (r : Vals vs us) (rz : Vals zs ws) (l1 : vs.length = n) (l2 : zs.length = ks.length) (hn : n ≤ 1000)
    (h : ∀ a, H a = none → sp (gV (.ref a :: vs) zs) (upd H a (exo a C none)) (fun v H2 => v = .non ∧ Q (.ref a) H2) (fun _ _ _ => False)) :
    wpAny (model X.prog X.w) X.A (call (.ref C) us (ks.zip ws)) (EP X pins σ Q) X.xe s := by
  obtain ⟨nm, q, N, bs, bm, sn, sub, ab, col, dd, k0, k1, k2, k3, k5, hC, hbm⟩ := T.cls
  obtain ⟨hp, g0, dr, tk, os⟩ := s
  have fr : H (hp.objs.size + 1) = none := I.hok.fresh (Nat.le_succ _)
  have up : ∀ b o, hp.get? b = some o → ((hp.push (PySem.W.kdv_tup us)).push (PySem.HandSPX.excO C hp.objs.size)).get? b = some o := fun b o e => Heap.get?_push_of_some _ (Heap.get?_push_of_some _ e)
  have at_ : ((hp.push (PySem.W.kdv_tup us)).push (PySem.HandSPX.excO C hp.objs.size)).get? (hp.objs.size + 1) = some (PySem.HandSPX.excO C hp.objs.size) := by heap_get
  have I2 : Inv X pins σ (upd H (hp.objs.size + 1) (exo (hp.objs.size + 1) C none)) ⟨(hp.push (PySem.W.kdv_tup us)).push (PySem.HandSPX.excO C hp.objs.size), g0, dr, tk, os⟩ :=
    I.laid (t' := tk) (a := hp.objs.size + 1) up (Nat.le_succ _) (exo_ok at_)
  have few : us.length ≤ sizeLine := by
    rw [← r.length, l1, sizeLine_eq]; omega
  have r1 : Vals (V.ref (hp.objs.size + 1) :: vs) (Value.ref (hp.objs.size + 1) :: us) := .cons rfl r
  refine wpAny_call (PySem.TLK.call_K F.excBase_ValueError (fun Y => PySem.HandSPX.refsVE_contains Y bm hbm) (I.kIn _ _ hC) (PySem.W.looks_findIn I.kIn iC) (fun self => PySem.W.bind_fn I.kIn self tI) few
    (codeAny_mono (F1.run _ X.stack _ _ ⟨Value.ref (hp.objs.size + 1) :: us, ks.zip ws⟩ (g (Value.ref (hp.objs.size + 1) :: us) ws) (gV (V.ref (hp.objs.size + 1) :: vs) zs) _ (fun _ _ _ => False) (hr.make C us (ks.zip ws)) (I2.env0.make C us (ks.zip ws))
      (hb.to _ _ ws I2.kIn (by rw [List.length_cons, ← r.length, l1]) (by rw [← rz.length, l2])) (hb.rel r1 rz) (h _ fr)) fun res s' hq => ?_))
  cases res with
  | error er => exact hx pins σ _ _ er s' I2 hq
  | ok fl =>
    cases fl with
    | ret u =>
      obtain ⟨v, H3, J, rv, ev, q3⟩ := I2.after hq
      subst ev
      exact ⟨rv, .ref (hp.objs.size + 1), H3, J, rfl, q3⟩
    | next => exact hq.elim
    | brk => exact hq.elim
    | cont => exact hq.elim
/-- the reading -/
def tMkX (C : Addr) (n m : Nat) (sp : Sp) (gV : List V → List V → List V) (t tk : TA) : TE := fun σ H Q => t σ H fun vs H1 => tk σ H1 fun zs H2 => vs.length = n ∧ zs.length = m ∧
  ∀ a, H2 a = none → sp (gV (.ref a :: vs) zs) (upd H2 a (exo a C none)) (fun v H3 => v = .non ∧ Q (.ref a) H3) (fun _ _ _ => False)
theorem pe_oexP (T : OexC X.K C) (iC : PySem.W.findIn X.K (.ref C) "__init__" = some (some (.ref fI))) (tI : PySem.W.typeIn X.K (.ref fI) = some (.type "function")) (F1 : FnOk X.prog X.w X.K X.mg X.base CX k fI fd ps sp) (hr : Room (k + 1) X.A) (hb : KBn X.K fd ps (n + 1) [] g gV) (hx : Passes CX X (fun _ _ _ => False)) (hn : n ≤ 1000)
    (hg : Gl X x) (hm : X.mg x = some (.ref C)) (ha : PA X (e :: es) t) (hdb : (x == ("__debug__" : Str)) = false := by decide) (he : starEach (e :: es) X.env = (false, eval e X.env) :: starEach es X.env := by rfl) (hpl : (backTo pos (starEach es X.env)).any (·.1) = false := by rfl) :
    PE X (.Call (.Name x p) (e :: es) [] pos) (tMkX C n 0 sp gV t tNil) := by
  refine ⟨fun pins s σ H Q I h => ?_⟩
  refine wpAny_Call_Name_kw (ld_glob I hg hm ?_ hdb)
  refine PySem.W.callWith_K (h₀ := X.base) I.ok.mod.kin T.kC (thn (ha.run pos pins s σ H _ I h) fun us s1 ⟨vs, H1, I1, r1, l1, l2, q1⟩ => ⟨I1.kIn, ?_⟩) he hpl
  exact run_oex (us := us) (ws := []) (zs := []) T iC tI F1 hr hb hx I1 r1 .nil l1 rfl hn q1
theorem pe_oex0 (T : OexC X.K C) (iC : PySem.W.findIn X.K (.ref C) "__init__" = some (some (.ref fI))) (tI : PySem.W.typeIn X.K (.ref fI) = some (.type "function")) (F1 : FnOk X.prog X.w X.K X.mg X.base CX k fI fd ps sp) (hr : Room (k + 1) X.A) (hb : KBn X.K fd ps 1 [] g gV) (hx : Passes CX X (fun _ _ _ => False))
    (hg : Gl X x) (hm : X.mg x = some (.ref C)) (hdb : (x == ("__debug__" : Str)) = false := by decide) :
    PE X (.Call (.Name x p) [] [] pos) (tMkX C 0 0 sp gV tNil tNil) := by
  refine ⟨fun pins s σ H Q I h => ?_⟩
  refine wpAny_Call_Name_kw (ld_glob I hg hm ?_ hdb)
  obtain ⟨l1, l2, q1⟩ := h
  exact PySem.W.callWith_K0 I.kIn T.kC (run_oex (us := []) (vs := []) (ws := []) (zs := []) T iC tI F1 hr hb hx I .nil .nil rfl rfl (Nat.zero_le _) q1)
theorem pe_oexK (T : OexC X.K C) (iC : PySem.W.findIn X.K (.ref C) "__init__" = some (some (.ref fI))) (tI : PySem.W.typeIn X.K (.ref fI) = some (.type "function")) (F1 : FnOk X.prog X.w X.K X.mg X.base CX k fI fd ps sp) (hr : Room (k + 1) X.A) (hb : KBn X.K fd ps 1 ks g gV) (hx : Passes CX X (fun _ _ _ => False))
    (hg : Gl X x) (hm : X.mg x = some (.ref C)) (hkw : PK X kws tk)
    (hall : (backToKw pos (keywordEach kws X.env)).all (·.1.isSome) = true := by rfl) (hks : (backToKw pos (keywordEach kws X.env)).filterMap (·.1) = ks := by rfl) (hdb : (x == ("__debug__" : Str)) = false := by decide)
    (hpl : ((backTo pos (starEach [] X.env)).any (·.1) || (backToKw pos (keywordEach kws X.env)).any (·.1.isNone)) = false := by rfl) :
    PE X (.Call (.Name x p) [] kws pos) (tMkX C 0 ks.length sp gV tNil tk) := by
  refine ⟨fun pins s σ H Q I h => ?_⟩
  refine wpAny_Call_Name_kw (ld_glob I hg hm ?_ hdb)
  refine PySem.W.callWith_KW0 (h₀ := X.base) I.ok.mod.kin T.kC hall ?_ hpl
  refine thn (hkw.run pos pins s σ H _ I h) fun ws s2 ⟨zs, H2, I2, rz, l1, l2, q2⟩ => ⟨I2.kIn, ?_⟩
  rw [hks]
  exact run_oex (us := []) (vs := []) T iC tI F1 hr hb hx I2 .nil rz rfl l2 (Nat.zero_le _) q2
end
/-- keyword arguments -/
def EK (X : Cx) (Z : Sg) (W : WX) (kws : List Keyword) (c : M (List T)) : Prop := ∀ B, PK X kws (tAr Z B W c)
theorem _root_.L2.PK.wk {kws : List Keyword} {t t' : TA} (h : PK X kws t) (k : ∀ σ H Q, t' σ H Q → t σ H Q) : PK X kws t' := ⟨fun pos pins s σ H Q I q => h.run pos pins s σ H Q I (k σ H Q q)⟩
theorem ek_nil : EK X Z W [] cNil := fun B => pk_nil.wk fun σ H Q ⟨Hs, ρ, s, R, f⟩ => f.here R [] .nil
theorem ek_cons {nm : Option Str} {kpos : Pos} {kws : List Keyword} {c : M T} {cs : M (List T)} (h : EV X Z W e c) (h2 : EK X Z W kws cs) : EK X Z W (⟨nm, e, kpos⟩ :: kws) (cCons c cs) := fun B =>
  (pk_cons (h B) (h2 B)).wk fun σ H Q ⟨Hs, ρ, s, R, f⟩ => ⟨Hs, ρ, s, R, f.bnd.imp fun t Hs1 ρ1 H1 s1 R1 _ _ q v hv => ⟨Hs1, ρ1, s1, R1, q.bnd.imp fun ts Hs2 ρ2 H2 s2 R2 m p q2 vs hvs => q2.here R2 _ (.cons (hv.mono m p) hvs)⟩⟩
/-- a new exception of the class number c, its attributes kn -/
def mkX (c : Nat) (kn : List Nat) (ts : List T) : T := .exn c (kn.zip ts).reverse
theorem mkX_in {c : Nat} {kn : List Nat} {ts zs : List T} {vs ws : List V} {Q : VK} {gV : List V → List V → List V} {gT : List T → List T → List T} (R : Rel Z B Hs ρ σ H s) (rv : RepL Z Hs ρ ts vs) (rz : RepL Z Hs ρ zs ws)
    (hgl : ∀ a (vs ws : List V), ∃ us, gV (a :: vs) ws = a :: us) (hg : ∀ (Hs : Hp) (ρ : List Addr) a vs ws us ts zs, gV (a :: vs) ws = a :: us → RepL Z Hs ρ ts vs → RepL Z Hs ρ zs ws → RepL Z Hs ρ (gT ts zs) us) (hl : (gT ts zs).length = kn.length)
    (q : FIN Z B W Hs ρ σ (fun t Hs' ρ' H' _ => ∀ v, Rep Z Hs' ρ' t v → Q v H') (.ok (mkX c kn (gT ts zs)) s)) : ∀ a, H a = none → spX (Z.cls c) (kn.map Z.nm) (gV (.ref a :: vs) ws) (upd H a (exo a (Z.cls c) none)) (fun v H2 => v = .non ∧ Q (.ref a) H2) (fun _ _ _ => False) := fun a ha => by
  obtain ⟨us, eu⟩ := hgl (.ref a) vs ws
  have ru := hg Hs ρ (.ref a) vs ws us ts zs eu rv rz
  refine ⟨a, us, eu, by rw [ru.length, hl, List.length_map], upd_same, fun dx hd hne => ⟨rfl, ?_⟩⟩
  have hdx : H dx = none := by rw [upd_ne hne] at hd; exact hd
  have R1 := R.alloc (p := dx) (exd dx ((kn.map Z.nm).zip us).reverse) hdx
  have ha1 : upd H dx (exd dx ((kn.map Z.nm).zip us).reverse) a = none := by rw [upd_ne (Ne.symm hne)]; exact ha
  have R2 := R1.alloc (p := a) (exo a (Z.cls c) (some dx)) ha1
  have e : upd (upd (upd H a (exo a (Z.cls c) none)) dx (exd dx ((kn.map Z.nm).zip us).reverse)) a (exo a (Z.cls c) (some dx)) = upd (upd H dx (exd dx ((kn.map Z.nm).zip us).reverse)) a (exo a (Z.cls c) (some dx)) := by
    funext b
    by_cases h1 : b = a
    · subst h1; rw [upd_same, upd_same]
    · rw [upd_ne h1, upd_ne h1]
      by_cases h2 : b = dx
      · subst h2; rw [upd_same, upd_same]
      · rw [upd_ne h2, upd_ne h2, upd_ne h1]
  rw [e]
  have n1 : Hs dx = none := (R.no_of hdx).2.1
  have n2 : upd Hs dx (exd dx ((kn.map Z.nm).zip us).reverse) a = none := (R1.no_of ha1).2.1
  have m1 : Mono Hs (upd (upd Hs dx (exd dx ((kn.map Z.nm).zip us).reverse)) a (exo a (Z.cls c) (some dx))) := (Mono.up n1).trans (.up n2)
  refine q.at R2 m1 (List.prefix_refl _) _ ?_
  unfold mkX
  simp only [Rep]
  exact ⟨a, rfl, .inr ⟨dx, _, upd_same, by rw [upd_ne hne, upd_same], (RepF.zip (ru.mono m1 (List.prefix_refl _))).rev⟩⟩

@[simp] def cMkX (c : Nat) (kn : List Nat) (n m : Nat) (gT : List T → List T → List T) (cs ck : M (List T)) : M T := TL.bnd cs fun ts => TL.bnd ck fun zs => if ts.length = n ∧ zs.length = m ∧ (gT ts zs).length = kn.length then ret (mkX c kn (gT ts zs)) else stk
/-- what is known of the class's __init__ -/
structure XMk (X : Cx) (Z : Sg) (c : Nat) (kn : List Nat) (k : Nat) (fI : Addr) (fd : FuncData) (ps : List Str) : Prop where
  T : OexC X.K (Z.cls c)
  iC : PySem.W.findIn X.K (.ref (Z.cls c)) "__init__" = some (some (.ref fI))
  tI : PySem.W.typeIn X.K (.ref fI) = some (.type "function")
  F1 : FnOk X.prog X.w X.K X.mg X.base (L2.CX X.prog X.w) k fI fd ps (spX (Z.cls c) (kn.map Z.nm))
/-- how the parameters are filled, in values and in trees -/
structure XArg (X : Cx) (Z : Sg) (fd : FuncData) (ps : List Str) (n : Nat) (ks : List Str) (g : List Value → List Value → List Value) (gV : List V → List V → List V) (gT : List T → List T → List T) : Prop where
  hb : KBn X.K fd ps (n + 1) ks g gV
  hgl : ∀ a (vs ws : List V), ∃ us, gV (a :: vs) ws = a :: us
  hg : ∀ (Hs : Hp) (ρ : List Addr) a vs ws us ts zs, gV (a :: vs) ws = a :: us → RepL Z Hs ρ ts vs → RepL Z Hs ρ zs ws → RepL Z Hs ρ (gT ts zs) us
section
variable {c k n : Nat} {kn : List Nat} {fI : Addr} {fd : FuncData} {ps ks : List Str} {x : Str} {g : List Value → List Value → List Value} {gV : List V → List V → List V} {gT : List T → List T → List T} {kws : List Keyword} {cs ck : M (List T)}
theorem mkX_read {Q : VK} {m : Nat} (A : XArg X Z fd ps n ks g gV gT) {Hs : Hp} {ρ : List Addr} {s : S} (R : Rel Z B Hs ρ σ H s) (f : FIN Z B W Hs ρ σ (fun t Hs' ρ' H' _ => ∀ v, Rep Z Hs' ρ' t v → Q v H') (cMkX c kn n m gT cs ck s)) :
    tMkX (Z.cls c) n m (spX (Z.cls c) (kn.map Z.nm)) gV (tAr Z B W cs) (tAr Z B W ck) σ H Q :=
  ⟨Hs, ρ, s, R, f.bnd.imp fun ts Hs1 ρ1 H1 s1 R1 _ _ q vs hv => ⟨Hs1, ρ1, s1, R1, q.bnd.imp fun zs Hs2 ρ2 H2 s2 R2 m p q2 ws hw => by
    split at q2
    · rename_i hl
      have hv2 := hv.mono m p
      exact ⟨by rw [hv.length]; exact hl.1, by rw [hw.length]; exact hl.2.1, mkX_in R2 hv2 hw A.hgl A.hg hl.2.2 q2⟩
    · exact q2.elim⟩⟩
theorem ev_exn (D : XMk X Z c kn k fI fd ps) (A : XArg X Z fd ps n [] g gV gT) (hr : Room (k + 1) X.A) (hx : Passes (L2.CX X.prog X.w) X (fun _ _ _ => False)) (hn : n ≤ 1000) (hg : Gl X x) (hm : X.mg x = some (.ref (Z.cls c))) (ha : EA X Z W (e :: es) cs)
    (hdb : (x == ("__debug__" : Str)) = false := by decide) (he : starEach (e :: es) X.env = (false, eval e X.env) :: starEach es X.env := by rfl) (hpl : (backTo pos (starEach es X.env)).any (·.1) = false := by rfl) :
    EV X Z W (.Call (.Name x p) (e :: es) [] pos) (cMkX c kn n 0 gT cs cNil) := fun B =>
  (pe_oexP D.T D.iC D.tI D.F1 hr A.hb hx hn hg hm (ha B) hdb he hpl).wk fun σ H Q ⟨Hs, ρ, s, R, f⟩ => by
    obtain ⟨Hs1, ρ1, s1, R1, f1⟩ := mkX_read A R f
    refine ⟨Hs1, ρ1, s1, R1, f1.imp fun ts Hs2 ρ2 H2 s2 _ _ _ q vs hv => ?_⟩
    obtain ⟨Hs3, ρ3, s3, R3, f3⟩ := q vs hv
    exact f3.here R3 [] .nil
theorem ev_exn0 (D : XMk X Z c kn k fI fd ps) (A : XArg X Z fd ps 0 [] g gV gT) (hr : Room (k + 1) X.A) (hx : Passes (L2.CX X.prog X.w) X (fun _ _ _ => False)) (hg : Gl X x) (hm : X.mg x = some (.ref (Z.cls c)))
    (hdb : (x == ("__debug__" : Str)) = false := by decide) :
    EV X Z W (.Call (.Name x p) [] [] pos) (cMkX c kn 0 0 gT cNil cNil) := fun B =>
  (pe_oex0 D.T D.iC D.tI D.F1 hr A.hb hx hg hm hdb).wk fun σ H Q ⟨Hs, ρ, s, R, f⟩ => by
    obtain ⟨Hs1, ρ1, s1, R1, f1⟩ := mkX_read A R f
    obtain ⟨Hs3, ρ3, s3, R3, f3⟩ := f1.here R1 [] .nil
    exact f3.here R3 [] .nil
theorem ev_exnK (D : XMk X Z c kn k fI fd ps) (A : XArg X Z fd ps 0 ks g gV gT) (hr : Room (k + 1) X.A) (hx : Passes (L2.CX X.prog X.w) X (fun _ _ _ => False)) (hg : Gl X x) (hm : X.mg x = some (.ref (Z.cls c))) (ha : EK X Z W kws ck)
    (hall : (backToKw pos (keywordEach kws X.env)).all (·.1.isSome) = true := by rfl) (hks : (backToKw pos (keywordEach kws X.env)).filterMap (·.1) = ks := by rfl) (hdb : (x == ("__debug__" : Str)) = false := by decide)
    (hpl : ((backTo pos (starEach [] X.env)).any (·.1) || (backToKw pos (keywordEach kws X.env)).any (·.1.isNone)) = false := by rfl) :
    EV X Z W (.Call (.Name x p) [] kws pos) (cMkX c kn 0 ks.length gT cNil ck) := fun B =>
  (pe_oexK D.T D.iC D.tI D.F1 hr A.hb hx hg hm (ha B) hall hks hdb hpl).wk fun σ H Q ⟨Hs, ρ, s, R, f⟩ => by
    obtain ⟨Hs1, ρ1, s1, R1, f1⟩ := mkX_read A R f
    exact f1.here R1 [] .nil
end
/-- an own exception class without an __init__ of its own, called without arguments -/
theorem ev_exnB {c : Nat} {x : Str} {bmB : List Value} {Bc newId initId : String} (F : ExcBaseFacts Bc newId initId bmB) (q : PySem.W.excIn X.K (Z.cls c) bmB newId = true) (gC : X.mg x = some (.ref (Z.cls c))) (kC : PySem.W.keepIn X.K (.ref (Z.cls c)) = true) (hg : Gl X x)
    (hdb : (x == ("__debug__" : Str)) = false := by decide) : EV X Z W (.Call (.Name x p) [] [] pos) (ret (.exn c [])) := fun B => by
  refine ⟨fun pins s σ H Q I h => ?_⟩
  obtain ⟨Hs, ρ, s0, R, f⟩ := h
  refine wpAny_Call_Name_kw (ld_glob I hg gC ?_ hdb)
  refine PySem.W.callWith_K0 I.kIn kC ?_
  show wpAny _ _ (call (.ref (Z.cls c)) []) _ _ _
  obtain ⟨bm, N, nm, qn, bs, hdct, sn, sub, ab, col, dd, k0, k1, k2, k3, k5, mN, hC, hN, hni, T⟩ := exc_obj I.kIn q
  refine wpAny_call_exc_subT F T hC hN hni (fun h' a hm => ?_) (Nat.zero_le _)
  have hn : H a = none := I.hok.gone hm.new
  obtain ⟨t, ht, _, _⟩ := hm.there
  refine ⟨.ref a, upd H a (exo a (Z.cls c) none), I.laidN hm.keeps hm.new hn (exo_ok ht), rfl, ?_⟩
  refine f.at (R.alloc _ hn) (.up (R.no_of hn).2.1) (List.prefix_refl _) _ ?_
  simp only [Rep]
  exact ⟨a, rfl, .inl ⟨trivial, upd_same⟩⟩

def cXF (cs : List Nat) (k : Nat) (o : M RV) : M T := TL.bnd o fun r => fun s => match look r s with
  | some (.exn c fs) => (match cs.contains c, fs.lookup k with
    | true, some t => .ok t s
    | _, _ => .stuck)
  | _ => .stuck
structure XFOk (Z : Sg) (cs : List Nat) (k : Nat) : Prop where
  cl : ∀ c ∈ cs, XfC Z.K (Z.cls c)
  no : ∀ c ∈ cs, PySem.W.findIn Z.K (.ref (Z.cls c)) (Z.nm k) = some none
theorem ev_xf {o : Expr} {f : Str} {cs : List Nat} {k : Nat} {co : M RV} (hK : Z.K = X.K) (hi : ∀ i j, Z.nm i = Z.nm j → i = j) (hk : Z.nm k = f) (ok : XFOk Z cs k) (he : ER X Z W o co) (hb : attributeBase o f X.env (eval o X.env) = eval o X.env := by rfl) : EV X Z W (.Attribute o f pos) (cXF cs k co) := fun B => by
  refine ⟨fun pins s σ H Q I h => ?_⟩
  obtain ⟨Hs, ρ, s0, R, f⟩ := h
  refine attr_of hb (thn ((he B).run pins s σ H (fun v H1 => ∃ a dx us c u, v = .ref a ∧ H1 a = some (exo a (Z.cls c) (some dx)) ∧ H1 dx = some (exd dx us) ∧ c ∈ cs ∧ us.lookup (Z.nm k) = some u ∧ Q u H1) I ⟨Hs, ρ, s0, R, f.bnd.imp fun r Hs1 ρ1 H1 s1 R1 _ _ q v hv => ?_⟩) fun u s1 hh => ?_)
  · cases ql : look r s1 with
    | none => simp only [ql] at q; exact q.elim
    | some u =>
      simp only [ql] at q
      have vr := R1.look_ok hv ql
      cases u with
      | exn c fs =>
        simp only at q
        cases qc : cs.contains c with
        | false => simp only [qc] at q; exact q.elim
        | true =>
          cases qf : fs.lookup k with
          | none => simp only [qc, qf] at q; exact q.elim
          | some t =>
            simp only [qc, qf] at q
            have hc : c ∈ cs := by simpa using qc
            simp only [VRep, Rep] at vr
            obtain ⟨a, rfl, hx⟩ := vr
            rcases hx with ⟨rfl, _⟩ | ⟨dx, us, h1, h2, h3⟩
            · cases qf
            · obtain ⟨w, e1, e2⟩ := (h3.lookup hi).1 t qf
              exact ⟨a, dx, us, c, w, rfl, R1.rg.sub _ _ h1, R1.rg.sub _ _ h2, hc, e1, q.here R1 w e2⟩
      | _ => exact q.elim
  · obtain ⟨x, H1, I1, rx, a, dx, us, c, w, ex, ea, ed, hc, l, q⟩ := hh
    subst ex
    obtain rfl : u = Value.ref a := rx
    obtain ⟨t1, hx⟩ := exo_at I1.hok ea
    obtain ⟨mA, hns, rel⟩ := exd_at I1.hok ed
    have T := ok.cl c hc
    rw [hK] at T
    have hno := ok.no c hc
    rw [hK, hk] at hno
    rw [hk] at l
    obtain ⟨od, ho, hl⟩ := lookIn_ns hns
    obtain ⟨u, hu, ru⟩ := RelO.some_of (v := w) (o := mA _) (by rw [← l]; exact rel _)
    have J : PySem.W.InstAt s1.heap a _ (Z.cls c) (some od) := ⟨hx, rfl, rfl, ho⟩
    exact HandSPX.exc_get I1.kIn J T.ga T.gg T.exC (PySem.W.findObj_own T.hdC hno rfl (by rw [hl, hu])) (handed_of ru) ⟨w, H1, I1.tok _, ru, q⟩

structure IsTabX (Z : Sg) (u : Value) (f : TN → Option Bool) : Prop where
  ty : ∀ n b, f (.ty n) = some b → PySem.W.kitOne Z.K (.type n) u = some b ∧ n ≠ "type" ∧ n ≠ "?"
  cl : ∀ c b, f (.cl c) = some b → PySem.W.kitOne Z.K (.ref (Z.cls c)) u = some b ∧ IsC Z.K (Z.cls c)
  ex : ∀ c b, f (.ex c) = some b → PySem.W.kitOne Z.K (.ref (Z.cls c)) u = some b ∧ ExcC Z.K (Z.cls c)
theorem call_isX : CallR X (.builtin "isinstance") (fun xs H Q => ∃ (c : V) (u : Value) (a C : Addr) (d : Option Addr) (b : Bool), xs = [.ref a, c] ∧ ClsV c u ∧ H a = some (exo a C d) ∧ (∀ dx, d = some dx → ∃ us, H dx = some (exd dx us)) ∧ ExcC X.K C ∧ PySem.W.kitOne X.K (.ref C) u = some b ∧ Q (.bl b) H) := by
  intro pins s σ H xs us Q I r h
  obtain ⟨c, u, a, C, d, b, rfl, k, ea, ed, E, e, q⟩ := h
  obtain ⟨u1, u2, rfl, r1, r2⟩ := vals2 r
  have e2 := k.eq r2
  subst e2
  obtain rfl : u1 = Value.ref a := r1
  obtain ⟨t1, hx⟩ := exo_at I.hok ea
  have hcl : (PySem.W.clsIn X.K C).isSome = true := by
    obtain ⟨cd, hc, _⟩ := PySem.W.any_some E.hd
    rw [hc]; rfl
  have fin : ∀ (od : Option Obj) (ox : Obj), PySem.W.InstAt s.heap a ox C od → wpAny (model X.prog X.w) X.A (call (.builtin "isinstance") [.ref a, u2]) (EP X pins σ Q) X.xe s := fun od ox J =>
    PySem.W.kia_one (PySem.W.kitx_exc (ox := ox) (od := od) hcl E.hg E.hk E.hs E.ha E.hn E.ht E.hm) I.kIn J e (fun z => nomatch z) fun tk => ⟨.bl b, H, I.tok tk, rfl, q⟩
  cases d with
  | none => exact fin none _ ⟨hx, rfl, rfl, trivial⟩
  | some dx =>
    obtain ⟨us, hd⟩ := ed dx rfl
    obtain ⟨mA, hns, _⟩ := exd_at I.hok hd
    obtain ⟨od, ho, _⟩ := lookIn_ns hns
    exact fin (some od) _ ⟨hx, rfl, rfl, ho⟩
theorem ev_isiX {c : M RV} {vc : V} {u : Value} {f : TN → Option Bool} {x : Str} (hK : Z.K = X.K) (F : IsTabX Z u f) (h1 : ER X Z W e1 c) (hc : PE X e2 (tC vc)) (hv : ClsV vc u) (hg : Gl X x) (hm : X.mg x = none) (hb : bootBuiltins x = some (.builtin "isinstance")) (hn : x ≠ "__name__" := by decide) (hdb : (x == ("__debug__" : Str)) = false := by decide)
    (he : starEach [e1, e2] X.env = (false, eval e1 X.env) :: starEach [e2] X.env := by rfl) (he2 : starEach [e2] X.env = (false, eval e2 X.env) :: starEach [] X.env := by rfl) (hpl : (backTo pos (starEach [e2] X.env)).any (·.1) = false := by rfl) :
    EV X Z W (.Call (.Name x p) [e1, e2] [] pos) (cIsi c f) := fun B =>
  (pe_callB (call_isi.oder call_isX) hg hm hb (pa_cons (h1 B) (pa_cons hc pa_nil he2) he) hn hdb he hpl).wk fun σ H Q ⟨Hs, ρ, s, R, fi⟩ => ⟨Hs, ρ, s, R, fi.bnd.imp fun a Hs1 ρ1 H1 s1 R1 _ _ q v ha => by
    cases e0 : look a s1 with
    | none => simp only [e0] at q; exact q.elim
    | some t =>
      cases e3 : f (tyN t) with
      | none => simp only [e0, e3] at q; exact q.elim
      | some b =>
        simp only [e0, e3] at q
        have vr := R1.look_ok ha e0
        have fin := q.here R1 (.bl b) (by simp only [Rep])
        by_cases hx : ∃ c, tyN t = .ex c
        · obtain ⟨c, hx⟩ := hx
          cases t with
          | exn c' fs =>
            obtain ⟨k1, k2⟩ := F.ex _ _ e3
            simp only [VRep, Rep] at vr
            obtain ⟨a', rfl, hh⟩ := vr
            refine .inr ?_
            rcases hh with ⟨_, h1⟩ | ⟨dx, us, h1, h2, _⟩
            · exact ⟨vc, u, a', _, none, b, rfl, hv, R1.rg.sub _ _ h1, (fun dx e => nomatch e), by rw [← hK]; exact k2, by rw [← hK]; exact k1, fin⟩
            · exact ⟨vc, u, a', _, some dx, b, rfl, hv, R1.rg.sub _ _ h1, (fun dx' e => by cases e; exact ⟨us, R1.rg.sub _ _ h2⟩), by rw [← hK]; exact k2, by rw [← hK]; exact k1, fin⟩
          | _ => cases hx
        · have F' : IsTab Z u (fun n => match n with | .ex _ => none | n => f n) := ⟨fun n b e => F.ty n b e, fun c b e => F.cl c b e, fun c => rfl⟩
          have e4 : (fun n => match n with | TN.ex _ => none | n => f n) (tyN t) = some b := by
            cases hn : tyN t with
            | ty n => simp only; rw [← hn]; exact e3
            | cl c => simp only; rw [← hn]; exact e3
            | ex c => exact absurd ⟨c, hn⟩ hx
          obtain ⟨ty, g1, g2⟩ := tyN_ok hK F' R1.rg.sub vr e4
          exact .inl ⟨v, vc, ty, u, b, rfl, hv, g1, g2, fin⟩⟩
end TL
namespace TL
open PySem PySem.Spec L2
open PyProof.Rows hiding St
variable {Z : Sg} {B : B0} {W : WX} {X : Cx}
def DSame : Eqv := fun x y _ => ∃ a, x = .ref a ∧ y = .ref a
theorem eqG_same : EqG X 0 DSame := by
  rintro A pins s σ H x y u v sb I rx ry ⟨a, rfl, rfl⟩
  cases rx
  cases ry
  exact SeqAt.EqAt.same (A := A) (s := s) (.ref a) X.prog X.w X.xe _ ⟨rfl, H, I, Ext.rfl'⟩
def DLs (D : Eqv) : Eqv := fun x y H => ∃ a b xs ys, x = .ref a ∧ y = .ref b ∧ Rd H a (.lst xs) ∧ Rd H b (.lst ys) ∧ Prs D xs ys H
theorem rd_list {P : Program} {w : World} {H : Hp} {h : Heap} {a : Addr} {xs : List V} (hok : HOk P w H h) (e : Rd H a (.lst xs)) : ∃ (its : List Value) (n : Nat), Vals xs its ∧ h.get? a = some { cls := .type "list", data := .seq its.toArray n } := by
  rcases e with e | ⟨o, e⟩
  · obtain ⟨_, its, n, r, h1⟩ := hok a _ e
    exact ⟨its, n, r, h1⟩
  · have := hok a _ e
    obtain ⟨_, _, its, n, r, h1⟩ := (show ObjOk P w H h a (.frz o (.lst xs)) from this)
    exact ⟨its, n, r, h1⟩
theorem rcG_ls {n : Nat} {D : Eqv} (hD : Mon D) (h : EqG X n D) : RcG X (n + 1) (DLs D) := by
  rintro A pins s σ H x y u v sb I rx ry ⟨a, b, xs, ys, rfl, rfl, ha, hb, p⟩
  cases rx
  cases ry
  refine GQ.rc_listG (N := xs.length) sb.room.units0 (fun _ s' => LoopI X pins σ H s') (fun i s' q => ?_) (fun s' q => ⟨rfl, q⟩) ⟨H, I, Ext.rfl'⟩
  obtain ⟨H1, I1, e1⟩ := id q
  obtain ⟨its, k, r, e⟩ := rd_list I1.hok (rd_mono e1 ha)
  obtain ⟨its2, k2, r2, e2⟩ := rd_list I1.hok (rd_mono e1 hb)
  exact ⟨its.toArray, its2.toArray, k, k2, e, e2, by rw [List.size_toArray, ← r.length], by rw [List.size_toArray, ← r2.length, ← p.1], fun h1 h2 => turnG hD h sb p r r2 i h1 h2 s' q⟩
/-- the same cells -/
def sameC : List T → List T → Bool
  | [], [] => true
  | .cell m :: ts, .cell n :: us => decide (m = n) && sameC ts us
  | _, _ => false
theorem sameC_rep {Hs : Hp} {ρ : List Addr} {H : Hp} : ∀ {ts us : List T} {vs ws : List V}, sameC ts us = true → RepL Z Hs ρ ts vs → RepL Z Hs ρ us ws → Prs DSame vs ws H
  | [], [], _, _, _, h1, h2 => by simp only [RepL] at h1 h2; subst h1 h2; exact Prs.nil
  | .cell m :: ts, .cell n :: us, _, _, e, h1, h2 => by
    simp only [sameC, Bool.and_eq_true, decide_eq_true_eq] at e
    obtain ⟨rfl, e⟩ := e
    simp only [RepL] at h1 h2
    obtain ⟨v, r, rfl, g1, g2⟩ := h1
    obtain ⟨w, r', rfl, k1, k2⟩ := h2
    simp only [Rep] at g1 k1
    obtain ⟨a, q1, rfl⟩ := g1
    obtain ⟨b, q2, rfl⟩ := k1
    rw [q1] at q2
    cases q2
    exact Prs.cons ⟨a, rfl, rfl⟩ (sameC_rep e g2 k2)
def hEqS : T → T → Option T
  | .lst ts, .lst us => if sameC ts us = true then some (.bl true) else none
  | _, _ => none
theorem o_eqS (hr : Room 1 X.A) : Op2 X Z W (compareOp .Eq) (gLook hEqS) := fun B => (op_eqG (rcG_ls (fun _ _ _ _ _ d => d) eqG_same) hr).wk fun x y H Q ⟨σ, Hs, ρ, s, a, b, R, ha, hb, f⟩ => by
  cases q1 : look a s with
  | none => simp only [gLook, q1] at f; exact f.elim
  | some t =>
    cases q2 : look b s with
    | none => simp only [gLook, q1, q2] at f; exact f.elim
    | some u =>
      cases q3 : hEqS t u with
      | none => simp only [gLook, q1, q2, q3] at f; exact f.elim
      | some res =>
        simp only [gLook, q1, q2, q3] at f
        have va := R.look_ok ha q1
        have vb := R.look_ok hb q2
        match t, u, q3 with
        | .lst ts, .lst us, q3 =>
          by_cases h : sameC ts us = true
          · simp only [hEqS, if_pos h, Option.some.injEq] at q3
            subst q3
            obtain ⟨l, vs, rfl, g1, g2, _⟩ := va
            obtain ⟨l2, ws, rfl, k1, k2, _⟩ := vb
            refine ⟨⟨l, l2, vs, ws, rfl, rfl, g1, k1, sameC_rep h g2 k2⟩, fun H' ex => ?_⟩
            exact f.at (R.grow ex) .refl (List.prefix_refl _) _ (by simp only [Rep])
          · simp only [hEqS, if_neg h] at q3; cases q3
end TL
namespace TL
open PySem PySem.Spec L2 He
open PyProof.Rows hiding St

structure XD where
  cls : Str
  qual : Str
  params : Arguments
  body : List Stmt
  scope : Scope
  nd : Nat
abbrev FnX2 : Type := Option (Str × Str × Arguments × FuncBody × Scope × Addr × List Str × Addr)
def fnX2 (K : PySem.W.Frag) (p : Str × Option Str) : FnX2 := match K.lookup (fAd K p) with
  | some ⟨_, _, .func fd, _⟩ => some (fd.name, fd.qualname, fd.params, fd.body, fd.scope, fd.globals, fd.closure.map (·.1), fd.builtins)
  | _ => none
def XD.val (d : XD) : FnX2 := some ("__init__", d.qual, d.params, .stmts d.body, d.scope, mainGlobals, [("__class__" : Str)], builtinsNs)
def cellB (K : PySem.W.Frag) (C : Addr) : List (Str × Addr) → Bool
  | [(_, c)] => (match K.lookup c with
    | some ⟨_, _, .cell (some (.ref D)), _⟩ => D == C
    | _ => false)
  | _ => false
def fileB (K : PySem.W.Frag) (main : Str) (c : Addr) : Bool := match K.lookup c with
  | some ⟨_, _, .fields vs, _⟩ => (match (vs[2]? : Option Value) with
    | some (.str file _) => (main == file)
    | _ => false)
  | _ => false
def codeB (K : PySem.W.Frag) (main : Str) : Value → Bool
  | .ref c => fileB K main c
  | _ => false
theorem cellB_ok {K : PySem.W.Frag} {C : Addr} {l : List (Str × Addr)} (h : cellB K C l = true) : ∃ y cc cl cld csl, l = [(y, cc)] ∧ K.lookup cc = some ⟨cl, cld, .cell (some (.ref C)), csl⟩ := by
  unfold cellB at h
  split at h
  · rename_i y cc
    split at h
    · rename_i D _ hl
      have e : D = C := eq_of_beq h
      subst e
      exact ⟨y, cc, _, _, _, rfl, hl⟩
    · cases h
  · cases h
theorem codeB_ok {K : PySem.W.Frag} {main : Str} {v : Value} (h : codeB K main v = true) : ∃ c, v = .ref c ∧ ∃ ccl cdd vs ccs file tf, K.lookup c = some ⟨ccl, cdd, .fields vs, ccs⟩ ∧ vs[2]? = some (.str file tf) ∧ (main == file) = true := by
  unfold codeB at h
  split at h
  · rename_i c
    unfold fileB at h
    split at h
    · rename_i vs _ hl
      split at h
      · rename_i file tf hv
        exact ⟨c, rfl, _, _, vs, _, file, tf, hl, hv, h⟩
      · cases h
    · cases h
  · cases h
def XD.ok (main : Str) (K : PySem.W.Frag) (d : XD) : Bool := PySem.W.keepIn K (.ref (fAd K (d.cls, some "__init__"))) && (match K.lookup (fAd K (d.cls, some "__init__")) with
  | some ⟨_, _, .func fd, _⟩ => PySem.W.codeIn K fd.code d.qual && (cellB K (ga K d.cls) fd.closure && (dflB K fd.defaults (List.replicate d.nd .non) && codeB K main fd.code))
  | _ => false)
/-- the def of an own exception's __init__ -/
structure XDef (K : PySem.W.Frag) (main : Str) (d : XD) (F : NdefX.NF) (f : Addr) (fd : FuncData) (dV : Value) : Prop where
  eF : F.name = "__init__" ∧ F.qual = d.qual ∧ F.params = d.params ∧ F.body = d.body ∧ F.scope = d.scope
  fd : ∃ kV doc pm an ctv oc od osl, fd = PySem.W.fnX F.name F.qual F.params F.body F.scope F.cl dV kV doc pm an (.ref F.c) ctv ∧ K.lookup f = some ⟨oc, od, .func fd, osl⟩
  cd : PySem.W.codeIn K (.ref F.c) F.qual = true
  cell : ∃ cc cl cld csl, F.cl = [(("__class__" : Str), cc)] ∧ K.lookup cc = some ⟨cl, cld, .cell (some (.ref (ga K d.cls))), csl⟩
  code : ∃ ccl cdd vs ccs file tf, K.lookup F.c = some ⟨ccl, cdd, .fields vs, ccs⟩ ∧ vs[2]? = some (.str file tf) ∧ (main == file) = true
  dfl : DflV K dV (List.replicate d.nd .non)
  kp : PySem.W.keepIn K (.ref f) = true
theorem xdef_of {K : PySem.W.Frag} {main : Str} {d : XD} (e : fnX2 K (d.cls, some "__init__") = d.val) (c : d.ok main K = true) : ∃ F fd dV, XDef K main d F (fAd K (d.cls, some "__init__")) fd dV := by
  obtain ⟨kp, c2⟩ := ba c
  unfold fnX2 at e
  cases q : K.lookup (fAd K (d.cls, some "__init__")) with
  | none => rw [q] at c2; cases c2
  | some o =>
    obtain ⟨oc, od, dt, osl⟩ := o
    rw [q] at c2 e
    cases dt with
    | func fd =>
      obtain ⟨n1, n2, n3, n4, n5, n6, n7, n8, n9, n10, n11, n12, n13, n14, n15⟩ := fd
      have e2 : (some (n1, n2, n3, n4, n5, n6, n7.map (·.1), n15) : FnX2) = some (("__init__" : Str), d.qual, d.params, FuncBody.stmts d.body, d.scope, mainGlobals, [("__class__" : Str)], builtinsNs) := e
      simp only [Option.some.injEq, Prod.mk.injEq] at e2
      obtain ⟨h1, h2, h3, h4, h5, h6, h7, h8⟩ := e2
      have c3 : (PySem.W.codeIn K n13 d.qual && (cellB K (ga K d.cls) n7 && (dflB K n8 (List.replicate d.nd .non) && codeB K main n13))) = true := c2
      obtain ⟨k1, k2⟩ := ba c3
      obtain ⟨k3, k4⟩ := ba k2
      obtain ⟨k5, k6⟩ := ba k4
      obtain ⟨y, cc, cl, cld, csl, rfl, hcell⟩ := cellB_ok k3
      obtain ⟨cda, rfl, hcode⟩ := codeB_ok k6
      simp only [List.map_cons, List.map_nil, List.cons.injEq, and_true] at h7
      subst h7
      subst h1 h2 h3 h4 h5 h6 h8
      exact ⟨⟨"__init__", d.qual, d.params, d.body, d.scope, [("__class__", cc)], cda⟩, _, n8, ⟨⟨rfl, rfl, rfl, rfl, rfl⟩, ⟨n9, n10, n11, n12, n14, oc, od, osl, rfl, q⟩, k1, ⟨cc, cl, cld, csl, rfl, hcell⟩, hcode, dflB_ok k5, kp⟩⟩
    | _ => cases c2
theorem XDef.sup {K : PySem.W.Frag} {P : Program} {mg : Str → Option Value} {d : XD} {F : NdefX.NF} {f : Addr} {fd : FuncData} {dV : Value} {N ps : List Str} {x0 : Str} (D : XDef K P.main.file d F f fd dV) (S : NdefX.NScope N ps [("__class__" : Str)] d.scope) (hs : d.scope.names.lookup ("super" : Str) = some .globalImplicit)
    (hp : ∃ ar, (d.params.posonlyargs ++ d.params.args).head? = some ar ∧ ar.arg = x0) (h0 : ps[0]? = some x0) (sm : mg "super" = none) (top : (P.main.scope.names.lookup ("super" : Str)).isSome = false) : SupD P K mg F f (ga K d.cls) fd N ps x0 := by
  obtain ⟨e1, e2, e3, e4, e5⟩ := D.eF
  obtain ⟨kV, doc, pm, an, ctv, oc, od, osl, h1, h2⟩ := D.fd
  exact ⟨⟨dV, kV, doc, pm, an, ctv, oc, od, osl, h1, h2⟩, D.cd, D.cell, by rw [e5]; exact S, by rw [e5]; exact hs, by rw [e3]; exact hp, h0, D.code, sm, top⟩
/-- where a parameter's value is from -/
inductive Src1 where
  | p (i : Nat) | d (i : Nat) | k (i : Nat)
def pick {α : Type} (us its ws : List α) (l : List Src1) : List α := l.filterMap fun
  | .p i => us[i]?
  | .d i => its[i]?
  | .k i => ws[i]?
def gX {α : Type} (l : List Src1) (us its ws : List α) : List α := match us with
  | a :: r => a :: pick r its ws l
  | [] => []
theorem pick_rep {Z : Sg} {Hs : Hp} {ρ : List Addr} {ts us zs : List T} {vs ws xs : List V} (h1 : RepL Z Hs ρ ts vs) (h2 : RepL Z Hs ρ us ws) (h3 : RepL Z Hs ρ zs xs) : ∀ l, RepL Z Hs ρ (pick ts us zs l) (pick vs ws xs l)
  | [] => .nil
  | s :: l => by
    have ih := pick_rep h1 h2 h3 l
    have key : ∀ (i : Nat) {as : List T} {bs : List V}, RepL Z Hs ρ as bs → (as[i]? = none ∧ bs[i]? = none) ∨ ∃ t v, as[i]? = some t ∧ bs[i]? = some v ∧ Rep Z Hs ρ t v := fun i as bs r => by
      cases e : as[i]? with
      | none => exact .inl ⟨rfl, by rw [List.getElem?_eq_none_iff] at e ⊢; rw [r.length]; exact e⟩
      | some t =>
        obtain ⟨v, e1, e2⟩ := r.get e
        exact .inr ⟨t, v, rfl, e1, e2⟩
    cases s with
    | p i =>
      unfold pick at ih ⊢
      rcases key i h1 with ⟨e1, e2⟩ | ⟨t, v, e1, e2, r⟩
      · rw [List.filterMap_cons, List.filterMap_cons]; simp only [e1, e2]; exact ih
      · rw [List.filterMap_cons, List.filterMap_cons]; simp only [e1, e2]; exact .cons r ih
    | d i =>
      unfold pick at ih ⊢
      rcases key i h2 with ⟨e1, e2⟩ | ⟨t, v, e1, e2, r⟩
      · rw [List.filterMap_cons, List.filterMap_cons]; simp only [e1, e2]; exact ih
      · rw [List.filterMap_cons, List.filterMap_cons]; simp only [e1, e2]; exact .cons r ih
    | k i =>
      unfold pick at ih ⊢
      rcases key i h3 with ⟨e1, e2⟩ | ⟨t, v, e1, e2, r⟩
      · rw [List.filterMap_cons, List.filterMap_cons]; simp only [e1, e2]; exact ih
      · rw [List.filterMap_cons, List.filterMap_cons]; simp only [e1, e2]; exact .cons r ih
theorem pick_vals {vs zs xs : List V} {us ws ys : List Value} (h1 : Vals vs us) (h2 : Vals zs ws) (h3 : Vals xs ys) : ∀ l, Vals (pick vs zs xs l) (pick us ws ys l)
  | [] => .nil
  | s :: l => by
    have ih := pick_vals h1 h2 h3 l
    have key : ∀ (i : Nat) {as : List V} {bs : List Value}, Vals as bs → (as[i]? = none ∧ bs[i]? = none) ∨ ∃ t v, as[i]? = some t ∧ bs[i]? = some v ∧ RelV t v := fun i as bs r => by
      cases e : as[i]? with
      | none => exact .inl ⟨rfl, by rw [List.getElem?_eq_none_iff] at e ⊢; rw [← r.length]; exact e⟩
      | some t =>
        obtain ⟨v, e1, e2⟩ := r.get e
        exact .inr ⟨t, v, rfl, e1, e2⟩
    cases s with
    | p i =>
      unfold pick at ih ⊢
      rcases key i h1 with ⟨e1, e2⟩ | ⟨t, v, e1, e2, r⟩
      · rw [List.filterMap_cons, List.filterMap_cons]; simp only [e1, e2]; exact ih
      · rw [List.filterMap_cons, List.filterMap_cons]; simp only [e1, e2]; exact .cons r ih
    | d i =>
      unfold pick at ih ⊢
      rcases key i h2 with ⟨e1, e2⟩ | ⟨t, v, e1, e2, r⟩
      · rw [List.filterMap_cons, List.filterMap_cons]; simp only [e1, e2]; exact ih
      · rw [List.filterMap_cons, List.filterMap_cons]; simp only [e1, e2]; exact .cons r ih
    | k i =>
      unfold pick at ih ⊢
      rcases key i h3 with ⟨e1, e2⟩ | ⟨t, v, e1, e2, r⟩
      · rw [List.filterMap_cons, List.filterMap_cons]; simp only [e1, e2]; exact ih
      · rw [List.filterMap_cons, List.filterMap_cons]; simp only [e1, e2]; exact .cons r ih
/-- a call of the class that leaves some parameters out -/
theorem xarg {X : Cx} {Z : Sg} {d : XD} {F : NdefX.NF} {f : Addr} {fd : FuncData} {dV : Value} {main : Str} {ps ks : List Str} {n : Nat} {l : List Src1} (D : XDef X.K main d F f fd dV) (hd : 0 < d.nd)
    (h : ∀ (T : Addr) (cl : List (Str × Addr)) (kV doc pm : Value) (an : Option Addr) (cdv ct : Value) (us its ws : List Value), us.length = n + 1 → its.length = d.nd → ws.length = ks.length →
      ∃ k, bindArgs (PySem.W.fnX "__init__" d.qual d.params d.body d.scope cl (.ref T) kV doc pm an cdv ct) ⟨us, ks.zip ws⟩ = seqItems? (.ref T) >>= k ∧ k (some its.toArray) = pure (ps.zip (gX l us its ws))) :
    ∃ g, XArg X Z fd ps n ks g (fun vs zs => gX l vs (List.replicate d.nd .non) zs) (fun ts zs => pick ts (List.replicate d.nd .non) zs l) := by
  obtain ⟨e1, e2, e3, e4, e5⟩ := D.eF
  obtain ⟨kV, doc, pm, an, ctv, oc, od, osl, rfl, h2⟩ := D.fd
  rcases D.dfl with ⟨e, _⟩ | ⟨_, T, o, its, m, rfl, lT, oT, rT⟩
  · have := congrArg List.length e
    rw [List.length_replicate] at this
    simp at this
    omega
  · have hl : its.length = d.nd := by rw [← rT.length, List.length_replicate]
    refine ⟨fun us ws => gX l us its ws, ⟨⟨fun s us ws hX l1 l2 => ?_, fun {vs us zs ws} r1 r2 => ?_⟩, fun a vs ws => ⟨_, rfl⟩, fun Hs ρ a vs ws us ts zs e r1 r2 => ?_⟩⟩
    · obtain ⟨k, q1, q2⟩ := h T F.cl kV doc pm an (.ref F.c) ctv us its ws l1 hl l2
      refine BindsTo.of_looks fun M => ?_
      rw [e1, e2, e3, e4, e5, q1]
      exact looks_items hX lT oT (.of_pure q2)
    · unfold gX
      cases r1 with
      | nil => exact .nil
      | cons r r1 => exact .cons r (pick_vals r1 rT r2 l)
    · have : us = pick vs (List.replicate d.nd .non) ws l := (List.cons.inj e).2.symm
      subst this
      refine pick_rep r1 ?_ r2 l
      clear h rT hl
      induction d.nd with
      | zero => exact .nil
      | succ n ih => rw [List.replicate_succ, List.replicate_succ]; exact .cons (by simp only [Rep]) ih
/-- .. that gives all of them -/
theorem xarg0 {X : Cx} {Z : Sg} {d : XD} {F : NdefX.NF} {f : Addr} {fd : FuncData} {dV : Value} {main : Str} {ps ks : List Str} {n : Nat} {l : List Src1} (D : XDef X.K main d F f fd dV)
    (h : ∀ (cl : List (Str × Addr)) (dV kV doc pm : Value) (an : Option Addr) (cdv ct : Value) (us ws : List Value), us.length = n + 1 → ws.length = ks.length →
      bindArgs (PySem.W.fnX "__init__" d.qual d.params d.body d.scope cl dV kV doc pm an cdv ct) ⟨us, ks.zip ws⟩ = pure (ps.zip (gX l us [] ws))) :
    ∃ g, XArg X Z fd ps n ks g (fun vs zs => gX l vs [] zs) (fun ts zs => pick ts [] zs l) := by
  obtain ⟨e1, e2, e3, e4, e5⟩ := D.eF
  obtain ⟨kV, doc, pm, an, ctv, oc, od, osl, rfl, h2⟩ := D.fd
  refine ⟨fun us ws => gX l us [] ws, ⟨⟨fun s us ws hX l1 l2 => ?_, fun {vs us zs ws} r1 r2 => ?_⟩, fun a vs ws => ⟨_, rfl⟩, fun Hs ρ a vs ws us ts zs e r1 r2 => ?_⟩⟩
  · rw [e1, e2, e3, e4, e5]
    exact .of_eq (h F.cl dV kV doc pm an (.ref F.c) ctv us ws l1 l2)
  · unfold gX
    cases r1 with
    | nil => exact .nil
    | cons r r1 => exact .cons r (pick_vals r1 .nil r2 l)
  · have : us = pick vs [] ws l := (List.cons.inj e).2.symm
    subst this
    exact pick_rep r1 .nil r2 l
def oexB (K : PySem.W.Frag) (C : Addr) : Bool := match K.lookup C with
  | some ⟨.type "type", _, .cls cd, sl⟩ => (match cd.mro, sl.toList with
    | .ref C' :: bm, [_, _, _, _, some (.builtin n), _] => C' == C && (n == "ValueError.__new__" && (PySem.HandSPX.refsVE bm && (cd.hasDict && !cd.hasDel)))
    | _, _ => false)
  | _ => false
def xclsB (K : PySem.W.Frag) (C : Addr) : Bool := oexB K C && (eqO (PySem.W.findIn K (.ref C) "__setattr__") (some (some (.builtin "object.__setattr__"))) && (decide (PySem.W.subIn K (.ref C) (.type "BaseException") = some true) && (decide (PySem.W.typeIn K (.ref C) = some (.type "type")) && (PySem.W.keepIn K (.ref C) &&
  (eqO (PySem.W.ks_superIn K C C "__init__") (some (some (.builtin "ValueError.__init__"))) && (decide (PySem.W.subIn K (.ref C) (.type "ValueError") = some true) && (decide (PySem.W.mroIn K C (.ref C) = some true) && (eqO (PySem.W.nsIn K PySem.cStatics "thirdparty.any") (some none) && PySem.W.excInitIn K C veBase "ValueError.__new__"))))))))
theorem oexB_ok {K : PySem.W.Frag} {C : Addr} (h : oexB K C = true) : ∃ nm q N bs bm sn sub ab col dd k0 k1 k2 k3 k5, K.lookup C = some (excClassObj nm q C N bs bm true sn sub ab col dd k0 k1 k2 k3 k5 "ValueError.__new__") ∧ PySem.HandSPX.refsVE bm = true := by
  unfold oexB at h
  split at h
  · rename_i dd cd sl hl
    split at h
    · rename_i C' bm k0 k1 k2 k3 n k5 hm hs
      obtain ⟨h1, h2⟩ := ba h
      obtain ⟨h3, h4⟩ := ba h2
      obtain ⟨h5, h6⟩ := ba h4
      obtain ⟨h7, h8⟩ := ba h6
      have e1 : C' = C := eq_of_beq h1
      have e2 : n = "ValueError.__new__" := eq_of_beq h3
      subst e1 e2
      obtain ⟨nm, bs, mro, ns, qn, hd, sn, sb, ab, col, del⟩ := cd
      simp only at hm h7 h8
      subst hm h7
      have e3 : del = false := by simpa using h8
      subst e3
      have e4 : sl = #[k0, k1, k2, k3, some (.builtin "ValueError.__new__"), k5] := by rw [← Array.toArray_toList (xs := sl), hs]
      subst e4
      exact ⟨nm, qn, ns, bs, bm, sn, sb, ab, col, dd, k0, k1, k2, k3, k5, hl, h5⟩
    · cases h
  · cases h
theorem xclsB_oex {K : PySem.W.Frag} {C : Addr} (h : xclsB K C = true) : OexC K C := by
  obtain ⟨h0, h⟩ := ba h
  obtain ⟨h1, h⟩ := ba h
  obtain ⟨h2, h⟩ := ba h
  obtain ⟨h3, h⟩ := ba h
  obtain ⟨h4, h⟩ := ba h
  exact ⟨oexB_ok h0, eqO_ok h1, of_decide_eq_true h2, of_decide_eq_true h3, h4⟩
theorem xclsB_ok {K : PySem.W.Frag} {C : Addr} (h : xclsB K C = true) : ∀ X : Cx, X.K = K → XCls X C := fun X e => by
  have T := xclsB_oex h
  subst e
  obtain ⟨h0, h⟩ := ba h
  obtain ⟨h1, h⟩ := ba h
  obtain ⟨h2, h⟩ := ba h
  obtain ⟨h3, h⟩ := ba h
  obtain ⟨h4, h⟩ := ba h
  obtain ⟨h5, h⟩ := ba h
  obtain ⟨h6, h⟩ := ba h
  obtain ⟨h7, h⟩ := ba h
  obtain ⟨h8, h⟩ := ba h
  exact ⟨T, eqO_ok h5, of_decide_eq_true h6, of_decide_eq_true h7, eqO_ok h8, h⟩
def excB (K : PySem.W.Frag) (C : Addr) : Bool := xfB K C && (eqO (PySem.W.findIn K (.ref C) "__class__") (some (some (.builtin "object.__class__"))) && (eqO (PySem.W.specialIn K (.builtin "object.__class__") "__get__") (some (some (.builtin "getset_descriptor.__get__"))) && (decide (PySem.W.takesIn K (.builtin "object.__class__") = some true) && decide (PySem.W.mroIn K C (.type "object") = some true))))
theorem excB_ok {K : PySem.W.Frag} {C : Addr} (h : excB K C = true) : ExcC K C := by
  obtain ⟨h0, h⟩ := ba h
  obtain ⟨h1, h⟩ := ba h
  obtain ⟨h2, h⟩ := ba h
  obtain ⟨h3, h⟩ := ba h
  have x := xfB_ok h0
  exact ⟨x.ga, x.gg, x.exC, x.hdC, eqO_ok h1, eqO_ok h2, of_decide_eq_true h3, of_decide_eq_true h⟩
theorem excB_xf {K : PySem.W.Frag} {C : Addr} (h : excB K C = true) : XfC K C := xfB_ok (ba h).1
/-- isinstance about the class u: the answers, checked -/
def isTabB (Z : Sg) (u : Value) (tys : List String) (cls exs : List Nat) (f : TN → Option Bool) : Bool :=
  (tys.all fun n => decide (PySem.W.kitOne Z.K (.type n) u = f (.ty n)) && (n != "type" && n != "?")) && ((cls.all fun c => decide (PySem.W.kitOne Z.K (.ref (Z.cls c)) u = f (.cl c))) && (exs.all fun c => decide (PySem.W.kitOne Z.K (.ref (Z.cls c)) u = f (.ex c)) && excB Z.K (Z.cls c)))
/-- a table: what holds of the listed ones, nothing of others -/
def tabF (tys : List (String × Bool)) (cls exs : List (Nat × Bool)) : TN → Option Bool
  | .ty n => tys.lookup n
  | .cl c => cls.lookup c
  | .ex c => exs.lookup c
def tabB (Z : Sg) (u : Value) (tys : List (String × Bool)) (cls exs : List (Nat × Bool)) : Bool :=
  (tys.all fun q => decide (PySem.W.kitOne Z.K (.type q.1) u = some q.2) && (q.1 != "type" && q.1 != "?")) && (exs.all fun q => decide (PySem.W.kitOne Z.K (.ref (Z.cls q.1)) u = some q.2) && excB Z.K (Z.cls q.1))
theorem look_mem {α β : Type} [BEq α] [LawfulBEq α] {a : α} {b : β} : ∀ {l : List (α × β)}, l.lookup a = some b → (a, b) ∈ l
  | [], h => by cases h
  | (x, y) :: r, h => by
    rw [List.lookup_cons] at h
    split at h
    · rename_i e
      have : a = x := eq_of_beq e
      cases h
      subst this
      exact List.mem_cons_self
    · exact List.mem_cons_of_mem _ (look_mem h)
/-- .. for exceptions and built-in types -/
theorem tabB_ok {Z : Sg} {u : Value} {tys : List (String × Bool)} {exs : List (Nat × Bool)} (h : tabB Z u tys [] exs = true) : IsTabX Z u (tabF tys [] exs) := by
  obtain ⟨h1, h2⟩ := ba h
  refine ⟨fun n b e => ?_, fun c b e => ?_, fun c b e => ?_⟩
  · obtain ⟨q1, q2⟩ := ba (List.all_eq_true.mp h1 _ (look_mem e))
    obtain ⟨q3, q4⟩ := ba q2
    exact ⟨of_decide_eq_true q1, by simpa using q3, by simpa using q4⟩
  · cases e
  · obtain ⟨q1, q2⟩ := ba (List.all_eq_true.mp h2 _ (look_mem e))
    exact ⟨of_decide_eq_true q1, excB_ok q2⟩
/-- the written part without its lists (the script is one) -/
def frL (g : Addr → Option Obj) (as : List Addr) : PySem.W.Frag := (frG g as).filter fun q => q.2.cls != .type "list"
theorem lk_mem {a : Addr} {o : Obj} : ∀ {l : List (Addr × Obj)}, l.lookup a = some o → (a, o) ∈ l
  | [], h => by cases h
  | (x, y) :: r, h => by
    rw [List.lookup_cons] at h
    split at h
    · rename_i e
      have : a = x := eq_of_beq e
      cases h
      subst this
      exact List.mem_cons_self
    · exact List.mem_cons_of_mem _ (lk_mem h)
theorem frL_mem {g : Addr → Option Obj} {as : List Addr} {a : Addr} {o : Obj} (h : (frL g as).lookup a = some o) : g a = some o ∧ o.cls ≠ .type "list" := by
  have m := List.mem_filter.mp (lk_mem h)
  obtain ⟨m1, m2⟩ := m
  unfold frG at m1
  obtain ⟨b, _, hb⟩ := List.mem_filterMap.mp m1
  cases e : g b with
  | none => rw [e] at hb; cases hb
  | some o' =>
    rw [e] at hb
    simp only [Option.map_some, Option.some.injEq, Prod.mk.injEq] at hb
    obtain ⟨rfl, rfl⟩ := hb
    exact ⟨e, by simpa using m2⟩
abbrev AlY : Type := AlD × (List FnX2 × Bool)
def obsY (n : Nat) (fa : List Fa) (fn : List DefD) (xs : List XD) (ex : PySem.W.Frag → Bool) (g : Addr → Option Obj) : AlY := (obsD fa fn (frL g (PySem.cStatics :: asD g n)), (xs.map fun d => fnX2 (frL g (PySem.cStatics :: asD g n)) (d.cls, some "__init__")), ex (frL g (PySem.cStatics :: asD g n)))
def valY (fn : List DefD) (xs : List XD) : AlY := (valD fn, xs.map XD.val, true)
structure SaysY (fa : List Fa) (fn : List DefD) (xs : List XD) (ex : PySem.W.Frag → Bool) (K : PySem.W.Frag) : Prop where
  d : SaysD fa fn K
  x : (xs.map fun d => fnX2 K (d.cls, some "__init__")) = xs.map XD.val
  e : ex K = true
  l : ∀ a o, K.lookup a = some o → o.cls ≠ .type "list"
def hookY (n : Nat) (fa : List Fa) (fn : List DefD) (xs : List XD) (ex : PySem.W.Frag → Bool) : PySem.W.Hook where
  α := AlY
  obs := fun s => obsY n fa fn xs ex s.heap.get?
  val := fun _ => valY fn xs
  says := fun _ h => ∃ K : PySem.W.Frag, K.In h ∧ SaysY fa fn xs ex K
  of := fun _ _ e => ⟨_, fun _ _ z => (frL_mem z).1, congrArg (fun z : AlY => z.1) e, congrArg (fun z : AlY => z.2.1) e, congrArg (fun z : AlY => z.2.2) e, fun _ _ z => (frL_mem z).2⟩
  keeps := fun _ _ _ ⟨K, hK, c⟩ k => ⟨K, PySem.W.Frag.In.keeps hK k, c⟩
theorem obsY_eq {n : Nat} {fa : List Fa} {fn : List DefD} {xs : List XD} {ex : PySem.W.Frag → Bool} {g : Addr → Option Obj} {s : Shared} (h : ∀ a, g a = s.heap.get? a) : obsY n fa fn xs ex g = (hookY n fa fn xs ex).obs s := by
  have e : g = s.heap.get? := funext h
  rw [e] <;> rfl
theorem SaysY.xd {fa : List Fa} {fn : List DefD} {xs : List XD} {ex : PySem.W.Frag → Bool} {K : PySem.W.Frag} {main : Str} (c : SaysY fa fn xs ex K) (hx : (xs.all fun d => d.ok main K) = true) (i : Nat) {d : XD} (h : xs[i]? = some d := by rfl) : ∃ F fd dV, XDef K main d F (fAd K (d.cls, some "__init__")) fd dV := by
  refine xdef_of ?_ (List.all_eq_true.mp hx d (List.mem_of_getElem? h))
  have := congrArg (fun l : List FnX2 => l[i]?) c.x
  simp only [List.getElem?_map, h, Option.map_some, Option.some.injEq] at this
  exact this
/-- what may leave a def, whatever the world -/
def CXU (P : Program) : CXT := fun outer H s E u s' => ∃ w, L2.CX P w outer H s E u s'
theorem fnOk_u {P : Program} {w : World} {K : PySem.W.Frag} {mg : Str → Option Value} {base : Heap} {k : Nat} {f : Addr} {fd : FuncData} {ps : List Str} {sp : Sp} (F : FnOk P w K mg base (L2.CX P w) k f fd ps sp) : FnOk P w K mg base (CXU P) k f fd ps sp :=
  ⟨F.len, fun A outer s H args us vs Q E hr e0 hb r h => codeAny_mono (F.run A outer s H args us vs Q E hr e0 hb r h) fun res s' q => by
    cases res with
    | error e => exact ⟨w, q⟩
    | ok fl =>
      cases fl with
      | ret u => exact q
      | next => exact q.elim
      | brk => exact q.elim
      | cont => exact q.elim⟩
theorem cxu_no {P : Program} (H : Hp) (s : Shared) (e : Value) (s' : Shared) (h : CXU P [] H s (fun _ _ _ => False) e s') : False := by
  obtain ⟨w, _, _, _, _, _, _, _, _, _, _, _, _, z⟩ := h
  exact z.elim
/-- the script -/
theorem sp_script {Z : Sg} {fn : Fn} {H : Hp} {a : Addr} {ns : List Int} (noL : ∀ a o, Z.K.lookup a = some o → o.cls ≠ .type "list") (hl : ns.length ≤ 63) (hS : SqL Z.K H a (ns.map V.int)) (h : ∃ c', fn [.lst (ns.map .int)] [] = .ok (.bl true) c') :
    spM Z 1 fn [.ref a] H (fun v _ => v = .bl true) (fun _ _ _ => False) := by
  obtain ⟨c', e⟩ := h
  have rd : Rd H a (.lst (ns.map V.int)) := by
    rcases hS with hS | ⟨o, _, _, h1, h2, _⟩
    · exact hS
    · exact absurd h2 (noL a o h1)
  have rl : ∀ ns : List Int, RepL Z H [] (ns.map .int) (ns.map V.int) := fun ns => by
    induction ns with
    | nil => exact .nil
    | cons n ns ih => exact .cons (by simp only [Rep]) ih
  have hz : (ns.map T.int).length ≤ sizeLine := by rw [List.length_map, sizeLine_eq]; omega
  refine ⟨H, [], [], [.lst (ns.map .int)], ⟨.refl, rfl, List.nodup_nil, fun a h => absurd h (by simp), fun n a t h => absurd h (by simp), fun a h => absurd h (by simp)⟩, .cons (by simp only [Rep]; exact ⟨a, _, rfl, rd, rl ns, hz⟩) .nil, rfl, ?_⟩
  rw [e]
  exact fun v H' Hs' ρ' _ _ hv => by simpa only [Rep] using hv
end TL
namespace TL
open PySem PySem.Spec L2 He
open PyProof.Rows hiding St
variable {Z : Sg} {B : B0} {W : WX} {X : Cx} {e e1 e2 e3 : Expr} {es : List Expr} {pos p p1 p2 p3 apos cpos : Pos}
/-- attributes by numbers -/
def nmOf (l : List Str) (k : Nat) : Str := match l[k]? with
  | some x => x
  | none => ⟨Array.replicate (k + 1000) 0⟩
theorem nmOf_inj {l : List Str} (nd : l.Nodup) (h : (l.all fun (x : Str) => decide (x.cps.size < 1000)) = true) : ∀ i j, nmOf l i = nmOf l j → i = j := fun i j e => by
  have sz : ∀ (i : Nat) (x : Str), l[i]? = some x → x.cps.size < 1000 := fun i x q => of_decide_eq_true (List.all_eq_true.mp h x (List.mem_of_getElem? q))
  unfold nmOf at e
  cases q1 : l[i]? with
  | some x =>
    cases q2 : l[j]? with
    | some y =>
      rw [q1, q2] at e
      simp only at e
      subst e
      obtain ⟨h1, e1⟩ := List.getElem?_eq_some_iff.mp q1
      obtain ⟨h2, e2⟩ := List.getElem?_eq_some_iff.mp q2
      exact (List.getElem_inj nd).mp (e1.trans e2.symm)
    | none =>
      rw [q1, q2] at e
      simp only at e
      have := sz i x q1
      rw [e] at this
      simp at this
      omega
  | none =>
    cases q2 : l[j]? with
    | some y =>
      rw [q1, q2] at e
      simp only at e
      have := sz j y q2
      rw [← e] at this
      simp at this
      omega
    | none =>
      rw [q1, q2] at e
      simp only at e
      have := congrArg (fun x : Str => x.cps.size) e
      simp at this
      exact this
/-- the text that runs -/
structure Tx where
  P : Program
  w : World
  K : PySem.W.Frag
  mg : Str → Option Value
  base : Heap
def Tx.At (t : Tx) (X : Cx) : Prop := X.prog = t.P ∧ X.w = t.w ∧ X.K = t.K ∧ X.mg = t.mg ∧ X.base = t.base
/-- a def called with m arguments, the rest filled by dts -/
structure Cal (t : Tx) (Z : Sg) (x : Str) (lvl n : Nat) (fn : Fn) (dts : List T) : Prop where
  ex : ∃ f fd ps ds dvs, FnOk t.P t.w t.K t.mg t.base (L2.CX t.P t.w) lvl f fd ps (spM Z n fn) ∧ t.mg x = some (.ref f) ∧ PySem.W.keepIn t.K (.ref f) = true ∧ Binds t.K fd ps ds ∧ Vals dvs ds ∧ ∀ Hs ρ, RepL Z Hs ρ dts dvs
theorem ev_callC {t : Tx} {x : Str} {lvl n k : Nat} {fn : Fn} {dts : List T} {cs : M (List T)} (c : Cal t Z x lvl n fn dts) (hX : t.At X) (hr : Room k X.A) (hl : lvl ≤ k) (tk : Takes X W) (ha : EA X Z W (e :: es) cs) (hg : Gl X x) (hdb : (x == ("__debug__" : Str)) = false := by decide) (he : starEach (e :: es) X.env = (false, eval e X.env) :: starEach es X.env := by rfl) (hpl : (backTo pos (starEach es X.env)).any (·.1) = false := by rfl) :
    EV X Z W (.Call (.Name x p) (e :: es) [] pos) (cCall fn n dts cs) := by
  obtain ⟨f, fd, ps, ds, dvs, F, hm, hk, hb, hd, hd2⟩ := c.ex
  obtain ⟨h1, h2, h3, h4, h5⟩ := hX
  exact ev_call (k := k) (f := f) (fd := fd) (ps := ps) (ds := ds) (dvs := dvs) tk (by rw [h1, h2, h3, h4, h5]; exact F.mono hl) hr hg (by rw [h4]; exact hm) (by rw [h3]; exact hk) (by rw [h3]; exact hb) hd hd2 ha hdb he hpl
theorem ev_callC0 {t : Tx} {x : Str} {lvl n k : Nat} {fn : Fn} {dts : List T} (c : Cal t Z x lvl n fn dts) (hX : t.At X) (hr : Room k X.A) (hl : lvl ≤ k) (tk : Takes X W) (hg : Gl X x) (hdb : (x == ("__debug__" : Str)) = false := by decide) :
    EV X Z W (.Call (.Name x p) [] [] pos) (cCall fn n dts cNil) := by
  obtain ⟨f, fd, ps, ds, dvs, F, hm, hk, hb, hd, hd2⟩ := c.ex
  obtain ⟨h1, h2, h3, h4, h5⟩ := hX
  exact ev_call0 (k := k) (f := f) (fd := fd) (ps := ps) (ds := ds) (dvs := dvs) tk (by rw [h1, h2, h3, h4, h5]; exact F.mono hl) hr hg (by rw [h4]; exact hm) (by rw [h3]; exact hk) (by rw [h3]; exact hb) hd hd2 hdb
/-- an exception class called with n arguments and the keywords ks -/
structure XCal (t : Tx) (Z : Sg) (x : Str) (c : Nat) (kn : List Nat) (n : Nat) (ks : List Str) (gT : List T → List T → List T) : Prop where
  ex : t.mg x = some (.ref (Z.cls c)) ∧ ∀ X : Cx, t.At X → ∃ fI fd ps g gV, XMk X Z c kn 1 fI fd ps ∧ XArg X Z fd ps n ks g gV gT
section
variable {t : Tx} {x : Str} {c n k : Nat} {kn : List Nat} {ks : List Str} {gT : List T → List T → List T} {cs ck : M (List T)} {kws : List Keyword}
theorem XMk.up {k j : Nat} {fI : Addr} {fd : FuncData} {ps : List Str} (D : XMk X Z c kn k fI fd ps) (h : k ≤ j) : XMk X Z c kn j fI fd ps := ⟨D.T, D.iC, D.tI, D.F1.mono h⟩
theorem ev_exnC (xc : XCal t Z x c kn n [] gT) (hX : t.At X) (hr : Room (k + 1) X.A) (hl : 1 ≤ k) (hn : n ≤ 1000) (ha : EA X Z W (e :: es) cs) (hg : Gl X x) (hdb : (x == ("__debug__" : Str)) = false := by decide) (he : starEach (e :: es) X.env = (false, eval e X.env) :: starEach es X.env := by rfl) (hpl : (backTo pos (starEach es X.env)).any (·.1) = false := by rfl) :
    EV X Z W (.Call (.Name x p) (e :: es) [] pos) (cMkX c kn n 0 gT cs cNil) := by
  obtain ⟨fI, fd, ps, g, gV, D, A⟩ := xc.ex.2 X hX
  exact ev_exn (D.up hl) A hr passL hn hg (by rw [hX.2.2.2.1]; exact xc.ex.1) ha hdb he hpl
theorem ev_exnC0 (xc : XCal t Z x c kn 0 [] gT) (hX : t.At X) (hr : Room (k + 1) X.A) (hl : 1 ≤ k) (hg : Gl X x) (hdb : (x == ("__debug__" : Str)) = false := by decide) :
    EV X Z W (.Call (.Name x p) [] [] pos) (cMkX c kn 0 0 gT cNil cNil) := by
  obtain ⟨fI, fd, ps, g, gV, D, A⟩ := xc.ex.2 X hX
  exact ev_exn0 (D.up hl) A hr passL hg (by rw [hX.2.2.2.1]; exact xc.ex.1) hdb
theorem ev_exnCK (xc : XCal t Z x c kn 0 ks gT) (hX : t.At X) (hr : Room (k + 1) X.A) (hl : 1 ≤ k) (ha : EK X Z W kws ck) (hg : Gl X x) (hall : (backToKw pos (keywordEach kws X.env)).all (·.1.isSome) = true := by rfl) (hks : (backToKw pos (keywordEach kws X.env)).filterMap (·.1) = ks := by rfl) (hdb : (x == ("__debug__" : Str)) = false := by decide)
    (hpl : ((backTo pos (starEach [] X.env)).any (·.1) || (backToKw pos (keywordEach kws X.env)).any (·.1.isNone)) = false := by rfl) :
    EV X Z W (.Call (.Name x p) [] kws pos) (cMkX c kn 0 ks.length gT cNil ck) := by
  obtain ⟨fI, fd, ps, g, gV, D, A⟩ := xc.ex.2 X hX
  exact ev_exnK (D.up hl) A hr passL hg (by rw [hX.2.2.2.1]; exact xc.ex.1) ha hall hks hdb hpl
theorem ev_exnCB (hX : t.At X) (q : PySem.W.excIn t.K (Z.cls c) veBase "ValueError.__new__" = true) (gC : t.mg x = some (.ref (Z.cls c))) (kC : PySem.W.keepIn t.K (.ref (Z.cls c)) = true) (hg : Gl X x) (hdb : (x == ("__debug__" : Str)) = false := by decide) :
    EV X Z W (.Call (.Name x p) [] [] pos) (ret (.exn c [])) :=
  ev_exnB (initId := "ValueError.__init__") F.excBase_ValueError (by rw [hX.2.2.1]; exact q) (by rw [hX.2.2.2.1]; exact gC) (by rw [hX.2.2.1]; exact kC) hg hdb
end
def gAdd (a b : RV) : M T := TL.alt (gAddI a b) (TL.alt (gLook hAddS a b) (TL.alt (gLook hAddL a b) (gLook hAddT a b)))
theorem o_add (hK : Z.K = X.K) : Op2 X Z W (binaryOp .Add) gAdd := Op2.alt o_addI (Op2.alt o_addS (Op2.alt (o_addL hK) (o_addT hK)))
def gMul (a b : RV) : M T := TL.alt (gMulI a b) (TL.alt (gMulW a b) (gLook hRepS a b))
theorem o_mul : Op2 X Z W (binaryOp .Mult) gMul := Op2.alt o_mulI (Op2.alt o_mulW o_repS)
def gDiv (a b : RV) : M T := TL.alt (gDivI a b) (gDivW a b)
theorem o_div : Op2 X Z W (binaryOp .FloorDiv) gDiv := Op2.alt o_divI o_divW
def gEq (a b : RV) : M T := TL.alt (gLook hEqD a b) (gLook hEqS a b)
theorem o_eq {k : Nat} (hK : Z.K = X.K) (hr : Room (k + 1) X.A) : Op2 X Z W (compareOp .Eq) gEq := Op2.alt (o_eqD hK hr) (o_eqS (hr.mono (by omega)))
def gIn (a b : RV) : M T := TL.alt (gLook hInD a b) (gLook hInS a b)
theorem o_in {k : Nat} (hK : Z.K = X.K) (hr : Room (k + 1) X.A) : Op2 X Z W (compareOp .In) gIn := Op2.alt (o_inD hK hr) o_inS
def gNotIn (a b : RV) : M T := TL.alt (gLook hNotInD a b) (gLook hNotInS a b)
theorem o_notIn {k : Nat} (hK : Z.K = X.K) (hr : Room (k + 1) X.A) : Op2 X Z W (compareOp .NotIn) gNotIn := Op2.alt (o_notInD hK hr) o_notInS
/-- names, with the looks done on the spot -/
theorem er_nm (i : Nat) {x : Str} (hN : X.N[i]? = some x := by rfl) (hv : Vis X.env.scope x := by first | exact Or.inl rfl | exact Or.inr (Or.inl rfl) | exact Or.inr (Or.inr rfl)) (hd : (x == ("__debug__" : Str)) = false := by decide) (hcd : (x == ("__classdict__" : Str)) = false := by decide) : ER X Z W (.Name x pos) (cVar i) := er_name hN hv hd hcd
theorem ev_nm (i : Nat) {x : Str} (hN : X.N[i]? = some x := by rfl) (hv : Vis X.env.scope x := by first | exact Or.inl rfl | exact Or.inr (Or.inl rfl) | exact Or.inr (Or.inr rfl)) (hd : (x == ("__debug__" : Str)) = false := by decide) (hcd : (x == ("__classdict__" : Str)) = false := by decide) : EV X Z W (.Name x pos) (cVarV i) := ev_name hN hv hd hcd
theorem ss_setN (i : Nat) {x : Str} {pos' : Pos} {c : M T} (nd : X.N.Nodup) (he : EV X Z W e c) (hi : X.N[i]? = some x := by rfl) (hx : Loc X.env.scope x := by first | exact Or.inl rfl | exact Or.inr rfl) (hs : swapsWith e (some (.Name x pos')) pos.line X.env = pure false := by rfl) (hf : X.fn x = true ∨ X.env.scope.names.lookup x = some .local := by first | exact .inl rfl | exact .inr rfl) :
    SS X Z W (.Assign [.Name x pos'] e pos) (cSet i c) := ss_set nd hi hx he hs hf
theorem ss_ownN (i : Nat) {x : Str} {pos' : Pos} {c : M T} (nd : X.N.Nodup) (he : EF X Z W e c) (hi : X.N[i]? = some x := by rfl) (hx : Loc X.env.scope x := by first | exact Or.inl rfl | exact Or.inr rfl) (hs : swapsWith e (some (.Name x pos')) pos.line X.env = pure false := by rfl) (hf : X.fn x = true ∨ X.env.scope.names.lookup x = some .local := by first | exact .inl rfl | exact .inr rfl) :
    SS X Z W (.Assign [.Name x pos'] e pos) (cOwn i c) := ss_own nd hi hx he hs hf
theorem gt_nm (i : Nat) {x : Str} (nd : X.N.Nodup) (hi : X.N[i]? = some x := by rfl) (hx : Loc X.env.scope x := by first | exact Or.inl rfl | exact Or.inr rfl) (hf : X.fn x = true ∨ X.env.scope.names.lookup x = some .local := by first | exact .inl rfl | exact .inr rfl) : GT X Z W (.Name x pos) [i] (putU i) := gt_name nd hi hx hf
section
variable {P : Program} {w : World} {K : PySem.W.Frag} {mg : Str → Option Value} {base : Heap} {N : List Str} {qual : Str} {scope : Scope} {f : Addr} {cdv : Value} {A : Around} {outer : List Env} {s : Shared} {H : Hp} {E : XK}
theorem tkC : Takes (cxOf (L2.CX P w) P w K mg base N qual scope f cdv A outer s H E) (WB E) := takes_of rfl rfl rfl rfl
theorem psC : PassesOwn (model P w) (cxOf (L2.CX P w) P w K mg base N qual scope f cdv A outer s H E).A (cxOf (L2.CX P w) P w K mg base N qual scope f cdv A outer s H E).env (cxOf (L2.CX P w) P w K mg base N qual scope f cdv A outer s H E).xe := passes_of (X := cxOf (L2.CX P w) P w K mg base N qual scope f cdv A outer s H E) rfl
end
/-- a def, by its facts -/
theorem cal_of {t : Tx} {x : Str} {params : Arguments} {body : List Stmt} {scope : Scope} {dvs : List V} {kws : List (Str × V)} {f : Addr} {fd : FuncData} {N ps : List Str} {k n : Nat} {b : M Fl} {dts : List T}
    (F : FunD t.K x x params body scope dvs kws f fd) (hm : t.mg x = some (.ref f)) (S : FnScope N ps scope) (hn : n = ps.length)
    (hb : ∀ (cdv : Value) (A : Around) (outer : List Env) (s : Shared) (H : Hp) (E : XK), Room k (A.deeper (envOfC x scope s.heap.objs.size f cdv)) → SB (cxOf (L2.CX t.P t.w) t.P t.w t.K t.mg t.base N x scope f cdv A outer s H E) Z (WB E) body b)
    (ds : List Value) (dv : List V) (hbi : Binds t.K fd ps ds) (hd : Vals dv ds) (hd2 : ∀ Hs ρ, RepL Z Hs ρ dts dv) : Cal t Z x (k + 1) n (runF N.length b) dts :=
  ⟨f, fd, ps, ds, dv, okF F S hn hb, hm, F.kp, hbi, hd, hd2⟩
def initB (K : PySem.W.Frag) (x : Str) : Bool := eqO (PySem.W.findIn K (.ref (ga K x)) "__init__") (some (some (.ref (fAd K (x, some "__init__"))))) && decide (PySem.W.typeIn K (.ref (fAd K (x, some "__init__"))) = some (.type "function"))
def xfkB (Z : Sg) (cs : List Nat) (k : Nat) : Bool := cs.all fun c => excB Z.K (Z.cls c) && eqO (PySem.W.findIn Z.K (.ref (Z.cls c)) (Z.nm k)) (some none)
theorem xfkB_ok {Z : Sg} {cs : List Nat} {k : Nat} (h : xfkB Z cs k = true) : XFOk Z cs k :=
  ⟨fun c hc => excB_xf (ba (List.all_eq_true.mp h c hc)).1, fun c hc => eqO_ok (ba (List.all_eq_true.mp h c hc)).2⟩
/-- an exception class with its __init__, by looks -/
theorem xcal_of {t : Tx} {Z : Sg} {x : Str} {c n : Nat} {kn : List Nat} {ks : List Str} {gT : List T → List T → List T} {fd : FuncData} {ps : List Str} (hZ : Z.K = t.K) (hc : Z.cls c = ga t.K x) (hm : t.mg x = some (.ref (ga t.K x))) (hx : xclsB t.K (ga t.K x) = true) (hi : initB t.K x = true)
    (F1 : FnOk t.P t.w t.K t.mg t.base (L2.CX t.P t.w) 1 (fAd t.K (x, some "__init__")) fd ps (spX (ga t.K x) (kn.map Z.nm)))
    (A : ∀ X : Cx, X.K = t.K → ∃ g gV, XArg X Z fd ps n ks g gV gT) : XCal t Z x c kn n ks gT := by
  refine ⟨by rw [hc]; exact hm, fun X hX => ?_⟩
  obtain ⟨h1, h2, h3, h4, h5⟩ := hX
  obtain ⟨g, gV, A⟩ := A X h3
  obtain ⟨i1, i2⟩ := ba hi
  exact ⟨_, fd, ps, g, gV, ⟨by rw [hc, h3]; exact xclsB_oex hx, by rw [hc, h3]; exact eqO_ok i1, by rw [h3]; exact of_decide_eq_true i2, by rw [hc, h1, h2, h3, h4, h5]; exact F1⟩, A⟩
end TL
namespace Walk
open PySem PySem.Spec L2 He TL
open PyProof.Rows hiding St
def top (i : Nat) : Stmt := PySem.Challenge.pw_betweenlists_k01_errors_made.main.body.getD i (.Pass ⟨0, 0, 0, 0⟩)
def clsN : List PySem.Str := ["BetweenError", "InvalidName", "InvalidPlace", "InvalidForm", "InvalidLook", "InvalidLog", "InvalidRules", "InvalidDemand", "InvalidStory", "InvalidChange", "InvalidNumber", "InvalidList", "InvalidText", "Missing", "Occupied", "Barred", "Failed", "Closed"]
def attN : List PySem.Str := ["value", "line", "place", "one", "other", "step", "why"]
def Zk (K : PySem.W.Frag) : Sg := ⟨K, fun c => ga K (clsN.getD c ""), nmOf attN⟩
abbrev st__law_kinds : Stmt := top 20
abbrev st__law_right : Stmt := top 21
abbrev st__law_values : Stmt := top 22
abbrev st__law_placed : Stmt := top 23
abbrev st__law_named : Stmt := top 24
abbrev st__law_bare : Stmt := top 25
abbrev st__law_thing : Stmt := top 26
abbrev st_law : Stmt := top 27
def is_InvalidName : TN → Option Bool := tabF [] [] [(0, false), (1, true), (2, false), (3, false), (4, false), (5, false), (6, false), (7, false), (8, false), (9, false), (10, false), (11, false), (12, false), (13, false), (14, false), (15, false), (16, false), (17, false)]
def is_InvalidPlace : TN → Option Bool := tabF [] [] [(0, false), (1, false), (2, true), (3, false), (4, false), (5, false), (6, false), (7, false), (8, false), (9, false), (10, false), (11, false), (12, false), (13, false), (14, false), (15, false), (16, false), (17, false)]
def is_InvalidForm : TN → Option Bool := tabF [] [] [(0, false), (1, false), (2, false), (3, true), (4, false), (5, false), (6, false), (7, false), (8, false), (9, false), (10, false), (11, false), (12, false), (13, false), (14, false), (15, false), (16, false), (17, false)]
def is_InvalidLook : TN → Option Bool := tabF [] [] [(0, false), (1, false), (2, false), (3, false), (4, true), (5, false), (6, false), (7, false), (8, false), (9, false), (10, false), (11, false), (12, false), (13, false), (14, false), (15, false), (16, false), (17, false)]
def is_InvalidLog : TN → Option Bool := tabF [] [] [(0, false), (1, false), (2, false), (3, false), (4, false), (5, true), (6, false), (7, false), (8, false), (9, false), (10, false), (11, false), (12, false), (13, false), (14, false), (15, false), (16, false), (17, false)]
def is_InvalidRules : TN → Option Bool := tabF [] [] [(0, false), (1, false), (2, false), (3, false), (4, false), (5, false), (6, true), (7, false), (8, false), (9, false), (10, false), (11, false), (12, false), (13, false), (14, false), (15, false), (16, false), (17, false)]
def is_InvalidDemand : TN → Option Bool := tabF [] [] [(0, false), (1, false), (2, false), (3, false), (4, false), (5, false), (6, false), (7, true), (8, false), (9, false), (10, false), (11, false), (12, false), (13, false), (14, false), (15, false), (16, false), (17, false)]
def is_InvalidStory : TN → Option Bool := tabF [] [] [(0, false), (1, false), (2, false), (3, false), (4, false), (5, false), (6, false), (7, false), (8, true), (9, false), (10, false), (11, false), (12, false), (13, false), (14, false), (15, false), (16, false), (17, false)]
def is_InvalidChange : TN → Option Bool := tabF [] [] [(0, false), (1, false), (2, false), (3, false), (4, false), (5, false), (6, false), (7, false), (8, false), (9, true), (10, false), (11, false), (12, false), (13, false), (14, false), (15, false), (16, false), (17, false)]
def is_InvalidNumber : TN → Option Bool := tabF [] [] [(0, false), (1, false), (2, false), (3, false), (4, false), (5, false), (6, false), (7, false), (8, false), (9, false), (10, true), (11, false), (12, false), (13, false), (14, false), (15, false), (16, false), (17, false)]
def is_InvalidList : TN → Option Bool := tabF [] [] [(0, false), (1, false), (2, false), (3, false), (4, false), (5, false), (6, false), (7, false), (8, false), (9, false), (10, false), (11, true), (12, false), (13, false), (14, false), (15, false), (16, false), (17, false)]
def is_InvalidText : TN → Option Bool := tabF [] [] [(0, false), (1, false), (2, false), (3, false), (4, false), (5, false), (6, false), (7, false), (8, false), (9, false), (10, false), (11, false), (12, true), (13, false), (14, false), (15, false), (16, false), (17, false)]
def is_Missing : TN → Option Bool := tabF [] [] [(0, false), (1, false), (2, false), (3, false), (4, false), (5, false), (6, false), (7, false), (8, false), (9, false), (10, false), (11, false), (12, false), (13, true), (14, false), (15, false), (16, false), (17, false)]
def is_Occupied : TN → Option Bool := tabF [] [] [(0, false), (1, false), (2, false), (3, false), (4, false), (5, false), (6, false), (7, false), (8, false), (9, false), (10, false), (11, false), (12, false), (13, false), (14, true), (15, false), (16, false), (17, false)]
def is_Barred : TN → Option Bool := tabF [] [] [(0, false), (1, false), (2, false), (3, false), (4, false), (5, false), (6, false), (7, false), (8, false), (9, false), (10, false), (11, false), (12, false), (13, false), (14, false), (15, true), (16, false), (17, false)]
def is_Failed : TN → Option Bool := tabF [] [] [(0, false), (1, false), (2, false), (3, false), (4, false), (5, false), (6, false), (7, false), (8, false), (9, false), (10, false), (11, false), (12, false), (13, false), (14, false), (15, false), (16, true), (17, false)]
def is_Closed : TN → Option Bool := tabF [] [] [(0, false), (1, false), (2, false), (3, false), (4, false), (5, false), (6, false), (7, false), (8, false), (9, false), (10, false), (11, false), (12, false), (13, false), (14, false), (15, false), (16, false), (17, true)]
def is_BetweenError : TN → Option Bool := tabF [] [] [(0, true), (1, true), (2, true), (3, true), (4, true), (5, true), (6, true), (7, true), (8, true), (9, true), (10, true), (11, true), (12, true), (13, true), (14, true), (15, true), (16, true), (17, true)]
def is_ValueError : TN → Option Bool := tabF [] [] [(0, true), (1, true), (2, true), (3, true), (4, true), (5, true), (6, true), (7, true), (8, true), (9, true), (10, true), (11, true), (12, true), (13, true), (14, true), (15, true), (16, true), (17, true)]
def xf_value : List Nat := [1, 2, 3, 4, 5, 6, 7, 8, 9, 10, 11]
def xf_line : List Nat := [12]
def xf_place : List Nat := [13, 14]
def xf_one : List Nat := [15]
def xf_other : List Nat := [15]
def xf_step : List Nat := [16]
def xf_why : List Nat := [16]
def sr_InvalidName_1 : List Src1 := [.p 0]
def pk_InvalidName_1 (ts zs : List T) : List T := pick ts (List.replicate 1 .non) zs sr_InvalidName_1
def sr_InvalidPlace_1 : List Src1 := [.p 0]
def pk_InvalidPlace_1 (ts zs : List T) : List T := pick ts (List.replicate 1 .non) zs sr_InvalidPlace_1
def sr_InvalidForm_1 : List Src1 := [.p 0]
def pk_InvalidForm_1 (ts zs : List T) : List T := pick ts (List.replicate 1 .non) zs sr_InvalidForm_1
def sr_InvalidLook_1 : List Src1 := [.p 0]
def pk_InvalidLook_1 (ts zs : List T) : List T := pick ts (List.replicate 1 .non) zs sr_InvalidLook_1
def sr_InvalidLog_1 : List Src1 := [.p 0]
def pk_InvalidLog_1 (ts zs : List T) : List T := pick ts (List.replicate 1 .non) zs sr_InvalidLog_1
def sr_InvalidRules_1 : List Src1 := [.p 0]
def pk_InvalidRules_1 (ts zs : List T) : List T := pick ts (List.replicate 1 .non) zs sr_InvalidRules_1
def sr_InvalidDemand_1 : List Src1 := [.p 0]
def pk_InvalidDemand_1 (ts zs : List T) : List T := pick ts (List.replicate 1 .non) zs sr_InvalidDemand_1
def sr_InvalidStory_1 : List Src1 := [.p 0]
def pk_InvalidStory_1 (ts zs : List T) : List T := pick ts (List.replicate 1 .non) zs sr_InvalidStory_1
def sr_InvalidChange_1 : List Src1 := [.p 0]
def pk_InvalidChange_1 (ts zs : List T) : List T := pick ts (List.replicate 1 .non) zs sr_InvalidChange_1
def sr_InvalidNumber_1 : List Src1 := [.p 0]
def pk_InvalidNumber_1 (ts zs : List T) : List T := pick ts (List.replicate 1 .non) zs sr_InvalidNumber_1
def sr_InvalidList_1 : List Src1 := [.p 0]
def pk_InvalidList_1 (ts zs : List T) : List T := pick ts (List.replicate 1 .non) zs sr_InvalidList_1
def sr_InvalidText_1 : List Src1 := [.p 0]
def pk_InvalidText_1 (ts zs : List T) : List T := pick ts (List.replicate 1 .non) zs sr_InvalidText_1
def sr_Missing_1 : List Src1 := [.p 0]
def pk_Missing_1 (ts zs : List T) : List T := pick ts (List.replicate 1 .non) zs sr_Missing_1
def sr_Occupied_1 : List Src1 := [.p 0]
def pk_Occupied_1 (ts zs : List T) : List T := pick ts (List.replicate 1 .non) zs sr_Occupied_1
def sr_Barred_2 : List Src1 := [.p 0, .p 1]
def pk_Barred_2 (ts zs : List T) : List T := pick ts (List.replicate 2 .non) zs sr_Barred_2
def sr_Failed_2 : List Src1 := [.p 0, .p 1]
def pk_Failed_2 (ts zs : List T) : List T := pick ts (List.replicate 2 .non) zs sr_Failed_2
def sr_InvalidName_0_value : List Src1 := [.k 0]
def pk_InvalidName_0_value (ts zs : List T) : List T := pick ts (List.replicate 1 .non) zs sr_InvalidName_0_value
def sr_InvalidPlace_0_value : List Src1 := [.k 0]
def pk_InvalidPlace_0_value (ts zs : List T) : List T := pick ts (List.replicate 1 .non) zs sr_InvalidPlace_0_value
def sr_InvalidForm_0_value : List Src1 := [.k 0]
def pk_InvalidForm_0_value (ts zs : List T) : List T := pick ts (List.replicate 1 .non) zs sr_InvalidForm_0_value
def sr_InvalidLook_0_value : List Src1 := [.k 0]
def pk_InvalidLook_0_value (ts zs : List T) : List T := pick ts (List.replicate 1 .non) zs sr_InvalidLook_0_value
def sr_InvalidLog_0_value : List Src1 := [.k 0]
def pk_InvalidLog_0_value (ts zs : List T) : List T := pick ts (List.replicate 1 .non) zs sr_InvalidLog_0_value
def sr_InvalidRules_0_value : List Src1 := [.k 0]
def pk_InvalidRules_0_value (ts zs : List T) : List T := pick ts (List.replicate 1 .non) zs sr_InvalidRules_0_value
def sr_InvalidDemand_0_value : List Src1 := [.k 0]
def pk_InvalidDemand_0_value (ts zs : List T) : List T := pick ts (List.replicate 1 .non) zs sr_InvalidDemand_0_value
def sr_InvalidStory_0_value : List Src1 := [.k 0]
def pk_InvalidStory_0_value (ts zs : List T) : List T := pick ts (List.replicate 1 .non) zs sr_InvalidStory_0_value
def sr_InvalidChange_0_value : List Src1 := [.k 0]
def pk_InvalidChange_0_value (ts zs : List T) : List T := pick ts (List.replicate 1 .non) zs sr_InvalidChange_0_value
def sr_InvalidNumber_0_value : List Src1 := [.k 0]
def pk_InvalidNumber_0_value (ts zs : List T) : List T := pick ts (List.replicate 1 .non) zs sr_InvalidNumber_0_value
def sr_InvalidList_0_value : List Src1 := [.k 0]
def pk_InvalidList_0_value (ts zs : List T) : List T := pick ts (List.replicate 1 .non) zs sr_InvalidList_0_value
def sr_InvalidText_0_line : List Src1 := [.k 0]
def pk_InvalidText_0_line (ts zs : List T) : List T := pick ts (List.replicate 1 .non) zs sr_InvalidText_0_line
def sr_Missing_0_place : List Src1 := [.k 0]
def pk_Missing_0_place (ts zs : List T) : List T := pick ts (List.replicate 1 .non) zs sr_Missing_0_place
def sr_Occupied_0_place : List Src1 := [.k 0]
def pk_Occupied_0_place (ts zs : List T) : List T := pick ts (List.replicate 1 .non) zs sr_Occupied_0_place
def sr_Barred_0_other_one : List Src1 := [.k 1, .k 0]
def pk_Barred_0_other_one (ts zs : List T) : List T := pick ts (List.replicate 2 .non) zs sr_Barred_0_other_one
def sr_Failed_0_why_step : List Src1 := [.k 1, .k 0]
def pk_Failed_0_why_step (ts zs : List T) : List T := pick ts (List.replicate 2 .non) zs sr_Failed_0_why_step
def sr_InvalidName_0 : List Src1 := [.d 0]
def pk_InvalidName_0 (ts zs : List T) : List T := pick ts (List.replicate 1 .non) zs sr_InvalidName_0
def sr_InvalidPlace_0 : List Src1 := [.d 0]
def pk_InvalidPlace_0 (ts zs : List T) : List T := pick ts (List.replicate 1 .non) zs sr_InvalidPlace_0
def sr_InvalidForm_0 : List Src1 := [.d 0]
def pk_InvalidForm_0 (ts zs : List T) : List T := pick ts (List.replicate 1 .non) zs sr_InvalidForm_0
def sr_InvalidLook_0 : List Src1 := [.d 0]
def pk_InvalidLook_0 (ts zs : List T) : List T := pick ts (List.replicate 1 .non) zs sr_InvalidLook_0
def sr_InvalidLog_0 : List Src1 := [.d 0]
def pk_InvalidLog_0 (ts zs : List T) : List T := pick ts (List.replicate 1 .non) zs sr_InvalidLog_0
def sr_InvalidRules_0 : List Src1 := [.d 0]
def pk_InvalidRules_0 (ts zs : List T) : List T := pick ts (List.replicate 1 .non) zs sr_InvalidRules_0
def sr_InvalidDemand_0 : List Src1 := [.d 0]
def pk_InvalidDemand_0 (ts zs : List T) : List T := pick ts (List.replicate 1 .non) zs sr_InvalidDemand_0
def sr_InvalidStory_0 : List Src1 := [.d 0]
def pk_InvalidStory_0 (ts zs : List T) : List T := pick ts (List.replicate 1 .non) zs sr_InvalidStory_0
def sr_InvalidChange_0 : List Src1 := [.d 0]
def pk_InvalidChange_0 (ts zs : List T) : List T := pick ts (List.replicate 1 .non) zs sr_InvalidChange_0
def sr_InvalidNumber_0 : List Src1 := [.d 0]
def pk_InvalidNumber_0 (ts zs : List T) : List T := pick ts (List.replicate 1 .non) zs sr_InvalidNumber_0
def sr_InvalidList_0 : List Src1 := [.d 0]
def pk_InvalidList_0 (ts zs : List T) : List T := pick ts (List.replicate 1 .non) zs sr_InvalidList_0
def sr_InvalidText_0 : List Src1 := [.d 0]
def pk_InvalidText_0 (ts zs : List T) : List T := pick ts (List.replicate 1 .non) zs sr_InvalidText_0
def sr_Missing_0 : List Src1 := [.d 0]
def pk_Missing_0 (ts zs : List T) : List T := pick ts (List.replicate 1 .non) zs sr_Missing_0
def sr_Occupied_0 : List Src1 := [.d 0]
def pk_Occupied_0 (ts zs : List T) : List T := pick ts (List.replicate 1 .non) zs sr_Occupied_0
def sr_Barred_0 : List Src1 := [.d 0, .d 1]
def pk_Barred_0 (ts zs : List T) : List T := pick ts (List.replicate 2 .non) zs sr_Barred_0
def sr_Failed_0 : List Src1 := [.d 0, .d 1]
def pk_Failed_0 (ts zs : List T) : List T := pick ts (List.replicate 2 .non) zs sr_Failed_0
def sr_Barred_1 : List Src1 := [.p 0, .d 1]
def pk_Barred_1 (ts zs : List T) : List T := pick ts (List.replicate 2 .non) zs sr_Barred_1
def sr_Failed_1 : List Src1 := [.p 0, .d 1]
def pk_Failed_1 (ts zs : List T) : List T := pick ts (List.replicate 2 .non) zs sr_Failed_1
def sr_Barred_0_other : List Src1 := [.d 0, .k 0]
def pk_Barred_0_other (ts zs : List T) : List T := pick ts (List.replicate 2 .non) zs sr_Barred_0_other
def sr_Failed_0_why : List Src1 := [.d 0, .k 0]
def pk_Failed_0_why (ts zs : List T) : List T := pick ts (List.replicate 2 .non) zs sr_Failed_0_why
structure Fs (t : Tx) : Prop where
  free_isinstance : t.mg "isinstance" = none
  free_enumerate : t.mg "enumerate" = none
  free_range : t.mg "range" = none
  free_ValueError : t.mg "ValueError" = none
  free_int : t.mg "int" = none
  free_sum : t.mg "sum" = none
  at_InvalidName : t.mg "InvalidName" = some (.ref (ga t.K "InvalidName"))
  at_InvalidPlace : t.mg "InvalidPlace" = some (.ref (ga t.K "InvalidPlace"))
  at_InvalidForm : t.mg "InvalidForm" = some (.ref (ga t.K "InvalidForm"))
  at_InvalidLook : t.mg "InvalidLook" = some (.ref (ga t.K "InvalidLook"))
  at_InvalidLog : t.mg "InvalidLog" = some (.ref (ga t.K "InvalidLog"))
  at_InvalidRules : t.mg "InvalidRules" = some (.ref (ga t.K "InvalidRules"))
  at_InvalidDemand : t.mg "InvalidDemand" = some (.ref (ga t.K "InvalidDemand"))
  at_InvalidStory : t.mg "InvalidStory" = some (.ref (ga t.K "InvalidStory"))
  at_InvalidChange : t.mg "InvalidChange" = some (.ref (ga t.K "InvalidChange"))
  at_InvalidNumber : t.mg "InvalidNumber" = some (.ref (ga t.K "InvalidNumber"))
  at_InvalidList : t.mg "InvalidList" = some (.ref (ga t.K "InvalidList"))
  at_InvalidText : t.mg "InvalidText" = some (.ref (ga t.K "InvalidText"))
  at_Missing : t.mg "Missing" = some (.ref (ga t.K "Missing"))
  at_Occupied : t.mg "Occupied" = some (.ref (ga t.K "Occupied"))
  at_Barred : t.mg "Barred" = some (.ref (ga t.K "Barred"))
  at_Failed : t.mg "Failed" = some (.ref (ga t.K "Failed"))
  at_Closed : t.mg "Closed" = some (.ref (ga t.K "Closed"))
  at_BetweenError : t.mg "BetweenError" = some (.ref (ga t.K "BetweenError"))
  at__law_kinds : t.mg "_law_kinds" = some (.ref (ga t.K "_law_kinds"))
  at__law_right : t.mg "_law_right" = some (.ref (ga t.K "_law_right"))
  at__law_values : t.mg "_law_values" = some (.ref (ga t.K "_law_values"))
  at__law_placed : t.mg "_law_placed" = some (.ref (ga t.K "_law_placed"))
  at__law_named : t.mg "_law_named" = some (.ref (ga t.K "_law_named"))
  at__law_bare : t.mg "_law_bare" = some (.ref (ga t.K "_law_bare"))
  at__law_thing : t.mg "_law_thing" = some (.ref (ga t.K "_law_thing"))
  at_law : t.mg "law" = some (.ref (ga t.K "law"))
  d__law_kinds : ∃ fd, FunD t.K "_law_kinds" "_law_kinds" (defArgs st__law_kinds) (defBody st__law_kinds) (defScope st__law_kinds) [] [] (ga t.K "_law_kinds") fd
  d__law_right : ∃ fd, FunD t.K "_law_right" "_law_right" (defArgs st__law_right) (defBody st__law_right) (defScope st__law_right) [] [] (ga t.K "_law_right") fd
  d__law_values : ∃ fd, FunD t.K "_law_values" "_law_values" (defArgs st__law_values) (defBody st__law_values) (defScope st__law_values) [] [] (ga t.K "_law_values") fd
  d__law_placed : ∃ fd, FunD t.K "_law_placed" "_law_placed" (defArgs st__law_placed) (defBody st__law_placed) (defScope st__law_placed) [] [] (ga t.K "_law_placed") fd
  d__law_named : ∃ fd, FunD t.K "_law_named" "_law_named" (defArgs st__law_named) (defBody st__law_named) (defScope st__law_named) [] [] (ga t.K "_law_named") fd
  d__law_bare : ∃ fd, FunD t.K "_law_bare" "_law_bare" (defArgs st__law_bare) (defBody st__law_bare) (defScope st__law_bare) [] [] (ga t.K "_law_bare") fd
  d__law_thing : ∃ fd, FunD t.K "_law_thing" "_law_thing" (defArgs st__law_thing) (defBody st__law_thing) (defScope st__law_thing) [] [] (ga t.K "_law_thing") fd
  d_law : ∃ fd, FunD t.K "law" "law" (defArgs st_law) (defBody st_law) (defScope st_law) [] [] (ga t.K "law") fd
  hi : ∀ i j, (Zk t.K).nm i = (Zk t.K).nm j → i = j
  is_InvalidName : IsTabX (Zk t.K) (.ref (ga t.K "InvalidName")) is_InvalidName
  is_InvalidPlace : IsTabX (Zk t.K) (.ref (ga t.K "InvalidPlace")) is_InvalidPlace
  is_InvalidForm : IsTabX (Zk t.K) (.ref (ga t.K "InvalidForm")) is_InvalidForm
  is_InvalidLook : IsTabX (Zk t.K) (.ref (ga t.K "InvalidLook")) is_InvalidLook
  is_InvalidLog : IsTabX (Zk t.K) (.ref (ga t.K "InvalidLog")) is_InvalidLog
  is_InvalidRules : IsTabX (Zk t.K) (.ref (ga t.K "InvalidRules")) is_InvalidRules
  is_InvalidDemand : IsTabX (Zk t.K) (.ref (ga t.K "InvalidDemand")) is_InvalidDemand
  is_InvalidStory : IsTabX (Zk t.K) (.ref (ga t.K "InvalidStory")) is_InvalidStory
  is_InvalidChange : IsTabX (Zk t.K) (.ref (ga t.K "InvalidChange")) is_InvalidChange
  is_InvalidNumber : IsTabX (Zk t.K) (.ref (ga t.K "InvalidNumber")) is_InvalidNumber
  is_InvalidList : IsTabX (Zk t.K) (.ref (ga t.K "InvalidList")) is_InvalidList
  is_InvalidText : IsTabX (Zk t.K) (.ref (ga t.K "InvalidText")) is_InvalidText
  is_Missing : IsTabX (Zk t.K) (.ref (ga t.K "Missing")) is_Missing
  is_Occupied : IsTabX (Zk t.K) (.ref (ga t.K "Occupied")) is_Occupied
  is_Barred : IsTabX (Zk t.K) (.ref (ga t.K "Barred")) is_Barred
  is_Failed : IsTabX (Zk t.K) (.ref (ga t.K "Failed")) is_Failed
  is_Closed : IsTabX (Zk t.K) (.ref (ga t.K "Closed")) is_Closed
  is_BetweenError : IsTabX (Zk t.K) (.ref (ga t.K "BetweenError")) is_BetweenError
  is_ValueError : IsTabX (Zk t.K) (.type "ValueError") is_ValueError
  xf_value : XFOk (Zk t.K) xf_value 0
  xf_line : XFOk (Zk t.K) xf_line 1
  xf_place : XFOk (Zk t.K) xf_place 2
  xf_one : XFOk (Zk t.K) xf_one 3
  xf_other : XFOk (Zk t.K) xf_other 4
  xf_step : XFOk (Zk t.K) xf_step 5
  xf_why : XFOk (Zk t.K) xf_why 6
  xc_InvalidName_1 : XCal t (Zk t.K) "InvalidName" 1 [0] 1 [] pk_InvalidName_1
  xc_InvalidPlace_1 : XCal t (Zk t.K) "InvalidPlace" 2 [0] 1 [] pk_InvalidPlace_1
  xc_InvalidForm_1 : XCal t (Zk t.K) "InvalidForm" 3 [0] 1 [] pk_InvalidForm_1
  xc_InvalidLook_1 : XCal t (Zk t.K) "InvalidLook" 4 [0] 1 [] pk_InvalidLook_1
  xc_InvalidLog_1 : XCal t (Zk t.K) "InvalidLog" 5 [0] 1 [] pk_InvalidLog_1
  xc_InvalidRules_1 : XCal t (Zk t.K) "InvalidRules" 6 [0] 1 [] pk_InvalidRules_1
  xc_InvalidDemand_1 : XCal t (Zk t.K) "InvalidDemand" 7 [0] 1 [] pk_InvalidDemand_1
  xc_InvalidStory_1 : XCal t (Zk t.K) "InvalidStory" 8 [0] 1 [] pk_InvalidStory_1
  xc_InvalidChange_1 : XCal t (Zk t.K) "InvalidChange" 9 [0] 1 [] pk_InvalidChange_1
  xc_InvalidNumber_1 : XCal t (Zk t.K) "InvalidNumber" 10 [0] 1 [] pk_InvalidNumber_1
  xc_InvalidList_1 : XCal t (Zk t.K) "InvalidList" 11 [0] 1 [] pk_InvalidList_1
  xc_InvalidText_1 : XCal t (Zk t.K) "InvalidText" 12 [1] 1 [] pk_InvalidText_1
  xc_Missing_1 : XCal t (Zk t.K) "Missing" 13 [2] 1 [] pk_Missing_1
  xc_Occupied_1 : XCal t (Zk t.K) "Occupied" 14 [2] 1 [] pk_Occupied_1
  xc_Barred_2 : XCal t (Zk t.K) "Barred" 15 [3, 4] 2 [] pk_Barred_2
  xc_Failed_2 : XCal t (Zk t.K) "Failed" 16 [5, 6] 2 [] pk_Failed_2
  xc_InvalidName_0_value : XCal t (Zk t.K) "InvalidName" 1 [0] 0 ["value"] pk_InvalidName_0_value
  xc_InvalidPlace_0_value : XCal t (Zk t.K) "InvalidPlace" 2 [0] 0 ["value"] pk_InvalidPlace_0_value
  xc_InvalidForm_0_value : XCal t (Zk t.K) "InvalidForm" 3 [0] 0 ["value"] pk_InvalidForm_0_value
  xc_InvalidLook_0_value : XCal t (Zk t.K) "InvalidLook" 4 [0] 0 ["value"] pk_InvalidLook_0_value
  xc_InvalidLog_0_value : XCal t (Zk t.K) "InvalidLog" 5 [0] 0 ["value"] pk_InvalidLog_0_value
  xc_InvalidRules_0_value : XCal t (Zk t.K) "InvalidRules" 6 [0] 0 ["value"] pk_InvalidRules_0_value
  xc_InvalidDemand_0_value : XCal t (Zk t.K) "InvalidDemand" 7 [0] 0 ["value"] pk_InvalidDemand_0_value
  xc_InvalidStory_0_value : XCal t (Zk t.K) "InvalidStory" 8 [0] 0 ["value"] pk_InvalidStory_0_value
  xc_InvalidChange_0_value : XCal t (Zk t.K) "InvalidChange" 9 [0] 0 ["value"] pk_InvalidChange_0_value
  xc_InvalidNumber_0_value : XCal t (Zk t.K) "InvalidNumber" 10 [0] 0 ["value"] pk_InvalidNumber_0_value
  xc_InvalidList_0_value : XCal t (Zk t.K) "InvalidList" 11 [0] 0 ["value"] pk_InvalidList_0_value
  xc_InvalidText_0_line : XCal t (Zk t.K) "InvalidText" 12 [1] 0 ["line"] pk_InvalidText_0_line
  xc_Missing_0_place : XCal t (Zk t.K) "Missing" 13 [2] 0 ["place"] pk_Missing_0_place
  xc_Occupied_0_place : XCal t (Zk t.K) "Occupied" 14 [2] 0 ["place"] pk_Occupied_0_place
  xc_Barred_0_other_one : XCal t (Zk t.K) "Barred" 15 [3, 4] 0 ["other", "one"] pk_Barred_0_other_one
  xc_Failed_0_why_step : XCal t (Zk t.K) "Failed" 16 [5, 6] 0 ["why", "step"] pk_Failed_0_why_step
  xc_InvalidName_0 : XCal t (Zk t.K) "InvalidName" 1 [0] 0 [] pk_InvalidName_0
  xc_InvalidPlace_0 : XCal t (Zk t.K) "InvalidPlace" 2 [0] 0 [] pk_InvalidPlace_0
  xc_InvalidForm_0 : XCal t (Zk t.K) "InvalidForm" 3 [0] 0 [] pk_InvalidForm_0
  xc_InvalidLook_0 : XCal t (Zk t.K) "InvalidLook" 4 [0] 0 [] pk_InvalidLook_0
  xc_InvalidLog_0 : XCal t (Zk t.K) "InvalidLog" 5 [0] 0 [] pk_InvalidLog_0
  xc_InvalidRules_0 : XCal t (Zk t.K) "InvalidRules" 6 [0] 0 [] pk_InvalidRules_0
  xc_InvalidDemand_0 : XCal t (Zk t.K) "InvalidDemand" 7 [0] 0 [] pk_InvalidDemand_0
  xc_InvalidStory_0 : XCal t (Zk t.K) "InvalidStory" 8 [0] 0 [] pk_InvalidStory_0
  xc_InvalidChange_0 : XCal t (Zk t.K) "InvalidChange" 9 [0] 0 [] pk_InvalidChange_0
  xc_InvalidNumber_0 : XCal t (Zk t.K) "InvalidNumber" 10 [0] 0 [] pk_InvalidNumber_0
  xc_InvalidList_0 : XCal t (Zk t.K) "InvalidList" 11 [0] 0 [] pk_InvalidList_0
  xc_InvalidText_0 : XCal t (Zk t.K) "InvalidText" 12 [1] 0 [] pk_InvalidText_0
  xc_Missing_0 : XCal t (Zk t.K) "Missing" 13 [2] 0 [] pk_Missing_0
  xc_Occupied_0 : XCal t (Zk t.K) "Occupied" 14 [2] 0 [] pk_Occupied_0
  xc_Barred_0 : XCal t (Zk t.K) "Barred" 15 [3, 4] 0 [] pk_Barred_0
  xc_Failed_0 : XCal t (Zk t.K) "Failed" 16 [5, 6] 0 [] pk_Failed_0
  xc_Barred_1 : XCal t (Zk t.K) "Barred" 15 [3, 4] 1 [] pk_Barred_1
  xc_Failed_1 : XCal t (Zk t.K) "Failed" 16 [5, 6] 1 [] pk_Failed_1
  xc_Barred_0_other : XCal t (Zk t.K) "Barred" 15 [3, 4] 0 ["other"] pk_Barred_0_other
  xc_Failed_0_why : XCal t (Zk t.K) "Failed" 16 [5, 6] 0 ["why"] pk_Failed_0_why
  exi_BetweenError : PySem.W.excIn t.K ((Zk t.K).cls 0) veBase "ValueError.__new__" = true
  kp_BetweenError : PySem.W.keepIn t.K (.ref ((Zk t.K).cls 0)) = true
  exi_Closed : PySem.W.excIn t.K ((Zk t.K).cls 17) veBase "ValueError.__new__" = true
  kp_Closed : PySem.W.keepIn t.K (.ref ((Zk t.K).cls 17)) = true
def N__law_kinds : List PySem.Str := ["_law_error", "_law_kinds_here"]
def c__law_kinds : M Fl := cSeq (cSet 1 (cLst (cCons (cIsi (cVar 0) is_InvalidName) (cCons (cIsi (cVar 0) is_InvalidPlace) (cCons (cIsi (cVar 0) is_InvalidForm) (cNil)))))) (cSeq (cSet 1 (cBin (cVar 1) (cv (cLst (cCons (cIsi (cVar 0) is_InvalidLook) (cCons (cIsi (cVar 0) is_InvalidLog) (cCons (cIsi (cVar 0) is_InvalidRules) (cNil)))))) gAdd)) (cSeq (cSet 1 (cBin (cVar 1) (cv (cLst (cCons (cIsi (cVar 0) is_InvalidDemand) (cCons (cIsi (cVar 0) is_InvalidStory) (cNil))))) gAdd)) (cSeq (cSet 1 (cBin (cVar 1) (cv (cLst (cCons (cIsi (cVar 0) is_InvalidChange) (cCons (cIsi (cVar 0) is_InvalidNumber) (cNil))))) gAdd)) (cSeq (cSet 1 (cBin (cVar 1) (cv (cLst (cCons (cIsi (cVar 0) is_InvalidList) (cCons (cIsi (cVar 0) is_InvalidText) (cCons (cIsi (cVar 0) is_Missing) (cNil)))))) gAdd)) (cSeq (cSet 1 (cBin (cVar 1) (cv (cLst (cCons (cIsi (cVar 0) is_Occupied) (cCons (cIsi (cVar 0) is_Barred) (cCons (cIsi (cVar 0) is_Failed) (cNil)))))) gAdd)) (cRet (cBin (cVar 1) (cv (cLst (cCons (cIsi (cVar 0) is_Closed) (cNil)))) gAdd)))))))
def fn__law_kinds : Fn := runF N__law_kinds.length c__law_kinds
theorem sc__law_kinds : FnScope N__law_kinds ["_law_error"] (defScope st__law_kinds) := ⟨rfl, rfl, rfl, by decide +kernel, rfl, by decide +kernel, by decide +kernel⟩
theorem cal__law_kinds {t : Tx} (g : Fs t) : Cal t (Zk t.K) "_law_kinds" 3 1 fn__law_kinds [] := by
  obtain ⟨fd, F⟩ := g.d__law_kinds
  have nd : N__law_kinds.Nodup := sc__law_kinds.nd
  exact cal_of F (g.at__law_kinds) sc__law_kinds rfl (fun cdv A outer s H E hr => sb_cons (ss_setN 1 nd (EF.v (ef_list (ea_cons (ev_isiX rfl g.is_InvalidName (er_nm 0) (pe_glob (v := .ref (ga t.K "InvalidName")) rfl g.at_InvalidName rfl) (ClsV.own _) rfl g.free_isinstance PyProof.Rows.Boot.«isinstance») (ea_cons (ev_isiX rfl g.is_InvalidPlace (er_nm 0) (pe_glob (v := .ref (ga t.K "InvalidPlace")) rfl g.at_InvalidPlace rfl) (ClsV.own _) rfl g.free_isinstance PyProof.Rows.Boot.«isinstance») (ea_cons (ev_isiX rfl g.is_InvalidForm (er_nm 0) (pe_glob (v := .ref (ga t.K "InvalidForm")) rfl g.at_InvalidForm rfl) (ClsV.own _) rfl g.free_isinstance PyProof.Rows.Boot.«isinstance») (ea_nil))))))) (sb_cons (ss_setN 1 nd (ev_bin (er_nm 1) (EV.r (EF.v (ef_list (ea_cons (ev_isiX rfl g.is_InvalidLook (er_nm 0) (pe_glob (v := .ref (ga t.K "InvalidLook")) rfl g.at_InvalidLook rfl) (ClsV.own _) rfl g.free_isinstance PyProof.Rows.Boot.«isinstance») (ea_cons (ev_isiX rfl g.is_InvalidLog (er_nm 0) (pe_glob (v := .ref (ga t.K "InvalidLog")) rfl g.at_InvalidLog rfl) (ClsV.own _) rfl g.free_isinstance PyProof.Rows.Boot.«isinstance») (ea_cons (ev_isiX rfl g.is_InvalidRules (er_nm 0) (pe_glob (v := .ref (ga t.K "InvalidRules")) rfl g.at_InvalidRules rfl) (ClsV.own _) rfl g.free_isinstance PyProof.Rows.Boot.«isinstance») (ea_nil))))))) (o_add rfl))) (sb_cons (ss_setN 1 nd (ev_bin (er_nm 1) (EV.r (EF.v (ef_list (ea_cons (ev_isiX rfl g.is_InvalidDemand (er_nm 0) (pe_glob (v := .ref (ga t.K "InvalidDemand")) rfl g.at_InvalidDemand rfl) (ClsV.own _) rfl g.free_isinstance PyProof.Rows.Boot.«isinstance») (ea_cons (ev_isiX rfl g.is_InvalidStory (er_nm 0) (pe_glob (v := .ref (ga t.K "InvalidStory")) rfl g.at_InvalidStory rfl) (ClsV.own _) rfl g.free_isinstance PyProof.Rows.Boot.«isinstance») (ea_nil)))))) (o_add rfl))) (sb_cons (ss_setN 1 nd (ev_bin (er_nm 1) (EV.r (EF.v (ef_list (ea_cons (ev_isiX rfl g.is_InvalidChange (er_nm 0) (pe_glob (v := .ref (ga t.K "InvalidChange")) rfl g.at_InvalidChange rfl) (ClsV.own _) rfl g.free_isinstance PyProof.Rows.Boot.«isinstance») (ea_cons (ev_isiX rfl g.is_InvalidNumber (er_nm 0) (pe_glob (v := .ref (ga t.K "InvalidNumber")) rfl g.at_InvalidNumber rfl) (ClsV.own _) rfl g.free_isinstance PyProof.Rows.Boot.«isinstance») (ea_nil)))))) (o_add rfl))) (sb_cons (ss_setN 1 nd (ev_bin (er_nm 1) (EV.r (EF.v (ef_list (ea_cons (ev_isiX rfl g.is_InvalidList (er_nm 0) (pe_glob (v := .ref (ga t.K "InvalidList")) rfl g.at_InvalidList rfl) (ClsV.own _) rfl g.free_isinstance PyProof.Rows.Boot.«isinstance») (ea_cons (ev_isiX rfl g.is_InvalidText (er_nm 0) (pe_glob (v := .ref (ga t.K "InvalidText")) rfl g.at_InvalidText rfl) (ClsV.own _) rfl g.free_isinstance PyProof.Rows.Boot.«isinstance») (ea_cons (ev_isiX rfl g.is_Missing (er_nm 0) (pe_glob (v := .ref (ga t.K "Missing")) rfl g.at_Missing rfl) (ClsV.own _) rfl g.free_isinstance PyProof.Rows.Boot.«isinstance») (ea_nil))))))) (o_add rfl))) (sb_cons (ss_setN 1 nd (ev_bin (er_nm 1) (EV.r (EF.v (ef_list (ea_cons (ev_isiX rfl g.is_Occupied (er_nm 0) (pe_glob (v := .ref (ga t.K "Occupied")) rfl g.at_Occupied rfl) (ClsV.own _) rfl g.free_isinstance PyProof.Rows.Boot.«isinstance») (ea_cons (ev_isiX rfl g.is_Barred (er_nm 0) (pe_glob (v := .ref (ga t.K "Barred")) rfl g.at_Barred rfl) (ClsV.own _) rfl g.free_isinstance PyProof.Rows.Boot.«isinstance») (ea_cons (ev_isiX rfl g.is_Failed (er_nm 0) (pe_glob (v := .ref (ga t.K "Failed")) rfl g.at_Failed rfl) (ClsV.own _) rfl g.free_isinstance PyProof.Rows.Boot.«isinstance») (ea_nil))))))) (o_add rfl))) (sb_one (ss_ret (ev_bin (er_nm 1) (EV.r (EF.v (ef_list (ea_cons (ev_isiX rfl g.is_Closed (er_nm 0) (pe_glob (v := .ref (ga t.K "Closed")) rfl g.at_Closed rfl) (ClsV.own _) rfl g.free_isinstance PyProof.Rows.Boot.«isinstance») (ea_nil))))) (o_add rfl)))))))))) [] [] (F.bindsN fun _ _ _ _ _ _ us hl => match us, hl with | [_], _ => rfl) .nil fun _ _ => .nil
def N__law_right : List PySem.Str := ["_law_errors", "_law_at", "_law_error", "_law_k"]
def c__law_right : M Fl := cSeq (cFor (TL.bnd (cCons (cVarV 0) (cNil)) cEnum) (gtTup 2 (gtCons (putU 1) (gtCons (putU 2) (gtNil)))) (cSeq (cIf (cB (cBin (cv (cCall fn__law_kinds 1 [] (cCons (cVarV 2) (cNil)))) (cv (cLc (TL.bnd (cCons (ret (.int 17)) (cNil)) cRg1) (putU 3) (ret true) (cBin (cVar 3) (cVar 1) (gEq)) [3])) (gLook hNeD))) (cRet (ret (.bl false))) (cNx)) (cIf (cOr (cNot (cB (cIsi (cVar 2) is_BetweenError))) (cNot (cB (cIsi (cVar 2) is_ValueError)))) (cRet (ret (.bl false))) (cNx)))) (cRet (ret (.bl true)))
def fn__law_right : Fn := runF N__law_right.length c__law_right
theorem sc__law_right : FnScope N__law_right ["_law_errors"] (defScope st__law_right) := ⟨rfl, rfl, rfl, by decide +kernel, rfl, by decide +kernel, by decide +kernel⟩
theorem cal__law_right {t : Tx} (g : Fs t) : Cal t (Zk t.K) "_law_right" 5 1 fn__law_right [] := by
  obtain ⟨fd, F⟩ := g.d__law_right
  have nd : N__law_right.Nodup := sc__law_right.nd
  exact cal_of F (g.at__law_right) sc__law_right rfl (fun cdv A outer s H E hr => sb_cons (ss_for psC rfl (si_enum rfl rfl g.free_enumerate (ea_cons (ev_nm 0) (ea_nil))) (gt_tup rfl rfl (gts_cons (gt_nm 1 nd) (gts_cons (gt_nm 2 nd) (gts_nil)))) (sb_cons (ss_if (eb_cmp (EV.r (ev_callC (cal__law_kinds g) ⟨rfl, rfl, rfl, rfl, rfl⟩ hr (by decide) tkC (ea_cons (ev_nm 2) (ea_nil)) rfl)) (EV.r (EF.v (ef_lc (own := [(("_law_k" : PySem.Str), 3)]) rfl nd (si_range1 rfl g.free_range (ea_cons (ev_int) (ea_nil))) (blkOk_by (by kernel_rfl)) (fun _ _ _ _ _ => gt_nm 3 nd) (fun _ _ _ _ _ => ec_nil) (fun _ _ _ _ _ => ev_cmp (er_nm 3) (er_nm 1) (o_eq (k := 0) rfl (hr.mono (by decide))) rfl)))) (o_neD (k := 0) rfl (hr.mono (by decide))) rfl) (sb_one (ss_ret (ev_bl))) (sb_nil)) (sb_one (ss_if (EW.b (ew_or (eb_not (EV.b (ev_isiX rfl g.is_BetweenError (er_nm 2) (pe_glob (v := .ref (ga t.K "BetweenError")) rfl g.at_BetweenError rfl) (ClsV.own _) rfl g.free_isinstance PyProof.Rows.Boot.«isinstance»))) (ew_or1 (eb_not (EV.b (ev_isiX rfl g.is_ValueError (er_nm 2) (pe_bltn (v := .ty "ValueError") rfl g.free_ValueError PyProof.Rows.Boot.«ValueError» rfl) (ClsV.ty _) rfl g.free_isinstance PyProof.Rows.Boot.«isinstance»)))))) (sb_one (ss_ret (ev_bl))) (sb_nil))))) (sb_one (ss_ret (ev_bl)))) [] [] (F.bindsN fun _ _ _ _ _ _ us hl => match us, hl with | [_], _ => rfl) .nil fun _ _ => .nil
def N__law_values : List PySem.Str := ["_law_errors", "_law_values_here", "_law_error"]
def c__law_values : M Fl := cSeq (cOwn 1 (cLc (cSrc (cSl (cVar 0) (oNone) (oSome (ret (.int 11))) hSlL)) (putU 2) (ret true) (cXF (xf_value) 0 (cVar 2)) [2])) (cSeq (cSet 1 (cBin (cVar 1) (cv (cLst (cCons (cXF (xf_line) 1 (cv (cBin (cVar 0) (cv (ret (.int 11))) (gLook hIx)))) (cCons (cXF (xf_place) 2 (cv (cBin (cVar 0) (cv (ret (.int 12))) (gLook hIx)))) (cCons (cXF (xf_place) 2 (cv (cBin (cVar 0) (cv (ret (.int 13))) (gLook hIx)))) (cCons (cXF (xf_one) 3 (cv (cBin (cVar 0) (cv (ret (.int 14))) (gLook hIx)))) (cCons (cXF (xf_other) 4 (cv (cBin (cVar 0) (cv (ret (.int 14))) (gLook hIx)))) (cNil)))))))) gAdd)) (cRet (cBin (cVar 1) (cv (cLst (cCons (cXF (xf_step) 5 (cv (cBin (cVar 0) (cv (ret (.int 15))) (gLook hIx)))) (cCons (cXF (xf_why) 6 (cv (cBin (cVar 0) (cv (ret (.int 15))) (gLook hIx)))) (cNil))))) gAdd)))
def fn__law_values : Fn := runF N__law_values.length c__law_values
theorem sc__law_values : FnScope N__law_values ["_law_errors"] (defScope st__law_values) := ⟨rfl, rfl, rfl, by decide +kernel, rfl, by decide +kernel, by decide +kernel⟩
theorem cal__law_values {t : Tx} (g : Fs t) : Cal t (Zk t.K) "_law_values" 3 1 fn__law_values [] := by
  obtain ⟨fd, F⟩ := g.d__law_values
  have nd : N__law_values.Nodup := sc__law_values.nd
  exact cal_of F (g.at__law_values) sc__law_values rfl (fun cdv A outer s H E hr => sb_cons (ss_setLc (i := 1) (own := [(("_law_error" : PySem.Str), 2)]) rfl nd rfl rfl rfl (si_val rfl (EF.v (ef_slL rfl (er_nm 0) (eo_none) (eo_some (ev_int))))) (blkOk_by (by kernel_rfl)) (fun _ _ _ _ _ => gt_nm 2 nd) (fun _ _ _ _ _ => ec_nil) (fun _ _ _ _ _ => ev_xf rfl g.hi rfl g.xf_value (er_nm 2))) (sb_cons (ss_setN 1 nd (ev_bin (er_nm 1) (EV.r (EF.v (ef_list (ea_cons (ev_xf rfl g.hi rfl g.xf_line (EV.r (ev_ix rfl (er_nm 0) (EV.r (ev_int)) (fun _ _ => rfl)))) (ea_cons (ev_xf rfl g.hi rfl g.xf_place (EV.r (ev_ix rfl (er_nm 0) (EV.r (ev_int)) (fun _ _ => rfl)))) (ea_cons (ev_xf rfl g.hi rfl g.xf_place (EV.r (ev_ix rfl (er_nm 0) (EV.r (ev_int)) (fun _ _ => rfl)))) (ea_cons (ev_xf rfl g.hi rfl g.xf_one (EV.r (ev_ix rfl (er_nm 0) (EV.r (ev_int)) (fun _ _ => rfl)))) (ea_cons (ev_xf rfl g.hi rfl g.xf_other (EV.r (ev_ix rfl (er_nm 0) (EV.r (ev_int)) (fun _ _ => rfl)))) (ea_nil))))))))) (o_add rfl))) (sb_one (ss_ret (ev_bin (er_nm 1) (EV.r (EF.v (ef_list (ea_cons (ev_xf rfl g.hi rfl g.xf_step (EV.r (ev_ix rfl (er_nm 0) (EV.r (ev_int)) (fun _ _ => rfl)))) (ea_cons (ev_xf rfl g.hi rfl g.xf_why (EV.r (ev_ix rfl (er_nm 0) (EV.r (ev_int)) (fun _ _ => rfl)))) (ea_nil)))))) (o_add rfl)))))) [] [] (F.bindsN fun _ _ _ _ _ _ us hl => match us, hl with | [_], _ => rfl) .nil fun _ _ => .nil
def N__law_placed : List PySem.Str := ["_law_left", "_law_right_here", "_law_errors"]
def c__law_placed : M Fl := cSeq (cSet 2 (cLst (cCons (cMkX 1 [0] 1 0 pk_InvalidName_1 (cCons (cVarV 0) (cNil)) cNil) (cCons (cMkX 2 [0] 1 0 pk_InvalidPlace_1 (cCons (cVarV 0) (cNil)) cNil) (cCons (cMkX 3 [0] 1 0 pk_InvalidForm_1 (cCons (cVarV 0) (cNil)) cNil) (cCons (cMkX 4 [0] 1 0 pk_InvalidLook_1 (cCons (cVarV 0) (cNil)) cNil) (cCons (cMkX 5 [0] 1 0 pk_InvalidLog_1 (cCons (cVarV 0) (cNil)) cNil) (cNil)))))))) (cSeq (cSet 2 (cBin (cVar 2) (cv (cLst (cCons (cMkX 6 [0] 1 0 pk_InvalidRules_1 (cCons (cVarV 0) (cNil)) cNil) (cCons (cMkX 7 [0] 1 0 pk_InvalidDemand_1 (cCons (cVarV 0) (cNil)) cNil) (cCons (cMkX 8 [0] 1 0 pk_InvalidStory_1 (cCons (cVarV 0) (cNil)) cNil) (cCons (cMkX 9 [0] 1 0 pk_InvalidChange_1 (cCons (cVarV 0) (cNil)) cNil) (cNil))))))) gAdd)) (cSeq (cSet 2 (cBin (cVar 2) (cv (cLst (cCons (cMkX 10 [0] 1 0 pk_InvalidNumber_1 (cCons (cVarV 0) (cNil)) cNil) (cCons (cMkX 11 [0] 1 0 pk_InvalidList_1 (cCons (cVarV 0) (cNil)) cNil) (cCons (cMkX 12 [1] 1 0 pk_InvalidText_1 (cCons (cVarV 0) (cNil)) cNil) (cCons (cMkX 13 [2] 1 0 pk_Missing_1 (cCons (cVarV 0) (cNil)) cNil) (cCons (cMkX 14 [2] 1 0 pk_Occupied_1 (cCons (cVarV 0) (cNil)) cNil) (cNil)))))))) gAdd)) (cRet (cBin (cVar 2) (cv (cLst (cCons (cMkX 15 [3, 4] 2 0 pk_Barred_2 (cCons (cVarV 0) (cCons (cVarV 1) (cNil))) cNil) (cCons (cMkX 16 [5, 6] 2 0 pk_Failed_2 (cCons (cVarV 0) (cCons (cVarV 1) (cNil))) cNil) (cCons (ret (.exn 17 [])) (cNil)))))) gAdd))))
def fn__law_placed : Fn := runF N__law_placed.length c__law_placed
theorem sc__law_placed : FnScope N__law_placed ["_law_left", "_law_right_here"] (defScope st__law_placed) := ⟨rfl, rfl, rfl, by decide +kernel, rfl, by decide +kernel, by decide +kernel⟩
theorem cal__law_placed {t : Tx} (g : Fs t) : Cal t (Zk t.K) "_law_placed" 3 2 fn__law_placed [] := by
  obtain ⟨fd, F⟩ := g.d__law_placed
  have nd : N__law_placed.Nodup := sc__law_placed.nd
  exact cal_of F (g.at__law_placed) sc__law_placed rfl (fun cdv A outer s H E hr => sb_cons (ss_setN 2 nd (EF.v (ef_list (ea_cons (ev_exnC (k := 1) g.xc_InvalidName_1 ⟨rfl, rfl, rfl, rfl, rfl⟩ (hr.mono (by decide)) (by decide) (by decide) (ea_cons (ev_nm 0) (ea_nil)) rfl) (ea_cons (ev_exnC (k := 1) g.xc_InvalidPlace_1 ⟨rfl, rfl, rfl, rfl, rfl⟩ (hr.mono (by decide)) (by decide) (by decide) (ea_cons (ev_nm 0) (ea_nil)) rfl) (ea_cons (ev_exnC (k := 1) g.xc_InvalidForm_1 ⟨rfl, rfl, rfl, rfl, rfl⟩ (hr.mono (by decide)) (by decide) (by decide) (ea_cons (ev_nm 0) (ea_nil)) rfl) (ea_cons (ev_exnC (k := 1) g.xc_InvalidLook_1 ⟨rfl, rfl, rfl, rfl, rfl⟩ (hr.mono (by decide)) (by decide) (by decide) (ea_cons (ev_nm 0) (ea_nil)) rfl) (ea_cons (ev_exnC (k := 1) g.xc_InvalidLog_1 ⟨rfl, rfl, rfl, rfl, rfl⟩ (hr.mono (by decide)) (by decide) (by decide) (ea_cons (ev_nm 0) (ea_nil)) rfl) (ea_nil))))))))) (sb_cons (ss_setN 2 nd (ev_bin (er_nm 2) (EV.r (EF.v (ef_list (ea_cons (ev_exnC (k := 1) g.xc_InvalidRules_1 ⟨rfl, rfl, rfl, rfl, rfl⟩ (hr.mono (by decide)) (by decide) (by decide) (ea_cons (ev_nm 0) (ea_nil)) rfl) (ea_cons (ev_exnC (k := 1) g.xc_InvalidDemand_1 ⟨rfl, rfl, rfl, rfl, rfl⟩ (hr.mono (by decide)) (by decide) (by decide) (ea_cons (ev_nm 0) (ea_nil)) rfl) (ea_cons (ev_exnC (k := 1) g.xc_InvalidStory_1 ⟨rfl, rfl, rfl, rfl, rfl⟩ (hr.mono (by decide)) (by decide) (by decide) (ea_cons (ev_nm 0) (ea_nil)) rfl) (ea_cons (ev_exnC (k := 1) g.xc_InvalidChange_1 ⟨rfl, rfl, rfl, rfl, rfl⟩ (hr.mono (by decide)) (by decide) (by decide) (ea_cons (ev_nm 0) (ea_nil)) rfl) (ea_nil)))))))) (o_add rfl))) (sb_cons (ss_setN 2 nd (ev_bin (er_nm 2) (EV.r (EF.v (ef_list (ea_cons (ev_exnC (k := 1) g.xc_InvalidNumber_1 ⟨rfl, rfl, rfl, rfl, rfl⟩ (hr.mono (by decide)) (by decide) (by decide) (ea_cons (ev_nm 0) (ea_nil)) rfl) (ea_cons (ev_exnC (k := 1) g.xc_InvalidList_1 ⟨rfl, rfl, rfl, rfl, rfl⟩ (hr.mono (by decide)) (by decide) (by decide) (ea_cons (ev_nm 0) (ea_nil)) rfl) (ea_cons (ev_exnC (k := 1) g.xc_InvalidText_1 ⟨rfl, rfl, rfl, rfl, rfl⟩ (hr.mono (by decide)) (by decide) (by decide) (ea_cons (ev_nm 0) (ea_nil)) rfl) (ea_cons (ev_exnC (k := 1) g.xc_Missing_1 ⟨rfl, rfl, rfl, rfl, rfl⟩ (hr.mono (by decide)) (by decide) (by decide) (ea_cons (ev_nm 0) (ea_nil)) rfl) (ea_cons (ev_exnC (k := 1) g.xc_Occupied_1 ⟨rfl, rfl, rfl, rfl, rfl⟩ (hr.mono (by decide)) (by decide) (by decide) (ea_cons (ev_nm 0) (ea_nil)) rfl) (ea_nil))))))))) (o_add rfl))) (sb_one (ss_ret (ev_bin (er_nm 2) (EV.r (EF.v (ef_list (ea_cons (ev_exnC (k := 1) g.xc_Barred_2 ⟨rfl, rfl, rfl, rfl, rfl⟩ (hr.mono (by decide)) (by decide) (by decide) (ea_cons (ev_nm 0) (ea_cons (ev_nm 1) (ea_nil))) rfl) (ea_cons (ev_exnC (k := 1) g.xc_Failed_2 ⟨rfl, rfl, rfl, rfl, rfl⟩ (hr.mono (by decide)) (by decide) (by decide) (ea_cons (ev_nm 0) (ea_cons (ev_nm 1) (ea_nil))) rfl) (ea_cons (ev_exnCB (c := 17) ⟨rfl, rfl, rfl, rfl, rfl⟩ g.exi_Closed g.at_Closed g.kp_Closed rfl) (ea_nil))))))) (o_add rfl))))))) [] [] (F.bindsN fun _ _ _ _ _ _ us hl => match us, hl with | [_, _], _ => rfl) .nil fun _ _ => .nil
def N__law_named : List PySem.Str := ["_law_left", "_law_right_here", "_law_errors"]
def c__law_named : M Fl := cSeq (cSet 2 (cLst (cCons (cMkX 1 [0] 0 1 pk_InvalidName_0_value cNil (cCons (cVarV 0) (cNil))) (cCons (cMkX 2 [0] 0 1 pk_InvalidPlace_0_value cNil (cCons (cVarV 0) (cNil))) (cCons (cMkX 3 [0] 0 1 pk_InvalidForm_0_value cNil (cCons (cVarV 0) (cNil))) (cCons (cMkX 4 [0] 0 1 pk_InvalidLook_0_value cNil (cCons (cVarV 0) (cNil))) (cNil))))))) (cSeq (cSet 2 (cBin (cVar 2) (cv (cLst (cCons (cMkX 5 [0] 0 1 pk_InvalidLog_0_value cNil (cCons (cVarV 0) (cNil))) (cCons (cMkX 6 [0] 0 1 pk_InvalidRules_0_value cNil (cCons (cVarV 0) (cNil))) (cCons (cMkX 7 [0] 0 1 pk_InvalidDemand_0_value cNil (cCons (cVarV 0) (cNil))) (cNil)))))) gAdd)) (cSeq (cSet 2 (cBin (cVar 2) (cv (cLst (cCons (cMkX 8 [0] 0 1 pk_InvalidStory_0_value cNil (cCons (cVarV 0) (cNil))) (cCons (cMkX 9 [0] 0 1 pk_InvalidChange_0_value cNil (cCons (cVarV 0) (cNil))) (cCons (cMkX 10 [0] 0 1 pk_InvalidNumber_0_value cNil (cCons (cVarV 0) (cNil))) (cNil)))))) gAdd)) (cSeq (cSet 2 (cBin (cVar 2) (cv (cLst (cCons (cMkX 11 [0] 0 1 pk_InvalidList_0_value cNil (cCons (cVarV 0) (cNil))) (cCons (cMkX 12 [1] 0 1 pk_InvalidText_0_line cNil (cCons (cVarV 0) (cNil))) (cCons (cMkX 13 [2] 0 1 pk_Missing_0_place cNil (cCons (cVarV 0) (cNil))) (cCons (cMkX 14 [2] 0 1 pk_Occupied_0_place cNil (cCons (cVarV 0) (cNil))) (cNil))))))) gAdd)) (cRet (cBin (cVar 2) (cv (cLst (cCons (cMkX 15 [3, 4] 0 2 pk_Barred_0_other_one cNil (cCons (cVarV 1) (cCons (cVarV 0) (cNil)))) (cCons (cMkX 16 [5, 6] 0 2 pk_Failed_0_why_step cNil (cCons (cVarV 1) (cCons (cVarV 0) (cNil)))) (cCons (ret (.exn 17 [])) (cNil)))))) gAdd)))))
def fn__law_named : Fn := runF N__law_named.length c__law_named
theorem sc__law_named : FnScope N__law_named ["_law_left", "_law_right_here"] (defScope st__law_named) := ⟨rfl, rfl, rfl, by decide +kernel, rfl, by decide +kernel, by decide +kernel⟩
theorem cal__law_named {t : Tx} (g : Fs t) : Cal t (Zk t.K) "_law_named" 3 2 fn__law_named [] := by
  obtain ⟨fd, F⟩ := g.d__law_named
  have nd : N__law_named.Nodup := sc__law_named.nd
  exact cal_of F (g.at__law_named) sc__law_named rfl (fun cdv A outer s H E hr => sb_cons (ss_setN 2 nd (EF.v (ef_list (ea_cons (ev_exnCK (k := 1) g.xc_InvalidName_0_value ⟨rfl, rfl, rfl, rfl, rfl⟩ (hr.mono (by decide)) (by decide) (ek_cons (ev_nm 0) (ek_nil)) rfl) (ea_cons (ev_exnCK (k := 1) g.xc_InvalidPlace_0_value ⟨rfl, rfl, rfl, rfl, rfl⟩ (hr.mono (by decide)) (by decide) (ek_cons (ev_nm 0) (ek_nil)) rfl) (ea_cons (ev_exnCK (k := 1) g.xc_InvalidForm_0_value ⟨rfl, rfl, rfl, rfl, rfl⟩ (hr.mono (by decide)) (by decide) (ek_cons (ev_nm 0) (ek_nil)) rfl) (ea_cons (ev_exnCK (k := 1) g.xc_InvalidLook_0_value ⟨rfl, rfl, rfl, rfl, rfl⟩ (hr.mono (by decide)) (by decide) (ek_cons (ev_nm 0) (ek_nil)) rfl) (ea_nil)))))))) (sb_cons (ss_setN 2 nd (ev_bin (er_nm 2) (EV.r (EF.v (ef_list (ea_cons (ev_exnCK (k := 1) g.xc_InvalidLog_0_value ⟨rfl, rfl, rfl, rfl, rfl⟩ (hr.mono (by decide)) (by decide) (ek_cons (ev_nm 0) (ek_nil)) rfl) (ea_cons (ev_exnCK (k := 1) g.xc_InvalidRules_0_value ⟨rfl, rfl, rfl, rfl, rfl⟩ (hr.mono (by decide)) (by decide) (ek_cons (ev_nm 0) (ek_nil)) rfl) (ea_cons (ev_exnCK (k := 1) g.xc_InvalidDemand_0_value ⟨rfl, rfl, rfl, rfl, rfl⟩ (hr.mono (by decide)) (by decide) (ek_cons (ev_nm 0) (ek_nil)) rfl) (ea_nil))))))) (o_add rfl))) (sb_cons (ss_setN 2 nd (ev_bin (er_nm 2) (EV.r (EF.v (ef_list (ea_cons (ev_exnCK (k := 1) g.xc_InvalidStory_0_value ⟨rfl, rfl, rfl, rfl, rfl⟩ (hr.mono (by decide)) (by decide) (ek_cons (ev_nm 0) (ek_nil)) rfl) (ea_cons (ev_exnCK (k := 1) g.xc_InvalidChange_0_value ⟨rfl, rfl, rfl, rfl, rfl⟩ (hr.mono (by decide)) (by decide) (ek_cons (ev_nm 0) (ek_nil)) rfl) (ea_cons (ev_exnCK (k := 1) g.xc_InvalidNumber_0_value ⟨rfl, rfl, rfl, rfl, rfl⟩ (hr.mono (by decide)) (by decide) (ek_cons (ev_nm 0) (ek_nil)) rfl) (ea_nil))))))) (o_add rfl))) (sb_cons (ss_setN 2 nd (ev_bin (er_nm 2) (EV.r (EF.v (ef_list (ea_cons (ev_exnCK (k := 1) g.xc_InvalidList_0_value ⟨rfl, rfl, rfl, rfl, rfl⟩ (hr.mono (by decide)) (by decide) (ek_cons (ev_nm 0) (ek_nil)) rfl) (ea_cons (ev_exnCK (k := 1) g.xc_InvalidText_0_line ⟨rfl, rfl, rfl, rfl, rfl⟩ (hr.mono (by decide)) (by decide) (ek_cons (ev_nm 0) (ek_nil)) rfl) (ea_cons (ev_exnCK (k := 1) g.xc_Missing_0_place ⟨rfl, rfl, rfl, rfl, rfl⟩ (hr.mono (by decide)) (by decide) (ek_cons (ev_nm 0) (ek_nil)) rfl) (ea_cons (ev_exnCK (k := 1) g.xc_Occupied_0_place ⟨rfl, rfl, rfl, rfl, rfl⟩ (hr.mono (by decide)) (by decide) (ek_cons (ev_nm 0) (ek_nil)) rfl) (ea_nil)))))))) (o_add rfl))) (sb_one (ss_ret (ev_bin (er_nm 2) (EV.r (EF.v (ef_list (ea_cons (ev_exnCK (k := 1) g.xc_Barred_0_other_one ⟨rfl, rfl, rfl, rfl, rfl⟩ (hr.mono (by decide)) (by decide) (ek_cons (ev_nm 1) (ek_cons (ev_nm 0) (ek_nil))) rfl) (ea_cons (ev_exnCK (k := 1) g.xc_Failed_0_why_step ⟨rfl, rfl, rfl, rfl, rfl⟩ (hr.mono (by decide)) (by decide) (ek_cons (ev_nm 1) (ek_cons (ev_nm 0) (ek_nil))) rfl) (ea_cons (ev_exnCB (c := 17) ⟨rfl, rfl, rfl, rfl, rfl⟩ g.exi_Closed g.at_Closed g.kp_Closed rfl) (ea_nil))))))) (o_add rfl)))))))) [] [] (F.bindsN fun _ _ _ _ _ _ us hl => match us, hl with | [_, _], _ => rfl) .nil fun _ _ => .nil
def N__law_bare : List PySem.Str := ["_law_errors"]
def c__law_bare : M Fl := cSeq (cSet 0 (cLst (cCons (cMkX 1 [0] 0 0 pk_InvalidName_0 cNil cNil) (cCons (cMkX 2 [0] 0 0 pk_InvalidPlace_0 cNil cNil) (cCons (cMkX 3 [0] 0 0 pk_InvalidForm_0 cNil cNil) (cCons (cMkX 4 [0] 0 0 pk_InvalidLook_0 cNil cNil) (cCons (cMkX 5 [0] 0 0 pk_InvalidLog_0 cNil cNil) (cCons (cMkX 6 [0] 0 0 pk_InvalidRules_0 cNil cNil) (cNil))))))))) (cSeq (cSet 0 (cBin (cVar 0) (cv (cLst (cCons (cMkX 7 [0] 0 0 pk_InvalidDemand_0 cNil cNil) (cCons (cMkX 8 [0] 0 0 pk_InvalidStory_0 cNil cNil) (cCons (cMkX 9 [0] 0 0 pk_InvalidChange_0 cNil cNil) (cCons (cMkX 10 [0] 0 0 pk_InvalidNumber_0 cNil cNil) (cCons (cMkX 11 [0] 0 0 pk_InvalidList_0 cNil cNil) (cNil)))))))) gAdd)) (cRet (cBin (cVar 0) (cv (cLst (cCons (cMkX 12 [1] 0 0 pk_InvalidText_0 cNil cNil) (cCons (cMkX 13 [2] 0 0 pk_Missing_0 cNil cNil) (cCons (cMkX 14 [2] 0 0 pk_Occupied_0 cNil cNil) (cCons (cMkX 15 [3, 4] 0 0 pk_Barred_0 cNil cNil) (cCons (cMkX 16 [5, 6] 0 0 pk_Failed_0 cNil cNil) (cCons (ret (.exn 17 [])) (cNil))))))))) gAdd)))
def fn__law_bare : Fn := runF N__law_bare.length c__law_bare
theorem sc__law_bare : FnScope N__law_bare [] (defScope st__law_bare) := ⟨rfl, rfl, rfl, by decide +kernel, rfl, by decide +kernel, by decide +kernel⟩
theorem cal__law_bare {t : Tx} (g : Fs t) : Cal t (Zk t.K) "_law_bare" 3 0 fn__law_bare [] := by
  obtain ⟨fd, F⟩ := g.d__law_bare
  have nd : N__law_bare.Nodup := sc__law_bare.nd
  exact cal_of F (g.at__law_bare) sc__law_bare rfl (fun cdv A outer s H E hr => sb_cons (ss_setN 0 nd (EF.v (ef_list (ea_cons (ev_exnC0 (k := 1) g.xc_InvalidName_0 ⟨rfl, rfl, rfl, rfl, rfl⟩ (hr.mono (by decide)) (by decide) rfl) (ea_cons (ev_exnC0 (k := 1) g.xc_InvalidPlace_0 ⟨rfl, rfl, rfl, rfl, rfl⟩ (hr.mono (by decide)) (by decide) rfl) (ea_cons (ev_exnC0 (k := 1) g.xc_InvalidForm_0 ⟨rfl, rfl, rfl, rfl, rfl⟩ (hr.mono (by decide)) (by decide) rfl) (ea_cons (ev_exnC0 (k := 1) g.xc_InvalidLook_0 ⟨rfl, rfl, rfl, rfl, rfl⟩ (hr.mono (by decide)) (by decide) rfl) (ea_cons (ev_exnC0 (k := 1) g.xc_InvalidLog_0 ⟨rfl, rfl, rfl, rfl, rfl⟩ (hr.mono (by decide)) (by decide) rfl) (ea_cons (ev_exnC0 (k := 1) g.xc_InvalidRules_0 ⟨rfl, rfl, rfl, rfl, rfl⟩ (hr.mono (by decide)) (by decide) rfl) (ea_nil)))))))))) (sb_cons (ss_setN 0 nd (ev_bin (er_nm 0) (EV.r (EF.v (ef_list (ea_cons (ev_exnC0 (k := 1) g.xc_InvalidDemand_0 ⟨rfl, rfl, rfl, rfl, rfl⟩ (hr.mono (by decide)) (by decide) rfl) (ea_cons (ev_exnC0 (k := 1) g.xc_InvalidStory_0 ⟨rfl, rfl, rfl, rfl, rfl⟩ (hr.mono (by decide)) (by decide) rfl) (ea_cons (ev_exnC0 (k := 1) g.xc_InvalidChange_0 ⟨rfl, rfl, rfl, rfl, rfl⟩ (hr.mono (by decide)) (by decide) rfl) (ea_cons (ev_exnC0 (k := 1) g.xc_InvalidNumber_0 ⟨rfl, rfl, rfl, rfl, rfl⟩ (hr.mono (by decide)) (by decide) rfl) (ea_cons (ev_exnC0 (k := 1) g.xc_InvalidList_0 ⟨rfl, rfl, rfl, rfl, rfl⟩ (hr.mono (by decide)) (by decide) rfl) (ea_nil))))))))) (o_add rfl))) (sb_one (ss_ret (ev_bin (er_nm 0) (EV.r (EF.v (ef_list (ea_cons (ev_exnC0 (k := 1) g.xc_InvalidText_0 ⟨rfl, rfl, rfl, rfl, rfl⟩ (hr.mono (by decide)) (by decide) rfl) (ea_cons (ev_exnC0 (k := 1) g.xc_Missing_0 ⟨rfl, rfl, rfl, rfl, rfl⟩ (hr.mono (by decide)) (by decide) rfl) (ea_cons (ev_exnC0 (k := 1) g.xc_Occupied_0 ⟨rfl, rfl, rfl, rfl, rfl⟩ (hr.mono (by decide)) (by decide) rfl) (ea_cons (ev_exnC0 (k := 1) g.xc_Barred_0 ⟨rfl, rfl, rfl, rfl, rfl⟩ (hr.mono (by decide)) (by decide) rfl) (ea_cons (ev_exnC0 (k := 1) g.xc_Failed_0 ⟨rfl, rfl, rfl, rfl, rfl⟩ (hr.mono (by decide)) (by decide) rfl) (ea_cons (ev_exnCB (c := 17) ⟨rfl, rfl, rfl, rfl, rfl⟩ g.exi_Closed g.at_Closed g.kp_Closed rfl) (ea_nil)))))))))) (o_add rfl)))))) [] [] (F.bindsN fun _ _ _ _ _ _ us hl => match us, hl with | [], _ => rfl) .nil fun _ _ => .nil
def N__law_thing : List PySem.Str := ["_law_cell", "_law_number"]
def c__law_thing : M Fl := cSeq (cSet 1 (cBin (cv (cBin (cv (cCallB (rCons (cVar 0) (rNil)) (gL1 hInt))) (cv (cBin (cv (ret (.int 10))) (cv (ret (.int 30))) gPowI)) gModI)) (cv (cBin (cv (ret (.int 10))) (cv (ret (.int 29))) gPowI)) gSubI)) (cRet (cBin (cv (cLst (cCons (cVarV 1) (cCons (ret .non) (cCons (ret (.str "a")) (cCons (cLst (cCons (cVarV 1) (cNil))) (cCons (cTup (cCons (cVarV 1) (cCons (ret (.str "b")) (cNil)))) (cCons (ret (.bl true)) (cCons (ret (.int 0)) (cNil)))))))))) (cv (cBin (cv (cCallB (rCons (cVar 0) (rNil)) (gL1 hInt))) (cv (ret (.int 7))) gModI)) (gLook hIx)))
def fn__law_thing : Fn := runF N__law_thing.length c__law_thing
theorem sc__law_thing : FnScope N__law_thing ["_law_cell"] (defScope st__law_thing) := ⟨rfl, rfl, rfl, by decide +kernel, rfl, by decide +kernel, by decide +kernel⟩
theorem cal__law_thing {t : Tx} (g : Fs t) : Cal t (Zk t.K) "_law_thing" 3 1 fn__law_thing [] := by
  obtain ⟨fd, F⟩ := g.d__law_thing
  have nd : N__law_thing.Nodup := sc__law_thing.nd
  exact cal_of F (g.at__law_thing) sc__law_thing rfl (fun cdv A outer s H E hr => sb_cons (ss_setN 1 nd (ev_bin (EV.r (ev_bin (EV.r (ev_callTy (c_int) (ar_cons (er_nm 0) (ar_nil)) rfl g.free_int PyProof.Rows.Boot.«int»)) (EV.r (ev_bin (EV.r (ev_int)) (EV.r (ev_int)) (o_powI))) (o_modI))) (EV.r (ev_bin (EV.r (ev_int)) (EV.r (ev_int)) (o_powI))) (o_subI))) (sb_one (ss_ret (ev_ix rfl (EV.r (EF.v (ef_list (ea_cons (ev_nm 1) (ea_cons (ev_non) (ea_cons (ev_str) (ea_cons (EF.v (ef_list (ea_cons (ev_nm 1) (ea_nil)))) (ea_cons (ev_tup (ea_cons (ev_nm 1) (ea_cons (ev_str) (ea_nil)))) (ea_cons (ev_bl) (ea_cons (ev_int) (ea_nil))))))))))) (EV.r (ev_bin (EV.r (ev_callTy (c_int) (ar_cons (er_nm 0) (ar_nil)) rfl g.free_int PyProof.Rows.Boot.«int»)) (EV.r (ev_int)) (o_modI))) (fun _ _ => rfl))))) [] [] (F.bindsN fun _ _ _ _ _ _ us hl => match us, hl with | [_], _ => rfl) .nil fun _ _ => .nil
def N_law : List PySem.Str := ["_law_script", "_law_due", "_law_some", "_law_others", "_law_errors", "_law_bare_here", "_law_short", "_law_told", "_law_held", "_law_left", "_law_right_here"]
def c_law_0 : M Fl := cPar 9 10 (cCons (cCall fn__law_thing 1 [] (cCons (cCallB (rCons (cv (cSl (cVar 0) (oNone) (oSome (ret (.int 1))) hSlL)) (rNil)) (gL1 hSum)) (cNil))) (cCons (cCall fn__law_thing 1 [] (cCons (cBin (cv (cCallB (rCons (cv (cSl (cVar 0) (oSome (ret (.int 1))) (oSome (ret (.int 2))) hSlL)) (rNil)) (gL1 hSum))) (cv (ret (.int 3))) gAdd) (cNil))) (cNil)))
def c_law_1 : M Fl := cSet 1 (cBin (cv (cRepL (cLst (cCons (cVarV 9) (cNil))) (ret (.int 14)))) (cv (cLst (cCons (cVarV 9) (cCons (cVarV 10) (cCons (cVarV 9) (cCons (cVarV 10) (cNil))))))) gAdd)
def c_law_2 : M Fl := cSet 2 (cLst (cCons (cCall fn__law_placed 2 [] (cCons (cVarV 9) (cCons (cVarV 10) (cNil)))) (cCons (cCall fn__law_named 2 [] (cCons (cVarV 9) (cCons (cVarV 10) (cNil)))) (cNil))))
def c_law_3 : M Fl := cSet 3 (cBin (cv (cCall fn__law_placed 2 [] (cCons (cVarV 10) (cCons (cVarV 9) (cNil))))) (cv (cCall fn__law_bare 0 [] cNil)) gAdd)
def c_law_4 : M Fl := cFor (cSrc (cVarV 2)) (putU 4) (cIf (cOr (cNot (cB (cCall fn__law_right 1 [] (cCons (cVarV 4) (cNil))))) (cB (cBin (cv (cCall fn__law_values 1 [] (cCons (cVarV 4) (cNil)))) (cVar 1) (gLook hNeD)))) (cRet (ret (.bl false))) (cNx))
def c_law_5 : M Fl := cIf (cB (cBin (cv (cCall fn__law_values 1 [] (cCons (cSl (cVar 3) (oNone) (oSome (ret (.int 17))) hSlL) (cNil)))) (cv (cBin (cv (cRepL (cLst (cCons (cVarV 10) (cNil))) (ret (.int 14)))) (cv (cLst (cCons (cVarV 10) (cCons (cVarV 9) (cCons (cVarV 10) (cCons (cVarV 9) (cNil))))))) gAdd)) (gLook hNeD))) (cRet (ret (.bl false))) (cNx)
def c_law_6 : M Fl := cIf (cB (cBin (cv (cCall fn__law_values 1 [] (cCons (cSl (cVar 3) (oSome (ret (.int 17))) (oNone) hSlL) (cNil)))) (cv (cRepL (cLst (cCons (ret .non) (cNil))) (ret (.int 18)))) (gLook hNeD))) (cRet (ret (.bl false))) (cNx)
def c_law_7 : M Fl := cSet 5 (cCall fn__law_bare 0 [] cNil)
def c_law_8 : M Fl := cIf (cOr (cNot (cB (cCall fn__law_right 1 [] (cCons (cVarV 5) (cNil))))) (cB (cBin (cv (cCall fn__law_values 1 [] (cCons (cVarV 5) (cNil)))) (cv (cRepL (cLst (cCons (ret .non) (cNil))) (ret (.int 18)))) (gLook hNeD)))) (cRet (ret (.bl false))) (cNx)
def c_law_9 : M Fl := cSet 6 (cLst (cCons (cMkX 15 [3, 4] 1 0 pk_Barred_1 (cCons (cVarV 9) (cNil)) cNil) (cCons (cMkX 16 [5, 6] 1 0 pk_Failed_1 (cCons (cVarV 9) (cNil)) cNil) (cCons (cMkX 15 [3, 4] 0 1 pk_Barred_0_other cNil (cCons (cVarV 10) (cNil))) (cCons (cMkX 16 [5, 6] 0 1 pk_Failed_0_why cNil (cCons (cVarV 10) (cNil))) (cNil))))))
def c_law_10 : M Fl := cSet 7 (cLst (cCons (cXF (xf_one) 3 (cv (cBin (cVar 6) (cv (ret (.int 0))) (gLook hIx)))) (cCons (cXF (xf_other) 4 (cv (cBin (cVar 6) (cv (ret (.int 0))) (gLook hIx)))) (cCons (cXF (xf_step) 5 (cv (cBin (cVar 6) (cv (ret (.int 1))) (gLook hIx)))) (cCons (cXF (xf_why) 6 (cv (cBin (cVar 6) (cv (ret (.int 1))) (gLook hIx)))) (cNil))))))
def c_law_11 : M Fl := cIf (cB (cBin (cVar 7) (cv (cLst (cCons (cVarV 9) (cCons (ret .non) (cCons (cVarV 9) (cCons (ret .non) (cNil))))))) (gLook hNeD))) (cRet (ret (.bl false))) (cNx)
def c_law_12 : M Fl := cIf (cB (cBin (cv (cLst (cCons (cXF (xf_one) 3 (cv (cBin (cVar 6) (cv (ret (.int 2))) (gLook hIx)))) (cCons (cXF (xf_other) 4 (cv (cBin (cVar 6) (cv (ret (.int 2))) (gLook hIx)))) (cCons (cXF (xf_step) 5 (cv (cBin (cVar 6) (cv (ret (.int 3))) (gLook hIx)))) (cCons (cXF (xf_why) 6 (cv (cBin (cVar 6) (cv (ret (.int 3))) (gLook hIx)))) (cNil))))))) (cv (cLst (cCons (ret .non) (cCons (cVarV 10) (cCons (ret .non) (cCons (cVarV 10) (cNil))))))) (gLook hNeD))) (cRet (ret (.bl false))) (cNx)
def c_law_13 : M Fl := cSet 8 (cCell (cLst (cCons (cVarV 9) (cNil))))
def c_law_14 : M Fl := cSet 4 (cCall fn__law_placed 2 [] (cCons (cVarV 8) (cCons (cVarV 8) (cNil))))
def c_law_15 : M Fl := cDrop (cBM "list" (cVar 8) (rCons (cv (cVarV 10)) (rNil)) (gLM hAppend))
def c_law_16 : M Fl := cRet (cBin (cv (cCall fn__law_values 1 [] (cCons (cVarV 4) (cNil)))) (cv (cRepL (cLst (cCons (cVarV 8) (cNil))) (ret (.int 18)))) (gEq))
def c_law : M Fl := cSeq c_law_0 (cSeq c_law_1 (cSeq c_law_2 (cSeq c_law_3 (cSeq c_law_4 (cSeq c_law_5 (cSeq c_law_6 (cSeq c_law_7 (cSeq c_law_8 (cSeq c_law_9 (cSeq c_law_10 (cSeq c_law_11 (cSeq c_law_12 (cSeq c_law_13 (cSeq c_law_14 (cSeq c_law_15 (c_law_16))))))))))))))))
def fn_law : Fn := runF N_law.length c_law
theorem sc_law : FnScope N_law ["_law_script"] (defScope st_law) := ⟨rfl, rfl, rfl, by decide +kernel, rfl, by decide +kernel, by decide +kernel⟩
theorem ok_law {t : Tx} (g : Fs t) {fd : FuncData} (F : FunD t.K "law" "law" (defArgs st_law) (defBody st_law) (defScope st_law) [] [] (ga t.K "law") fd) : FnOk t.P t.w t.K t.mg t.base (L2.CX t.P t.w) 7 (ga t.K "law") fd ["_law_script"] (spM (Zk t.K) 1 fn_law) := by
  have nd : N_law.Nodup := sc_law.nd
  exact okF F sc_law rfl (fun cdv A outer s H E hr => sb_cons (ss_par rfl nd (i := 9) (j := 10) rfl rfl (by decide) rfl rfl (ea_cons (ev_callC (cal__law_thing g) ⟨rfl, rfl, rfl, rfl, rfl⟩ hr (by decide) tkC (ea_cons (ev_callB (c_sum rfl rfl) (ar_cons (EV.r (EF.v (ef_slL rfl (er_nm 0) (eo_none) (eo_some (ev_int))))) (ar_nil)) rfl g.free_sum PyProof.Rows.Boot.«sum») (ea_nil)) rfl) (ea_cons (ev_callC (cal__law_thing g) ⟨rfl, rfl, rfl, rfl, rfl⟩ hr (by decide) tkC (ea_cons (ev_bin (EV.r (ev_callB (c_sum rfl rfl) (ar_cons (EV.r (EF.v (ef_slL rfl (er_nm 0) (eo_some (ev_int)) (eo_some (ev_int))))) (ar_nil)) rfl g.free_sum PyProof.Rows.Boot.«sum»)) (EV.r (ev_int)) (o_add rfl)) (ea_nil)) rfl) (ea_nil))) rfl) (sb_cons (ss_setN 1 nd (ev_bin (EV.r (EF.v (ef_rep (ef_list (ea_cons (ev_nm 9) (ea_nil))) (ev_int)))) (EV.r (EF.v (ef_list (ea_cons (ev_nm 9) (ea_cons (ev_nm 10) (ea_cons (ev_nm 9) (ea_cons (ev_nm 10) (ea_nil)))))))) (o_add rfl))) (sb_cons (ss_setN 2 nd (EF.v (ef_list (ea_cons (ev_callC (cal__law_placed g) ⟨rfl, rfl, rfl, rfl, rfl⟩ hr (by decide) tkC (ea_cons (ev_nm 9) (ea_cons (ev_nm 10) (ea_nil))) rfl) (ea_cons (ev_callC (cal__law_named g) ⟨rfl, rfl, rfl, rfl, rfl⟩ hr (by decide) tkC (ea_cons (ev_nm 9) (ea_cons (ev_nm 10) (ea_nil))) rfl) (ea_nil)))))) (sb_cons (ss_setN 3 nd (ev_bin (EV.r (ev_callC (cal__law_placed g) ⟨rfl, rfl, rfl, rfl, rfl⟩ hr (by decide) tkC (ea_cons (ev_nm 10) (ea_cons (ev_nm 9) (ea_nil))) rfl)) (EV.r (ev_callC0 (cal__law_bare g) ⟨rfl, rfl, rfl, rfl, rfl⟩ hr (by decide) tkC rfl)) (o_add rfl))) (sb_cons (ss_for psC rfl (si_val rfl (ev_nm 2)) (gt_nm 4 nd) (sb_one (ss_if (EW.b (ew_or (eb_not (EV.b (ev_callC (cal__law_right g) ⟨rfl, rfl, rfl, rfl, rfl⟩ hr (by decide) tkC (ea_cons (ev_nm 4) (ea_nil)) rfl))) (ew_or1 (eb_cmp (EV.r (ev_callC (cal__law_values g) ⟨rfl, rfl, rfl, rfl, rfl⟩ hr (by decide) tkC (ea_cons (ev_nm 4) (ea_nil)) rfl)) (er_nm 1) (o_neD (k := 0) rfl (hr.mono (by decide))) rfl)))) (sb_one (ss_ret (ev_bl))) (sb_nil)))) (sb_cons (ss_if (eb_cmp (EV.r (ev_callC (cal__law_values g) ⟨rfl, rfl, rfl, rfl, rfl⟩ hr (by decide) tkC (ea_cons (EF.v (ef_slL rfl (er_nm 3) (eo_none) (eo_some (ev_int)))) (ea_nil)) rfl)) (EV.r (ev_bin (EV.r (EF.v (ef_rep (ef_list (ea_cons (ev_nm 10) (ea_nil))) (ev_int)))) (EV.r (EF.v (ef_list (ea_cons (ev_nm 10) (ea_cons (ev_nm 9) (ea_cons (ev_nm 10) (ea_cons (ev_nm 9) (ea_nil)))))))) (o_add rfl))) (o_neD (k := 0) rfl (hr.mono (by decide))) rfl) (sb_one (ss_ret (ev_bl))) (sb_nil)) (sb_cons (ss_if (eb_cmp (EV.r (ev_callC (cal__law_values g) ⟨rfl, rfl, rfl, rfl, rfl⟩ hr (by decide) tkC (ea_cons (EF.v (ef_slL rfl (er_nm 3) (eo_some (ev_int)) (eo_none))) (ea_nil)) rfl)) (EV.r (EF.v (ef_rep (ef_list (ea_cons (ev_non) (ea_nil))) (ev_int)))) (o_neD (k := 0) rfl (hr.mono (by decide))) rfl) (sb_one (ss_ret (ev_bl))) (sb_nil)) (sb_cons (ss_setN 5 nd (ev_callC0 (cal__law_bare g) ⟨rfl, rfl, rfl, rfl, rfl⟩ hr (by decide) tkC rfl)) (sb_cons (ss_if (EW.b (ew_or (eb_not (EV.b (ev_callC (cal__law_right g) ⟨rfl, rfl, rfl, rfl, rfl⟩ hr (by decide) tkC (ea_cons (ev_nm 5) (ea_nil)) rfl))) (ew_or1 (eb_cmp (EV.r (ev_callC (cal__law_values g) ⟨rfl, rfl, rfl, rfl, rfl⟩ hr (by decide) tkC (ea_cons (ev_nm 5) (ea_nil)) rfl)) (EV.r (EF.v (ef_rep (ef_list (ea_cons (ev_non) (ea_nil))) (ev_int)))) (o_neD (k := 0) rfl (hr.mono (by decide))) rfl)))) (sb_one (ss_ret (ev_bl))) (sb_nil)) (sb_cons (ss_setN 6 nd (EF.v (ef_list (ea_cons (ev_exnC (k := 1) g.xc_Barred_1 ⟨rfl, rfl, rfl, rfl, rfl⟩ (hr.mono (by decide)) (by decide) (by decide) (ea_cons (ev_nm 9) (ea_nil)) rfl) (ea_cons (ev_exnC (k := 1) g.xc_Failed_1 ⟨rfl, rfl, rfl, rfl, rfl⟩ (hr.mono (by decide)) (by decide) (by decide) (ea_cons (ev_nm 9) (ea_nil)) rfl) (ea_cons (ev_exnCK (k := 1) g.xc_Barred_0_other ⟨rfl, rfl, rfl, rfl, rfl⟩ (hr.mono (by decide)) (by decide) (ek_cons (ev_nm 10) (ek_nil)) rfl) (ea_cons (ev_exnCK (k := 1) g.xc_Failed_0_why ⟨rfl, rfl, rfl, rfl, rfl⟩ (hr.mono (by decide)) (by decide) (ek_cons (ev_nm 10) (ek_nil)) rfl) (ea_nil)))))))) (sb_cons (ss_setN 7 nd (EF.v (ef_list (ea_cons (ev_xf rfl g.hi rfl g.xf_one (EV.r (ev_ix rfl (er_nm 6) (EV.r (ev_int)) (fun _ _ => rfl)))) (ea_cons (ev_xf rfl g.hi rfl g.xf_other (EV.r (ev_ix rfl (er_nm 6) (EV.r (ev_int)) (fun _ _ => rfl)))) (ea_cons (ev_xf rfl g.hi rfl g.xf_step (EV.r (ev_ix rfl (er_nm 6) (EV.r (ev_int)) (fun _ _ => rfl)))) (ea_cons (ev_xf rfl g.hi rfl g.xf_why (EV.r (ev_ix rfl (er_nm 6) (EV.r (ev_int)) (fun _ _ => rfl)))) (ea_nil)))))))) (sb_cons (ss_if (eb_cmp (er_nm 7) (EV.r (EF.v (ef_list (ea_cons (ev_nm 9) (ea_cons (ev_non) (ea_cons (ev_nm 9) (ea_cons (ev_non) (ea_nil)))))))) (o_neD (k := 0) rfl (hr.mono (by decide))) rfl) (sb_one (ss_ret (ev_bl))) (sb_nil)) (sb_cons (ss_if (eb_cmp (EV.r (EF.v (ef_list (ea_cons (ev_xf rfl g.hi rfl g.xf_one (EV.r (ev_ix rfl (er_nm 6) (EV.r (ev_int)) (fun _ _ => rfl)))) (ea_cons (ev_xf rfl g.hi rfl g.xf_other (EV.r (ev_ix rfl (er_nm 6) (EV.r (ev_int)) (fun _ _ => rfl)))) (ea_cons (ev_xf rfl g.hi rfl g.xf_step (EV.r (ev_ix rfl (er_nm 6) (EV.r (ev_int)) (fun _ _ => rfl)))) (ea_cons (ev_xf rfl g.hi rfl g.xf_why (EV.r (ev_ix rfl (er_nm 6) (EV.r (ev_int)) (fun _ _ => rfl)))) (ea_nil)))))))) (EV.r (EF.v (ef_list (ea_cons (ev_non) (ea_cons (ev_nm 10) (ea_cons (ev_non) (ea_cons (ev_nm 10) (ea_nil)))))))) (o_neD (k := 0) rfl (hr.mono (by decide))) rfl) (sb_one (ss_ret (ev_bl))) (sb_nil)) (sb_cons (ss_setN 8 nd (EF.cell (ef_list (ea_cons (ev_nm 9) (ea_nil))))) (sb_cons (ss_setN 4 nd (ev_callC (cal__law_placed g) ⟨rfl, rfl, rfl, rfl, rfl⟩ hr (by decide) tkC (ea_cons (ev_nm 8) (ea_cons (ev_nm 8) (ea_nil))) rfl)) (sb_cons (ss_expr (ev_bm rfl PySem.F.plainAttrs_list PySem.F.slot_list_append PySem.F.type_list_append m_append (er_nm 8) (ar_cons (EV.r (ev_nm 10)) (ar_nil)))) (sb_one (ss_ret (ev_cmp (EV.r (ev_callC (cal__law_values g) ⟨rfl, rfl, rfl, rfl, rfl⟩ hr (by decide) tkC (ea_cons (ev_nm 4) (ea_nil)) rfl)) (EV.r (EF.v (ef_rep (ef_list (ea_cons (ev_nm 8) (ea_nil))) (ev_int)))) (o_eq (k := 0) rfl (hr.mono (by decide))) rfl)))))))))))))))))))
end Walk
namespace Walk
open PySem PySem.Spec L2 He TL
def placedT (l r : T) : T := .lst [.exn 1 [(0, l)], .exn 2 [(0, l)], .exn 3 [(0, l)], .exn 4 [(0, l)], .exn 5 [(0, l)], .exn 6 [(0, l)], .exn 7 [(0, l)], .exn 8 [(0, l)], .exn 9 [(0, l)], .exn 10 [(0, l)], .exn 11 [(0, l)], .exn 12 [(1, l)], .exn 13 [(2, l)], .exn 14 [(2, l)], .exn 15 [(4, r), (3, l)], .exn 16 [(6, r), (5, l)], .exn 17 []]
def valuesL (l r : T) : List T := [l, l, l, l, l, l, l, l, l, l, l, l, l, l, l, r, l, r]
def valuesT (l r : T) : T := .lst (valuesL l r)
/-- data that is equal to itself, at most k deep -/
def Good (k : Nat) (t : T) : Prop := ∃ d, pd t = some d ∧ PyData.canLay0 d = true ∧ PyData.depth d ≤ k ∧ PyData.eqv d d = true
theorem ne_self {t : T} {k : Nat} (h : Good k t) (hk : k ≤ 64) : hNeD t t = some (.bl false) := by
  obtain ⟨d, h1, h2, h4, h3⟩ := h
  have : SeqAt.shaped d = true := by
    unfold SeqAt.shaped
    rw [h2, decide_eq_true (Nat.le_trans h4 hk)]; rfl
  simp [hNeD, eqD, h1, this, h3]
theorem good_lst {k : Nat} {ts : List T} (h : ∀ t ∈ ts, Good k t) : Good (k + 1) (.lst ts) := by
  have key : ∀ ts : List T, (∀ t ∈ ts, Good k t) → ∃ ds, pdL ts = some ds ∧ PyData.canLayAll0 ds = true ∧ PyData.depth (.list ds) ≤ k + 1 ∧ PyData.eqvAll ds ds = true := by
    intro ts
    induction ts with
    | nil => exact fun _ => ⟨[], rfl, rfl, by simp [PyData.depth, PyData.depthAll], rfl⟩
    | cons t ts ih =>
      intro h
      obtain ⟨ds, h1, h2, h4, h3⟩ := ih fun u hu => h u (List.mem_cons_of_mem _ hu)
      obtain ⟨d, g1, g2, g4, g3⟩ := h t List.mem_cons_self
      refine ⟨d :: ds, by simp [pdL, g1, h1], by simp [PyData.canLayAll0, g2, h2], ?_, by simp [PyData.eqvAll, g3, h3]⟩
      simp only [PyData.depth, PyData.depthAll] at h4 ⊢
      omega
  obtain ⟨ds, h1, h2, h4, h3⟩ := key ts h
  exact ⟨.list ds, by simp [pd, h1], by simp [PyData.canLay0, h2], h4, by simp [PyData.eqv, h3]⟩
theorem Good.up {k j : Nat} {t : T} (h : Good k t) (e : k ≤ j) : Good j t := by
  obtain ⟨d, h1, h2, h4, h3⟩ := h
  exact ⟨d, h1, h2, Nat.le_trans h4 e, h3⟩
theorem good_non : Good 2 .non := ⟨.none, rfl, rfl, by simp [PyData.depth], rfl⟩
theorem good_int (i : Int) : Good 2 (.int i) := ⟨.int i, rfl, rfl, by simp [PyData.depth], by simp [PyData.eqv]⟩
theorem good_bl (i : Bool) : Good 2 (.bl i) := ⟨.bool i, rfl, rfl, by simp [PyData.depth], by simp [PyData.eqv]⟩
theorem good_a : Good 2 (.str "a") := ⟨.str "a", rfl, by decide +kernel, by simp [PyData.depth], by simp [PyData.eqv]⟩
theorem good_l (i : Int) : Good 2 (.lst [.int i]) := ⟨.list [.int i], rfl, rfl, by simp [PyData.depth, PyData.depthAll], by simp [PyData.eqv, PyData.eqvAll]⟩
theorem good_pair (i : Int) : Good 2 (.tup [.int i, .str "b"]) := ⟨.tuple [.int i, .str "b"], rfl, by simp only [PyData.canLay0, PyData.canLayAll0]; decide +kernel, by simp [PyData.depth, PyData.depthAll], by simp [PyData.eqv, PyData.eqvAll]⟩
theorem good_values {l r : T} (hl : Good 2 l) (hr : Good 2 r) : Good 3 (valuesT l r) := good_lst fun t h => by
  have : t = l ∨ t = r := by
    simp only [valuesL, List.mem_cons, List.not_mem_nil, or_false] at h
    rcases h with h | h | h | h | h | h | h | h | h | h | h | h | h | h | h | h | h | h <;> first | exact .inl h | exact .inr h
  rcases this with rfl | rfl
  · exact hl
  · exact hr
def fin7 (n m : Int) (c : List (Option T)) (o : Option T) : OutF := match ((match o with
  | some r => (Out.ok r (⟨[.val (.int n), .val (.int m)], c⟩ : S) : Out T)
  | none => .stuck).bind fun t => ret (Fl.rt t)) with
  | .ok (.rt t) s => .ok t s.c
  | .ok .nx s => .ok .non s.c
  | .ok _ _ => .stuck
  | .exc k fs s => .exc k fs s.c
  | .stuck => .stuck
def things (m : Int) : List T := [.int m, .non, .str "a", .lst [.int m], .tup [.int m, .str "b"], .bl true, .int 0]
theorem m_thing0 (n : Int) (c : List (Option T)) : fn__law_thing [.int n] c = fin7 n (n % 10 ^ 30 - 10 ^ 29) c (hIx (.lst (things (n % 10 ^ 30 - 10 ^ 29))) (.int (n % 7))) := by kernel_rfl
theorem m_thing (n : Int) (c : List (Option T)) : ∃ v, fn__law_thing [.int n] c = .ok v c ∧ Good 2 v := by
  rw [m_thing0]
  generalize n % 10 ^ 30 - 10 ^ 29 = m
  have h : n % 7 = 0 ∨ n % 7 = 1 ∨ n % 7 = 2 ∨ n % 7 = 3 ∨ n % 7 = 4 ∨ n % 7 = 5 ∨ n % 7 = 6 := by omega
  rcases h with h | h | h | h | h | h | h <;> rw [h]
  · exact ⟨_, rfl, good_int m⟩
  · exact ⟨_, rfl, good_non⟩
  · exact ⟨_, rfl, good_a⟩
  · exact ⟨_, rfl, good_l m⟩
  · exact ⟨_, rfl, good_pair m⟩
  · exact ⟨_, rfl, good_bl true⟩
  · exact ⟨_, rfl, good_int 0⟩
abbrev un : Slot := .un
def s0 (ns : List Int) : S := ⟨[.val (.lst (ns.map .int)), un, un, un, un, un, un, un, un, un, un], []⟩
def s1 (x l r : T) : S := ⟨[.val x, un, un, un, un, un, un, un, un, .val l, .val r], []⟩
def s2 (x l r : T) : S := ⟨[.val x, .val (valuesT l r), un, un, un, un, un, un, un, .val l, .val r], []⟩
def someT (l r : T) : T := .lst [placedT l r, placedT l r]
def listOf : T → List T
  | .lst ts => ts
  | _ => []
def othT (l r : T) : T := .lst (listOf (placedT r l) ++ listOf (placedT .non .non))
def s4 (x l r e : T) (w : Slot) : S := ⟨[.val x, .val (valuesT l r), .val (someT l r), .val (othT l r), w, un, un, un, un, .val l, .val r], []⟩
theorem st1 (x l r : T) : c_law_1 (s1 x l r) = .ok .nx (s2 x l r) := by kernel_rfl
theorem st23 (x l r : T) : cSeq c_law_2 c_law_3 (s2 x l r) = .ok .nx (s4 x l r .non un) := by kernel_rfl
/-- an if on a != b of data -/
def neIf (o : Option T) (s : S) (A B : M Fl) : Out Fl := (((match o with
  | some r => (Out.ok r s : Out T)
  | none => .stuck).bind asB).bind fun b => if b = true then A else B)
theorem neIf_self {t : T} {k : Nat} (h : Good k t) (hk : k ≤ 64) (s : S) (A B : M Fl) : neIf (hNeD t t) s A B = B s := by
  rw [ne_self h hk]; rfl
def body4 : M Fl := cIf (cOr (cNot (cB (cCall fn__law_right 1 [] (cCons (cVarV 4) (cNil))))) (cB (cBin (cv (cCall fn__law_values 1 [] (cCons (cVarV 4) (cNil)))) (cVar 1) (gLook hNeD)))) (cRet (ret (.bl false))) (cNx)
theorem b4 (x l r : T) : body4 (s4 x l r .non (.val (placedT l r))) = neIf (hNeD (valuesT l r) (valuesT l r)) (s4 x l r .non (.val (placedT l r))) (cRet (ret (.bl false))) cNx := by kernel_rfl
theorem thenL_nx (s : S) (k : M Fl) : thenL (.ok .nx s) k = k s := rfl
theorem forL_nil (g : T → M Unit) (b : M Fl) (s : S) : cForL g b [] s = .ok .nx s := rfl
theorem st4a (x l r : T) (w : Slot) : c_law_4 (s4 x l r .non w) = thenL (body4 (s4 x l r .non (.val (placedT l r)))) (cForL (putU 4) body4 [placedT l r]) := by kernel_rfl
theorem st4b (x l r : T) : cForL (putU 4) body4 [placedT l r] (s4 x l r .non (.val (placedT l r))) = thenL (body4 (s4 x l r .non (.val (placedT l r)))) (cForL (putU 4) body4 []) := by kernel_rfl
theorem st4 (x l r : T) (w : Slot) (hl : Good 2 l) (hr : Good 2 r) : c_law_4 (s4 x l r .non w) = .ok .nx (s4 x l r .non (.val (placedT l r))) := by
  have hb : body4 (s4 x l r .non (.val (placedT l r))) = .ok .nx (s4 x l r .non (.val (placedT l r))) := by
    rw [b4, neIf_self (good_values hl hr) (by decide)]; rfl
  rw [st4a, hb, thenL_nx, st4b, hb, thenL_nx, forL_nil]
/-- the state behind the loop -/
def s5 (x l r : T) : S := s4 x l r .non (.val (placedT l r))
theorem st5a (x l r : T) : c_law_5 (s5 x l r) = neIf (hNeD (valuesT r l) (valuesT r l)) (s5 x l r) (cRet (ret (.bl false))) cNx := by kernel_rfl
theorem st6a (x l r : T) : c_law_6 (s5 x l r) = neIf (hNeD (valuesT .non .non) (valuesT .non .non)) (s5 x l r) (cRet (ret (.bl false))) cNx := by kernel_rfl
def s8 (x l r : T) : S := ⟨[.val x, .val (valuesT l r), .val (someT l r), .val (othT l r), .val (placedT l r), .val (placedT .non .non), un, un, un, .val l, .val r], []⟩
theorem st7 (x l r : T) : c_law_7 (s5 x l r) = .ok .nx (s8 x l r) := by kernel_rfl
theorem st8a (x l r : T) : c_law_8 (s8 x l r) = neIf (hNeD (valuesT .non .non) (valuesT .non .non)) (s8 x l r) (cRet (ret (.bl false))) cNx := by kernel_rfl
def shortT (l r : T) : T := .lst [.exn 15 [(4, .non), (3, l)], .exn 16 [(6, .non), (5, l)], .exn 15 [(4, r), (3, .non)], .exn 16 [(6, r), (5, .non)]]
def toldT (l : T) : T := .lst [l, .non, l, .non]
def toldR (r : T) : T := .lst [.non, r, .non, r]
def s11 (x l r : T) : S := ⟨[.val x, .val (valuesT l r), .val (someT l r), .val (othT l r), .val (placedT l r), .val (placedT .non .non), .val (shortT l r), .val (toldT l), un, .val l, .val r], []⟩
theorem st9 (x l r : T) : cSeq c_law_9 c_law_10 (s8 x l r) = .ok .nx (s11 x l r) := by kernel_rfl
theorem st11a (x l r : T) : c_law_11 (s11 x l r) = neIf (hNeD (toldT l) (toldT l)) (s11 x l r) (cRet (ret (.bl false))) cNx := by kernel_rfl
theorem st12a (x l r : T) : c_law_12 (s11 x l r) = neIf (hNeD (toldR r) (toldR r)) (s11 x l r) (cRet (ret (.bl false))) cNx := by kernel_rfl
theorem st13 (x l r : T) : ∃ s, cSeq c_law_13 (cSeq c_law_14 (cSeq c_law_15 c_law_16)) (s11 x l r) = .ok (.rt (.bl true)) s :=
  ⟨⟨[.val x, .val (valuesT l r), .val (someT l r), .val (othT l r), .val (placedT (.cell 0) (.cell 0)), .val (placedT .non .non), .val (shortT l r), .val (toldT l), .val (.cell 0), .val l, .val r], [some (.lst [l, r])]⟩, by kernel_rfl⟩
theorem good_told {l : T} (h : Good 2 l) : Good 3 (toldT l) := good_lst fun t ht => by
  simp only [List.mem_cons, List.not_mem_nil, or_false] at ht
  rcases ht with rfl | rfl | rfl | rfl <;> first | exact h | exact good_non
theorem good_toldR {l : T} (h : Good 2 l) : Good 3 (toldR l) := good_lst fun t ht => by
  simp only [List.mem_cons, List.not_mem_nil, or_false] at ht
  rcases ht with rfl | rfl | rfl | rfl <;> first | exact h | exact good_non
theorem seq_nx {a b : M Fl} {s s' : S} (h : a s = .ok .nx s') : cSeq a b s = b s' := by
  show (match a s with
    | .ok .nx s' => b s'
    | o => o) = _
  rw [h]
theorem seq_as (a b c : M Fl) (s : S) : cSeq a (cSeq b c) s = cSeq (cSeq a b) c s := by
  show (match a s with
    | .ok .nx s' => cSeq b c s'
    | o => o) = (match (match a s with
      | .ok .nx s' => b s'
      | o => o) with
    | .ok .nx s' => c s'
    | o => o)
  cases h : a s with
  | ok f s1 => cases f <;> rfl
  | exc k fs s1 => rfl
  | stuck => rfl
theorem if_nx {c : M Fl} {s : S} {t : T} {k : Nat} (e : c s = neIf (hNeD t t) s (cRet (ret (.bl false))) cNx) (h : Good k t) (hk : k ≤ 64) : c s = .ok .nx s := by
  rw [e, neIf_self h hk]; rfl
theorem rest (x l r : T) (hl : Good 2 l) (hr : Good 2 r) : ∃ s, cSeq c_law_1 (cSeq c_law_2 (cSeq c_law_3 (cSeq c_law_4 (cSeq c_law_5 (cSeq c_law_6 (cSeq c_law_7 (cSeq c_law_8 (cSeq c_law_9 (cSeq c_law_10 (cSeq c_law_11 (cSeq c_law_12 (cSeq c_law_13 (cSeq c_law_14 (cSeq c_law_15 c_law_16)))))))))))))) (s1 x l r) = .ok (.rt (.bl true)) s := by
  obtain ⟨s, h⟩ := st13 x l r
  refine ⟨s, ?_⟩
  rw [seq_nx (st1 x l r), seq_as, seq_nx (st23 x l r), seq_nx (st4 x l r un hl hr)]
  have e : s4 x l r .non (.val (placedT l r)) = s5 x l r := rfl
  rw [e, seq_nx (if_nx (st5a x l r) (good_values hr hl) (by decide)), seq_nx (if_nx (st6a x l r) (good_values good_non good_non) (by decide)), seq_nx (st7 x l r), seq_nx (if_nx (st8a x l r) (good_values good_non good_non) (by decide)), seq_as, seq_nx (st9 x l r),
    seq_nx (if_nx (st11a x l r) (good_told hl) (by decide)), seq_nx (if_nx (st12a x l r) (good_toldR hr) (by decide)), h]
theorem cut_map (ns : List Int) (lo hi : Option Int) : cutT (ns.map T.int) lo hi = (cutT ns lo hi).map T.int := by
  simp [cutT, List.map_take, List.map_drop]
theorem intsT_map (ns : List Int) : intsT (ns.map T.int) = some ns := by
  induction ns with
  | nil => rfl
  | cons n ns ih => simp [intsT, ih]
abbrev sumC (lo hi : M (Option Int)) : M T := cCallB (rCons (cv (cSl (cVar 0) lo hi hSlL)) rNil) (gL1 hSum)
theorem m_sum (ns : List Int) {lo hi : M (Option Int)} {a b : Option Int} (h1 : lo (s0 ns) = .ok a (s0 ns)) (h2 : hi (s0 ns) = .ok b (s0 ns)) : sumC lo hi (s0 ns) = .ok (.int (cutT ns a b).sum) (s0 ns) := by
  have e0 : cVar 0 (s0 ns) = .ok (.v (.lst (ns.map .int))) (s0 ns) := rfl
  simp only [sumC, cCallB, rCons, cv, cSl, bnd, Out.bind, e0, h1, h2, rNil, TL.ret]
  simp [look, view, hSlL, gL1, hSum, cut_map, intsT_map]
theorem m_call (ns : List Int) {c : M T} {n : Int} (h : c (s0 ns) = .ok (.int n) (s0 ns)) : ∃ v, cCall fn__law_thing 1 [] (cCons c cNil) (s0 ns) = .ok v (s0 ns) ∧ Good 2 v := by
  obtain ⟨v, e, g⟩ := m_thing n []
  refine ⟨v, ?_, g⟩
  simp only [cCall, cCons, cNil, bnd, Out.bind, h, TL.ret]
  simp [app, s0, e]
theorem st0 (ns : List Int) : ∃ l r, c_law_0 (s0 ns) = .ok .nx (s1 (.lst (ns.map .int)) l r) ∧ Good 2 l ∧ Good 2 r := by
  have a1 := m_sum ns (lo := oNone) (hi := oSome (ret (.int 1))) (a := none) (b := some 1) rfl rfl
  have a2 := m_sum ns (lo := oSome (ret (.int 1))) (hi := oSome (ret (.int 2))) (a := some 1) (b := some 2) rfl rfl
  obtain ⟨l, e1, g1⟩ := m_call ns a1
  have a3 : cBin (cv (sumC (oSome (ret (.int 1))) (oSome (ret (.int 2))))) (cv (ret (.int 3))) gAdd (s0 ns) = .ok (.int ((cutT ns (some 1) (some 2)).sum + 3)) (s0 ns) := by
    simp only [cBin, cv, bnd, Out.bind, a2, TL.ret]
    rfl
  obtain ⟨r, e2, g2⟩ := m_call ns a3
  refine ⟨l, r, ?_, g1, g2⟩
  have e3 : c_law_0 (s0 ns) = (cPar 9 10 (cCons (cCall fn__law_thing 1 [] (cCons (sumC oNone (oSome (TL.ret (.int 1)))) cNil)) (cCons (cCall fn__law_thing 1 [] (cCons (cBin (cv (sumC (oSome (TL.ret (.int 1))) (oSome (TL.ret (.int 2))))) (cv (TL.ret (.int 3))) gAdd) cNil)) cNil))) (s0 ns) := rfl
  rw [e3]
  generalize cCall fn__law_thing 1 [] (cCons (sumC oNone (oSome (TL.ret (.int 1)))) cNil) = A at e1 ⊢
  generalize cCall fn__law_thing 1 [] (cCons (cBin (cv (sumC (oSome (TL.ret (.int 1))) (oSome (TL.ret (.int 2))))) (cv (TL.ret (.int 3))) gAdd) cNil) = A2 at e2 ⊢
  simp only [cPar, cCons, bnd, Out.bind, e1, e2, cNil, TL.ret]
  rfl
theorem law_true (ns : List Int) : ∃ c', fn_law [.lst (ns.map .int)] [] = .ok (.bl true) c' := by
  obtain ⟨l, r, e, hl, hr⟩ := st0 ns
  obtain ⟨s, h⟩ := rest (.lst (ns.map .int)) l r hl hr
  refine ⟨s.c, ?_⟩
  have e2 : c_law (s0 ns) = .ok (.rt (.bl true)) s := by
    unfold c_law
    rw [seq_nx e]
    exact h
  have e3 : fn_law [.lst (ns.map .int)] [] = (match c_law (s0 ns) with
    | .ok (.rt t) s => .ok t s.c
    | .ok .nx s => .ok .non s.c
    | .ok _ _ => .stuck
    | .exc k fs s => .exc k fs s.c
    | .stuck => .stuck) := rfl
  rw [e3, e2]
end Walk
namespace Walk
open PySem PySem.Spec L2 He TL
open PyProof.Rows hiding St
abbrev pw : Program := PySem.Challenge.pw_betweenlists_k01_errors_made
theorem tp_super : (pw.main.scope.names.lookup ("super" : PySem.Str)).isSome = false := by decide +kernel
theorem bt_super : bootBuiltins "super" = some (.type "super") := by kernel_rfl
def topm (i j : Nat) : Stmt := (C8.clsBody (top i)).getD j (.Pass ⟨0, 0, 0, 0⟩)
abbrev sm_InvalidName : Stmt := topm 2 0
def xd_InvalidName : XD := ⟨"InvalidName", "InvalidName.__init__", defArgs sm_InvalidName, defBody sm_InvalidName, defScope sm_InvalidName, 1⟩
abbrev sm_InvalidPlace : Stmt := topm 3 0
def xd_InvalidPlace : XD := ⟨"InvalidPlace", "InvalidPlace.__init__", defArgs sm_InvalidPlace, defBody sm_InvalidPlace, defScope sm_InvalidPlace, 1⟩
abbrev sm_InvalidForm : Stmt := topm 4 0
def xd_InvalidForm : XD := ⟨"InvalidForm", "InvalidForm.__init__", defArgs sm_InvalidForm, defBody sm_InvalidForm, defScope sm_InvalidForm, 1⟩
abbrev sm_InvalidLook : Stmt := topm 5 0
def xd_InvalidLook : XD := ⟨"InvalidLook", "InvalidLook.__init__", defArgs sm_InvalidLook, defBody sm_InvalidLook, defScope sm_InvalidLook, 1⟩
abbrev sm_InvalidLog : Stmt := topm 6 0
def xd_InvalidLog : XD := ⟨"InvalidLog", "InvalidLog.__init__", defArgs sm_InvalidLog, defBody sm_InvalidLog, defScope sm_InvalidLog, 1⟩
abbrev sm_InvalidRules : Stmt := topm 7 0
def xd_InvalidRules : XD := ⟨"InvalidRules", "InvalidRules.__init__", defArgs sm_InvalidRules, defBody sm_InvalidRules, defScope sm_InvalidRules, 1⟩
abbrev sm_InvalidDemand : Stmt := topm 8 0
def xd_InvalidDemand : XD := ⟨"InvalidDemand", "InvalidDemand.__init__", defArgs sm_InvalidDemand, defBody sm_InvalidDemand, defScope sm_InvalidDemand, 1⟩
abbrev sm_InvalidStory : Stmt := topm 9 0
def xd_InvalidStory : XD := ⟨"InvalidStory", "InvalidStory.__init__", defArgs sm_InvalidStory, defBody sm_InvalidStory, defScope sm_InvalidStory, 1⟩
abbrev sm_InvalidChange : Stmt := topm 10 0
def xd_InvalidChange : XD := ⟨"InvalidChange", "InvalidChange.__init__", defArgs sm_InvalidChange, defBody sm_InvalidChange, defScope sm_InvalidChange, 1⟩
abbrev sm_InvalidNumber : Stmt := topm 11 0
def xd_InvalidNumber : XD := ⟨"InvalidNumber", "InvalidNumber.__init__", defArgs sm_InvalidNumber, defBody sm_InvalidNumber, defScope sm_InvalidNumber, 1⟩
abbrev sm_InvalidList : Stmt := topm 12 0
def xd_InvalidList : XD := ⟨"InvalidList", "InvalidList.__init__", defArgs sm_InvalidList, defBody sm_InvalidList, defScope sm_InvalidList, 1⟩
abbrev sm_InvalidText : Stmt := topm 13 0
def xd_InvalidText : XD := ⟨"InvalidText", "InvalidText.__init__", defArgs sm_InvalidText, defBody sm_InvalidText, defScope sm_InvalidText, 1⟩
abbrev sm_Missing : Stmt := topm 14 0
def xd_Missing : XD := ⟨"Missing", "Missing.__init__", defArgs sm_Missing, defBody sm_Missing, defScope sm_Missing, 1⟩
abbrev sm_Occupied : Stmt := topm 15 0
def xd_Occupied : XD := ⟨"Occupied", "Occupied.__init__", defArgs sm_Occupied, defBody sm_Occupied, defScope sm_Occupied, 1⟩
abbrev sm_Barred : Stmt := topm 16 0
def xd_Barred : XD := ⟨"Barred", "Barred.__init__", defArgs sm_Barred, defBody sm_Barred, defScope sm_Barred, 2⟩
abbrev sm_Failed : Stmt := topm 17 0
def xd_Failed : XD := ⟨"Failed", "Failed.__init__", defArgs sm_Failed, defBody sm_Failed, defScope sm_Failed, 2⟩
def fa : List Fa := [.free "isinstance", .free "enumerate", .free "range", .free "ValueError", .free "int", .free "sum", .glo "InvalidName", .glo "InvalidPlace", .glo "InvalidForm", .glo "InvalidLook", .glo "InvalidLog", .glo "InvalidRules", .glo "InvalidDemand", .glo "InvalidStory", .glo "InvalidChange", .glo "InvalidNumber", .glo "InvalidList", .glo "InvalidText", .glo "Missing", .glo "Occupied", .glo "Barred", .glo "Failed", .glo "Closed", .glo "BetweenError", .glo "_law_kinds", .glo "_law_right", .glo "_law_values", .glo "_law_placed", .glo "_law_named", .glo "_law_bare", .glo "_law_thing", .glo "law", .free "super"]
def fn : List DefD := [⟨("_law_kinds", none), "_law_kinds", "_law_kinds", defArgs st__law_kinds, defBody st__law_kinds, defScope st__law_kinds, [], []⟩, ⟨("_law_right", none), "_law_right", "_law_right", defArgs st__law_right, defBody st__law_right, defScope st__law_right, [], []⟩, ⟨("_law_values", none), "_law_values", "_law_values", defArgs st__law_values, defBody st__law_values, defScope st__law_values, [], []⟩, ⟨("_law_placed", none), "_law_placed", "_law_placed", defArgs st__law_placed, defBody st__law_placed, defScope st__law_placed, [], []⟩, ⟨("_law_named", none), "_law_named", "_law_named", defArgs st__law_named, defBody st__law_named, defScope st__law_named, [], []⟩, ⟨("_law_bare", none), "_law_bare", "_law_bare", defArgs st__law_bare, defBody st__law_bare, defScope st__law_bare, [], []⟩, ⟨("_law_thing", none), "_law_thing", "_law_thing", defArgs st__law_thing, defBody st__law_thing, defScope st__law_thing, [], []⟩, ⟨("law", none), "law", "law", defArgs st_law, defBody st_law, defScope st_law, [], []⟩]
def xs : List XD := [xd_InvalidName, xd_InvalidPlace, xd_InvalidForm, xd_InvalidLook, xd_InvalidLog, xd_InvalidRules, xd_InvalidDemand, xd_InvalidStory, xd_InvalidChange, xd_InvalidNumber, xd_InvalidList, xd_InvalidText, xd_Missing, xd_Occupied, xd_Barred, xd_Failed]
def exf (K : PySem.W.Frag) : Bool := (xs.all fun d => d.ok pw.main.file K) && ((xs.all fun d => xclsB K (ga K d.cls) && initB K d.cls) && (tabB (Zk K) (.ref (ga K "InvalidName")) [] [] [(0, false), (1, true), (2, false), (3, false), (4, false), (5, false), (6, false), (7, false), (8, false), (9, false), (10, false), (11, false), (12, false), (13, false), (14, false), (15, false), (16, false), (17, false)] && (tabB (Zk K) (.ref (ga K "InvalidPlace")) [] [] [(0, false), (1, false), (2, true), (3, false), (4, false), (5, false), (6, false), (7, false), (8, false), (9, false), (10, false), (11, false), (12, false), (13, false), (14, false), (15, false), (16, false), (17, false)] && (tabB (Zk K) (.ref (ga K "InvalidForm")) [] [] [(0, false), (1, false), (2, false), (3, true), (4, false), (5, false), (6, false), (7, false), (8, false), (9, false), (10, false), (11, false), (12, false), (13, false), (14, false), (15, false), (16, false), (17, false)] && (tabB (Zk K) (.ref (ga K "InvalidLook")) [] [] [(0, false), (1, false), (2, false), (3, false), (4, true), (5, false), (6, false), (7, false), (8, false), (9, false), (10, false), (11, false), (12, false), (13, false), (14, false), (15, false), (16, false), (17, false)] && (tabB (Zk K) (.ref (ga K "InvalidLog")) [] [] [(0, false), (1, false), (2, false), (3, false), (4, false), (5, true), (6, false), (7, false), (8, false), (9, false), (10, false), (11, false), (12, false), (13, false), (14, false), (15, false), (16, false), (17, false)] && (tabB (Zk K) (.ref (ga K "InvalidRules")) [] [] [(0, false), (1, false), (2, false), (3, false), (4, false), (5, false), (6, true), (7, false), (8, false), (9, false), (10, false), (11, false), (12, false), (13, false), (14, false), (15, false), (16, false), (17, false)] && (tabB (Zk K) (.ref (ga K "InvalidDemand")) [] [] [(0, false), (1, false), (2, false), (3, false), (4, false), (5, false), (6, false), (7, true), (8, false), (9, false), (10, false), (11, false), (12, false), (13, false), (14, false), (15, false), (16, false), (17, false)] && (tabB (Zk K) (.ref (ga K "InvalidStory")) [] [] [(0, false), (1, false), (2, false), (3, false), (4, false), (5, false), (6, false), (7, false), (8, true), (9, false), (10, false), (11, false), (12, false), (13, false), (14, false), (15, false), (16, false), (17, false)] && (tabB (Zk K) (.ref (ga K "InvalidChange")) [] [] [(0, false), (1, false), (2, false), (3, false), (4, false), (5, false), (6, false), (7, false), (8, false), (9, true), (10, false), (11, false), (12, false), (13, false), (14, false), (15, false), (16, false), (17, false)] && (tabB (Zk K) (.ref (ga K "InvalidNumber")) [] [] [(0, false), (1, false), (2, false), (3, false), (4, false), (5, false), (6, false), (7, false), (8, false), (9, false), (10, true), (11, false), (12, false), (13, false), (14, false), (15, false), (16, false), (17, false)] && (tabB (Zk K) (.ref (ga K "InvalidList")) [] [] [(0, false), (1, false), (2, false), (3, false), (4, false), (5, false), (6, false), (7, false), (8, false), (9, false), (10, false), (11, true), (12, false), (13, false), (14, false), (15, false), (16, false), (17, false)] && (tabB (Zk K) (.ref (ga K "InvalidText")) [] [] [(0, false), (1, false), (2, false), (3, false), (4, false), (5, false), (6, false), (7, false), (8, false), (9, false), (10, false), (11, false), (12, true), (13, false), (14, false), (15, false), (16, false), (17, false)] && (tabB (Zk K) (.ref (ga K "Missing")) [] [] [(0, false), (1, false), (2, false), (3, false), (4, false), (5, false), (6, false), (7, false), (8, false), (9, false), (10, false), (11, false), (12, false), (13, true), (14, false), (15, false), (16, false), (17, false)] && (tabB (Zk K) (.ref (ga K "Occupied")) [] [] [(0, false), (1, false), (2, false), (3, false), (4, false), (5, false), (6, false), (7, false), (8, false), (9, false), (10, false), (11, false), (12, false), (13, false), (14, true), (15, false), (16, false), (17, false)] && (tabB (Zk K) (.ref (ga K "Barred")) [] [] [(0, false), (1, false), (2, false), (3, false), (4, false), (5, false), (6, false), (7, false), (8, false), (9, false), (10, false), (11, false), (12, false), (13, false), (14, false), (15, true), (16, false), (17, false)] && (tabB (Zk K) (.ref (ga K "Failed")) [] [] [(0, false), (1, false), (2, false), (3, false), (4, false), (5, false), (6, false), (7, false), (8, false), (9, false), (10, false), (11, false), (12, false), (13, false), (14, false), (15, false), (16, true), (17, false)] && (tabB (Zk K) (.ref (ga K "Closed")) [] [] [(0, false), (1, false), (2, false), (3, false), (4, false), (5, false), (6, false), (7, false), (8, false), (9, false), (10, false), (11, false), (12, false), (13, false), (14, false), (15, false), (16, false), (17, true)] && (tabB (Zk K) (.ref (ga K "BetweenError")) [] [] [(0, true), (1, true), (2, true), (3, true), (4, true), (5, true), (6, true), (7, true), (8, true), (9, true), (10, true), (11, true), (12, true), (13, true), (14, true), (15, true), (16, true), (17, true)] && (tabB (Zk K) (.type "ValueError") [] [] [(0, true), (1, true), (2, true), (3, true), (4, true), (5, true), (6, true), (7, true), (8, true), (9, true), (10, true), (11, true), (12, true), (13, true), (14, true), (15, true), (16, true), (17, true)] && (xfkB (Zk K) xf_value 0 && (xfkB (Zk K) xf_line 1 && (xfkB (Zk K) xf_place 2 && (xfkB (Zk K) xf_one 3 && (xfkB (Zk K) xf_other 4 && (xfkB (Zk K) xf_step 5 && (xfkB (Zk K) xf_why 6 && (PySem.W.excIn K ((Zk K).cls 0) veBase "ValueError.__new__" && (PySem.W.keepIn K (.ref ((Zk K).cls 0)) && (PySem.W.excIn K ((Zk K).cls 17) veBase "ValueError.__new__" && (PySem.W.keepIn K (.ref ((Zk K).cls 17)) && (eqO (PySem.W.findIn K (.ref (ga K "InvalidName")) "value") (some none) && (eqO (PySem.W.findIn K (.ref (ga K "InvalidPlace")) "value") (some none) && (eqO (PySem.W.findIn K (.ref (ga K "InvalidForm")) "value") (some none) && (eqO (PySem.W.findIn K (.ref (ga K "InvalidLook")) "value") (some none) && (eqO (PySem.W.findIn K (.ref (ga K "InvalidLog")) "value") (some none) && (eqO (PySem.W.findIn K (.ref (ga K "InvalidRules")) "value") (some none) && (eqO (PySem.W.findIn K (.ref (ga K "InvalidDemand")) "value") (some none) && (eqO (PySem.W.findIn K (.ref (ga K "InvalidStory")) "value") (some none) && (eqO (PySem.W.findIn K (.ref (ga K "InvalidChange")) "value") (some none) && (eqO (PySem.W.findIn K (.ref (ga K "InvalidNumber")) "value") (some none) && (eqO (PySem.W.findIn K (.ref (ga K "InvalidList")) "value") (some none) && (eqO (PySem.W.findIn K (.ref (ga K "InvalidText")) "line") (some none) && (eqO (PySem.W.findIn K (.ref (ga K "Missing")) "place") (some none) && (eqO (PySem.W.findIn K (.ref (ga K "Occupied")) "place") (some none) && (eqO (PySem.W.findIn K (.ref (ga K "Barred")) "one") (some none) && (eqO (PySem.W.findIn K (.ref (ga K "Barred")) "other") (some none) && (eqO (PySem.W.findIn K (.ref (ga K "Failed")) "step") (some none) && (eqO (PySem.W.findIn K (.ref (ga K "Failed")) "why") (some none) && (true))))))))))))))))))))))))))))))))))))))))))))))))))
theorem xi_InvalidName {t : Tx} {F : NdefX.NF} {f : Addr} {fd : FuncData} {dV : Value} (D : XDef t.K t.P.main.file xd_InvalidName F f fd dV) (hx : xclsB t.K (ga t.K "InvalidName") = true) (hn0 : PySem.W.findIn t.K (.ref (ga t.K "InvalidName")) "value" = some none) (sm : t.mg "super" = none) (tp : (t.P.main.scope.names.lookup ("super" : PySem.Str)).isSome = false) :
    FnOk t.P t.w t.K t.mg t.base (L2.CX t.P t.w) 1 f fd ["self", "value"] (spX (ga t.K "InvalidName") ["value"]) :=
  fn_x1 (D.sup (N := ["self", "value", "__class__"]) (NdefX.nscope_by (by decide +kernel)) rfl ⟨_, rfl, rfl⟩ rfl sm tp) bt_super (xclsB_ok hx) (D.eF.2.2.2.1.trans rfl) hn0
theorem xi_InvalidPlace {t : Tx} {F : NdefX.NF} {f : Addr} {fd : FuncData} {dV : Value} (D : XDef t.K t.P.main.file xd_InvalidPlace F f fd dV) (hx : xclsB t.K (ga t.K "InvalidPlace") = true) (hn0 : PySem.W.findIn t.K (.ref (ga t.K "InvalidPlace")) "value" = some none) (sm : t.mg "super" = none) (tp : (t.P.main.scope.names.lookup ("super" : PySem.Str)).isSome = false) :
    FnOk t.P t.w t.K t.mg t.base (L2.CX t.P t.w) 1 f fd ["self", "value"] (spX (ga t.K "InvalidPlace") ["value"]) :=
  fn_x1 (D.sup (N := ["self", "value", "__class__"]) (NdefX.nscope_by (by decide +kernel)) rfl ⟨_, rfl, rfl⟩ rfl sm tp) bt_super (xclsB_ok hx) (D.eF.2.2.2.1.trans rfl) hn0
theorem xi_InvalidForm {t : Tx} {F : NdefX.NF} {f : Addr} {fd : FuncData} {dV : Value} (D : XDef t.K t.P.main.file xd_InvalidForm F f fd dV) (hx : xclsB t.K (ga t.K "InvalidForm") = true) (hn0 : PySem.W.findIn t.K (.ref (ga t.K "InvalidForm")) "value" = some none) (sm : t.mg "super" = none) (tp : (t.P.main.scope.names.lookup ("super" : PySem.Str)).isSome = false) :
    FnOk t.P t.w t.K t.mg t.base (L2.CX t.P t.w) 1 f fd ["self", "value"] (spX (ga t.K "InvalidForm") ["value"]) :=
  fn_x1 (D.sup (N := ["self", "value", "__class__"]) (NdefX.nscope_by (by decide +kernel)) rfl ⟨_, rfl, rfl⟩ rfl sm tp) bt_super (xclsB_ok hx) (D.eF.2.2.2.1.trans rfl) hn0
theorem xi_InvalidLook {t : Tx} {F : NdefX.NF} {f : Addr} {fd : FuncData} {dV : Value} (D : XDef t.K t.P.main.file xd_InvalidLook F f fd dV) (hx : xclsB t.K (ga t.K "InvalidLook") = true) (hn0 : PySem.W.findIn t.K (.ref (ga t.K "InvalidLook")) "value" = some none) (sm : t.mg "super" = none) (tp : (t.P.main.scope.names.lookup ("super" : PySem.Str)).isSome = false) :
    FnOk t.P t.w t.K t.mg t.base (L2.CX t.P t.w) 1 f fd ["self", "value"] (spX (ga t.K "InvalidLook") ["value"]) :=
  fn_x1 (D.sup (N := ["self", "value", "__class__"]) (NdefX.nscope_by (by decide +kernel)) rfl ⟨_, rfl, rfl⟩ rfl sm tp) bt_super (xclsB_ok hx) (D.eF.2.2.2.1.trans rfl) hn0
theorem xi_InvalidLog {t : Tx} {F : NdefX.NF} {f : Addr} {fd : FuncData} {dV : Value} (D : XDef t.K t.P.main.file xd_InvalidLog F f fd dV) (hx : xclsB t.K (ga t.K "InvalidLog") = true) (hn0 : PySem.W.findIn t.K (.ref (ga t.K "InvalidLog")) "value" = some none) (sm : t.mg "super" = none) (tp : (t.P.main.scope.names.lookup ("super" : PySem.Str)).isSome = false) :
    FnOk t.P t.w t.K t.mg t.base (L2.CX t.P t.w) 1 f fd ["self", "value"] (spX (ga t.K "InvalidLog") ["value"]) :=
  fn_x1 (D.sup (N := ["self", "value", "__class__"]) (NdefX.nscope_by (by decide +kernel)) rfl ⟨_, rfl, rfl⟩ rfl sm tp) bt_super (xclsB_ok hx) (D.eF.2.2.2.1.trans rfl) hn0
theorem xi_InvalidRules {t : Tx} {F : NdefX.NF} {f : Addr} {fd : FuncData} {dV : Value} (D : XDef t.K t.P.main.file xd_InvalidRules F f fd dV) (hx : xclsB t.K (ga t.K "InvalidRules") = true) (hn0 : PySem.W.findIn t.K (.ref (ga t.K "InvalidRules")) "value" = some none) (sm : t.mg "super" = none) (tp : (t.P.main.scope.names.lookup ("super" : PySem.Str)).isSome = false) :
    FnOk t.P t.w t.K t.mg t.base (L2.CX t.P t.w) 1 f fd ["self", "value"] (spX (ga t.K "InvalidRules") ["value"]) :=
  fn_x1 (D.sup (N := ["self", "value", "__class__"]) (NdefX.nscope_by (by decide +kernel)) rfl ⟨_, rfl, rfl⟩ rfl sm tp) bt_super (xclsB_ok hx) (D.eF.2.2.2.1.trans rfl) hn0
theorem xi_InvalidDemand {t : Tx} {F : NdefX.NF} {f : Addr} {fd : FuncData} {dV : Value} (D : XDef t.K t.P.main.file xd_InvalidDemand F f fd dV) (hx : xclsB t.K (ga t.K "InvalidDemand") = true) (hn0 : PySem.W.findIn t.K (.ref (ga t.K "InvalidDemand")) "value" = some none) (sm : t.mg "super" = none) (tp : (t.P.main.scope.names.lookup ("super" : PySem.Str)).isSome = false) :
    FnOk t.P t.w t.K t.mg t.base (L2.CX t.P t.w) 1 f fd ["self", "value"] (spX (ga t.K "InvalidDemand") ["value"]) :=
  fn_x1 (D.sup (N := ["self", "value", "__class__"]) (NdefX.nscope_by (by decide +kernel)) rfl ⟨_, rfl, rfl⟩ rfl sm tp) bt_super (xclsB_ok hx) (D.eF.2.2.2.1.trans rfl) hn0
theorem xi_InvalidStory {t : Tx} {F : NdefX.NF} {f : Addr} {fd : FuncData} {dV : Value} (D : XDef t.K t.P.main.file xd_InvalidStory F f fd dV) (hx : xclsB t.K (ga t.K "InvalidStory") = true) (hn0 : PySem.W.findIn t.K (.ref (ga t.K "InvalidStory")) "value" = some none) (sm : t.mg "super" = none) (tp : (t.P.main.scope.names.lookup ("super" : PySem.Str)).isSome = false) :
    FnOk t.P t.w t.K t.mg t.base (L2.CX t.P t.w) 1 f fd ["self", "value"] (spX (ga t.K "InvalidStory") ["value"]) :=
  fn_x1 (D.sup (N := ["self", "value", "__class__"]) (NdefX.nscope_by (by decide +kernel)) rfl ⟨_, rfl, rfl⟩ rfl sm tp) bt_super (xclsB_ok hx) (D.eF.2.2.2.1.trans rfl) hn0
theorem xi_InvalidChange {t : Tx} {F : NdefX.NF} {f : Addr} {fd : FuncData} {dV : Value} (D : XDef t.K t.P.main.file xd_InvalidChange F f fd dV) (hx : xclsB t.K (ga t.K "InvalidChange") = true) (hn0 : PySem.W.findIn t.K (.ref (ga t.K "InvalidChange")) "value" = some none) (sm : t.mg "super" = none) (tp : (t.P.main.scope.names.lookup ("super" : PySem.Str)).isSome = false) :
    FnOk t.P t.w t.K t.mg t.base (L2.CX t.P t.w) 1 f fd ["self", "value"] (spX (ga t.K "InvalidChange") ["value"]) :=
  fn_x1 (D.sup (N := ["self", "value", "__class__"]) (NdefX.nscope_by (by decide +kernel)) rfl ⟨_, rfl, rfl⟩ rfl sm tp) bt_super (xclsB_ok hx) (D.eF.2.2.2.1.trans rfl) hn0
theorem xi_InvalidNumber {t : Tx} {F : NdefX.NF} {f : Addr} {fd : FuncData} {dV : Value} (D : XDef t.K t.P.main.file xd_InvalidNumber F f fd dV) (hx : xclsB t.K (ga t.K "InvalidNumber") = true) (hn0 : PySem.W.findIn t.K (.ref (ga t.K "InvalidNumber")) "value" = some none) (sm : t.mg "super" = none) (tp : (t.P.main.scope.names.lookup ("super" : PySem.Str)).isSome = false) :
    FnOk t.P t.w t.K t.mg t.base (L2.CX t.P t.w) 1 f fd ["self", "value"] (spX (ga t.K "InvalidNumber") ["value"]) :=
  fn_x1 (D.sup (N := ["self", "value", "__class__"]) (NdefX.nscope_by (by decide +kernel)) rfl ⟨_, rfl, rfl⟩ rfl sm tp) bt_super (xclsB_ok hx) (D.eF.2.2.2.1.trans rfl) hn0
theorem xi_InvalidList {t : Tx} {F : NdefX.NF} {f : Addr} {fd : FuncData} {dV : Value} (D : XDef t.K t.P.main.file xd_InvalidList F f fd dV) (hx : xclsB t.K (ga t.K "InvalidList") = true) (hn0 : PySem.W.findIn t.K (.ref (ga t.K "InvalidList")) "value" = some none) (sm : t.mg "super" = none) (tp : (t.P.main.scope.names.lookup ("super" : PySem.Str)).isSome = false) :
    FnOk t.P t.w t.K t.mg t.base (L2.CX t.P t.w) 1 f fd ["self", "value"] (spX (ga t.K "InvalidList") ["value"]) :=
  fn_x1 (D.sup (N := ["self", "value", "__class__"]) (NdefX.nscope_by (by decide +kernel)) rfl ⟨_, rfl, rfl⟩ rfl sm tp) bt_super (xclsB_ok hx) (D.eF.2.2.2.1.trans rfl) hn0
theorem xi_InvalidText {t : Tx} {F : NdefX.NF} {f : Addr} {fd : FuncData} {dV : Value} (D : XDef t.K t.P.main.file xd_InvalidText F f fd dV) (hx : xclsB t.K (ga t.K "InvalidText") = true) (hn0 : PySem.W.findIn t.K (.ref (ga t.K "InvalidText")) "line" = some none) (sm : t.mg "super" = none) (tp : (t.P.main.scope.names.lookup ("super" : PySem.Str)).isSome = false) :
    FnOk t.P t.w t.K t.mg t.base (L2.CX t.P t.w) 1 f fd ["self", "line"] (spX (ga t.K "InvalidText") ["line"]) :=
  fn_x1 (D.sup (N := ["self", "line", "__class__"]) (NdefX.nscope_by (by decide +kernel)) rfl ⟨_, rfl, rfl⟩ rfl sm tp) bt_super (xclsB_ok hx) (D.eF.2.2.2.1.trans rfl) hn0
theorem xi_Missing {t : Tx} {F : NdefX.NF} {f : Addr} {fd : FuncData} {dV : Value} (D : XDef t.K t.P.main.file xd_Missing F f fd dV) (hx : xclsB t.K (ga t.K "Missing") = true) (hn0 : PySem.W.findIn t.K (.ref (ga t.K "Missing")) "place" = some none) (sm : t.mg "super" = none) (tp : (t.P.main.scope.names.lookup ("super" : PySem.Str)).isSome = false) :
    FnOk t.P t.w t.K t.mg t.base (L2.CX t.P t.w) 1 f fd ["self", "place"] (spX (ga t.K "Missing") ["place"]) :=
  fn_x1 (D.sup (N := ["self", "place", "__class__"]) (NdefX.nscope_by (by decide +kernel)) rfl ⟨_, rfl, rfl⟩ rfl sm tp) bt_super (xclsB_ok hx) (D.eF.2.2.2.1.trans rfl) hn0
theorem xi_Occupied {t : Tx} {F : NdefX.NF} {f : Addr} {fd : FuncData} {dV : Value} (D : XDef t.K t.P.main.file xd_Occupied F f fd dV) (hx : xclsB t.K (ga t.K "Occupied") = true) (hn0 : PySem.W.findIn t.K (.ref (ga t.K "Occupied")) "place" = some none) (sm : t.mg "super" = none) (tp : (t.P.main.scope.names.lookup ("super" : PySem.Str)).isSome = false) :
    FnOk t.P t.w t.K t.mg t.base (L2.CX t.P t.w) 1 f fd ["self", "place"] (spX (ga t.K "Occupied") ["place"]) :=
  fn_x1 (D.sup (N := ["self", "place", "__class__"]) (NdefX.nscope_by (by decide +kernel)) rfl ⟨_, rfl, rfl⟩ rfl sm tp) bt_super (xclsB_ok hx) (D.eF.2.2.2.1.trans rfl) hn0
theorem xi_Barred {t : Tx} {F : NdefX.NF} {f : Addr} {fd : FuncData} {dV : Value} (D : XDef t.K t.P.main.file xd_Barred F f fd dV) (hx : xclsB t.K (ga t.K "Barred") = true) (hn0 : PySem.W.findIn t.K (.ref (ga t.K "Barred")) "one" = some none) (hn1 : PySem.W.findIn t.K (.ref (ga t.K "Barred")) "other" = some none) (sm : t.mg "super" = none) (tp : (t.P.main.scope.names.lookup ("super" : PySem.Str)).isSome = false) :
    FnOk t.P t.w t.K t.mg t.base (L2.CX t.P t.w) 1 f fd ["self", "one", "other"] (spX (ga t.K "Barred") ["one", "other"]) :=
  fn_x2 (D.sup (N := ["self", "one", "other", "__class__"]) (NdefX.nscope_by (by decide +kernel)) rfl ⟨_, rfl, rfl⟩ rfl sm tp) bt_super (xclsB_ok hx) (D.eF.2.2.2.1.trans rfl) hn0 hn1
theorem xi_Failed {t : Tx} {F : NdefX.NF} {f : Addr} {fd : FuncData} {dV : Value} (D : XDef t.K t.P.main.file xd_Failed F f fd dV) (hx : xclsB t.K (ga t.K "Failed") = true) (hn0 : PySem.W.findIn t.K (.ref (ga t.K "Failed")) "step" = some none) (hn1 : PySem.W.findIn t.K (.ref (ga t.K "Failed")) "why" = some none) (sm : t.mg "super" = none) (tp : (t.P.main.scope.names.lookup ("super" : PySem.Str)).isSome = false) :
    FnOk t.P t.w t.K t.mg t.base (L2.CX t.P t.w) 1 f fd ["self", "step", "why"] (spX (ga t.K "Failed") ["step", "why"]) :=
  fn_x2 (D.sup (N := ["self", "step", "why", "__class__"]) (NdefX.nscope_by (by decide +kernel)) rfl ⟨_, rfl, rfl⟩ rfl sm tp) bt_super (xclsB_ok hx) (D.eF.2.2.2.1.trans rfl) hn0 hn1
def dLaw : DefD := ⟨("law", none), "law", "law", defArgs st_law, defBody st_law, defScope st_law, [], []⟩
theorem fs {w : World} {K : PySem.W.Frag} {h : Heap} {mg : PySem.Str → Option Value} {base : Heap} (X : K.In h) (G : h.Ns mainGlobals mg) (c : SaysY fa fn xs exf K) : Fs ⟨pw, w, K, mg, base⟩ := by
  have e := c.e
  obtain ⟨e0, e⟩ := ba e
  obtain ⟨e1, e⟩ := ba e
  obtain ⟨e2, e⟩ := ba e
  obtain ⟨e3, e⟩ := ba e
  obtain ⟨e4, e⟩ := ba e
  obtain ⟨e5, e⟩ := ba e
  obtain ⟨e6, e⟩ := ba e
  obtain ⟨e7, e⟩ := ba e
  obtain ⟨e8, e⟩ := ba e
  obtain ⟨e9, e⟩ := ba e
  obtain ⟨e10, e⟩ := ba e
  obtain ⟨e11, e⟩ := ba e
  obtain ⟨e12, e⟩ := ba e
  obtain ⟨e13, e⟩ := ba e
  obtain ⟨e14, e⟩ := ba e
  obtain ⟨e15, e⟩ := ba e
  obtain ⟨e16, e⟩ := ba e
  obtain ⟨e17, e⟩ := ba e
  obtain ⟨e18, e⟩ := ba e
  obtain ⟨e19, e⟩ := ba e
  obtain ⟨e20, e⟩ := ba e
  obtain ⟨e21, e⟩ := ba e
  obtain ⟨e22, e⟩ := ba e
  obtain ⟨e23, e⟩ := ba e
  obtain ⟨e24, e⟩ := ba e
  obtain ⟨e25, e⟩ := ba e
  obtain ⟨e26, e⟩ := ba e
  obtain ⟨e27, e⟩ := ba e
  obtain ⟨e28, e⟩ := ba e
  obtain ⟨e29, e⟩ := ba e
  obtain ⟨e30, e⟩ := ba e
  obtain ⟨e31, e⟩ := ba e
  obtain ⟨e32, e⟩ := ba e
  obtain ⟨e33, e⟩ := ba e
  obtain ⟨e34, e⟩ := ba e
  obtain ⟨e35, e⟩ := ba e
  obtain ⟨e36, e⟩ := ba e
  obtain ⟨e37, e⟩ := ba e
  obtain ⟨e38, e⟩ := ba e
  obtain ⟨e39, e⟩ := ba e
  obtain ⟨e40, e⟩ := ba e
  obtain ⟨e41, e⟩ := ba e
  obtain ⟨e42, e⟩ := ba e
  obtain ⟨e43, e⟩ := ba e
  obtain ⟨e44, e⟩ := ba e
  obtain ⟨e45, e⟩ := ba e
  obtain ⟨e46, e⟩ := ba e
  obtain ⟨e47, e⟩ := ba e
  obtain ⟨e48, e⟩ := ba e
  obtain ⟨e49, e⟩ := ba e
  obtain ⟨F0, fd0, dV0, D0⟩ := c.xd e0 0 (d := xd_InvalidName)
  obtain ⟨k0, i0⟩ := ba (List.all_eq_true.mp e1 xd_InvalidName (List.mem_of_getElem? (i := 0) rfl))
  obtain ⟨F1, fd1, dV1, D1⟩ := c.xd e0 1 (d := xd_InvalidPlace)
  obtain ⟨k1, i1⟩ := ba (List.all_eq_true.mp e1 xd_InvalidPlace (List.mem_of_getElem? (i := 1) rfl))
  obtain ⟨F2, fd2, dV2, D2⟩ := c.xd e0 2 (d := xd_InvalidForm)
  obtain ⟨k2, i2⟩ := ba (List.all_eq_true.mp e1 xd_InvalidForm (List.mem_of_getElem? (i := 2) rfl))
  obtain ⟨F3, fd3, dV3, D3⟩ := c.xd e0 3 (d := xd_InvalidLook)
  obtain ⟨k3, i3⟩ := ba (List.all_eq_true.mp e1 xd_InvalidLook (List.mem_of_getElem? (i := 3) rfl))
  obtain ⟨F4, fd4, dV4, D4⟩ := c.xd e0 4 (d := xd_InvalidLog)
  obtain ⟨k4, i4⟩ := ba (List.all_eq_true.mp e1 xd_InvalidLog (List.mem_of_getElem? (i := 4) rfl))
  obtain ⟨F5, fd5, dV5, D5⟩ := c.xd e0 5 (d := xd_InvalidRules)
  obtain ⟨k5, i5⟩ := ba (List.all_eq_true.mp e1 xd_InvalidRules (List.mem_of_getElem? (i := 5) rfl))
  obtain ⟨F6, fd6, dV6, D6⟩ := c.xd e0 6 (d := xd_InvalidDemand)
  obtain ⟨k6, i6⟩ := ba (List.all_eq_true.mp e1 xd_InvalidDemand (List.mem_of_getElem? (i := 6) rfl))
  obtain ⟨F7, fd7, dV7, D7⟩ := c.xd e0 7 (d := xd_InvalidStory)
  obtain ⟨k7, i7⟩ := ba (List.all_eq_true.mp e1 xd_InvalidStory (List.mem_of_getElem? (i := 7) rfl))
  obtain ⟨F8, fd8, dV8, D8⟩ := c.xd e0 8 (d := xd_InvalidChange)
  obtain ⟨k8, i8⟩ := ba (List.all_eq_true.mp e1 xd_InvalidChange (List.mem_of_getElem? (i := 8) rfl))
  obtain ⟨F9, fd9, dV9, D9⟩ := c.xd e0 9 (d := xd_InvalidNumber)
  obtain ⟨k9, i9⟩ := ba (List.all_eq_true.mp e1 xd_InvalidNumber (List.mem_of_getElem? (i := 9) rfl))
  obtain ⟨F10, fd10, dV10, D10⟩ := c.xd e0 10 (d := xd_InvalidList)
  obtain ⟨k10, i10⟩ := ba (List.all_eq_true.mp e1 xd_InvalidList (List.mem_of_getElem? (i := 10) rfl))
  obtain ⟨F11, fd11, dV11, D11⟩ := c.xd e0 11 (d := xd_InvalidText)
  obtain ⟨k11, i11⟩ := ba (List.all_eq_true.mp e1 xd_InvalidText (List.mem_of_getElem? (i := 11) rfl))
  obtain ⟨F12, fd12, dV12, D12⟩ := c.xd e0 12 (d := xd_Missing)
  obtain ⟨k12, i12⟩ := ba (List.all_eq_true.mp e1 xd_Missing (List.mem_of_getElem? (i := 12) rfl))
  obtain ⟨F13, fd13, dV13, D13⟩ := c.xd e0 13 (d := xd_Occupied)
  obtain ⟨k13, i13⟩ := ba (List.all_eq_true.mp e1 xd_Occupied (List.mem_of_getElem? (i := 13) rfl))
  obtain ⟨F14, fd14, dV14, D14⟩ := c.xd e0 14 (d := xd_Barred)
  obtain ⟨k14, i14⟩ := ba (List.all_eq_true.mp e1 xd_Barred (List.mem_of_getElem? (i := 14) rfl))
  obtain ⟨F15, fd15, dV15, D15⟩ := c.xd e0 15 (d := xd_Failed)
  obtain ⟨k15, i15⟩ := ba (List.all_eq_true.mp e1 xd_Failed (List.mem_of_getElem? (i := 15) rfl))
  have sm : mg "super" = none := free_ok X G (c.d.fact 32 (f := .free "super") rfl)
  exact {
    free_isinstance := free_ok X G (c.d.fact 0 (f := .free "isinstance") rfl),
    free_enumerate := free_ok X G (c.d.fact 1 (f := .free "enumerate") rfl),
    free_range := free_ok X G (c.d.fact 2 (f := .free "range") rfl),
    free_ValueError := free_ok X G (c.d.fact 3 (f := .free "ValueError") rfl),
    free_int := free_ok X G (c.d.fact 4 (f := .free "int") rfl),
    free_sum := free_ok X G (c.d.fact 5 (f := .free "sum") rfl),
    at_InvalidName := glo_ok X G (c.d.fact 6 (f := .glo "InvalidName") rfl),
    at_InvalidPlace := glo_ok X G (c.d.fact 7 (f := .glo "InvalidPlace") rfl),
    at_InvalidForm := glo_ok X G (c.d.fact 8 (f := .glo "InvalidForm") rfl),
    at_InvalidLook := glo_ok X G (c.d.fact 9 (f := .glo "InvalidLook") rfl),
    at_InvalidLog := glo_ok X G (c.d.fact 10 (f := .glo "InvalidLog") rfl),
    at_InvalidRules := glo_ok X G (c.d.fact 11 (f := .glo "InvalidRules") rfl),
    at_InvalidDemand := glo_ok X G (c.d.fact 12 (f := .glo "InvalidDemand") rfl),
    at_InvalidStory := glo_ok X G (c.d.fact 13 (f := .glo "InvalidStory") rfl),
    at_InvalidChange := glo_ok X G (c.d.fact 14 (f := .glo "InvalidChange") rfl),
    at_InvalidNumber := glo_ok X G (c.d.fact 15 (f := .glo "InvalidNumber") rfl),
    at_InvalidList := glo_ok X G (c.d.fact 16 (f := .glo "InvalidList") rfl),
    at_InvalidText := glo_ok X G (c.d.fact 17 (f := .glo "InvalidText") rfl),
    at_Missing := glo_ok X G (c.d.fact 18 (f := .glo "Missing") rfl),
    at_Occupied := glo_ok X G (c.d.fact 19 (f := .glo "Occupied") rfl),
    at_Barred := glo_ok X G (c.d.fact 20 (f := .glo "Barred") rfl),
    at_Failed := glo_ok X G (c.d.fact 21 (f := .glo "Failed") rfl),
    at_Closed := glo_ok X G (c.d.fact 22 (f := .glo "Closed") rfl),
    at_BetweenError := glo_ok X G (c.d.fact 23 (f := .glo "BetweenError") rfl),
    at__law_kinds := glo_ok X G (c.d.fact 24 (f := .glo "_law_kinds") rfl),
    at__law_right := glo_ok X G (c.d.fact 25 (f := .glo "_law_right") rfl),
    at__law_values := glo_ok X G (c.d.fact 26 (f := .glo "_law_values") rfl),
    at__law_placed := glo_ok X G (c.d.fact 27 (f := .glo "_law_placed") rfl),
    at__law_named := glo_ok X G (c.d.fact 28 (f := .glo "_law_named") rfl),
    at__law_bare := glo_ok X G (c.d.fact 29 (f := .glo "_law_bare") rfl),
    at__law_thing := glo_ok X G (c.d.fact 30 (f := .glo "_law_thing") rfl),
    at_law := glo_ok X G (c.d.fact 31 (f := .glo "law") rfl),
    d__law_kinds := c.d.def_ 0 (d := ⟨("_law_kinds", none), "_law_kinds", "_law_kinds", defArgs st__law_kinds, defBody st__law_kinds, defScope st__law_kinds, [], []⟩) rfl,
    d__law_right := c.d.def_ 1 (d := ⟨("_law_right", none), "_law_right", "_law_right", defArgs st__law_right, defBody st__law_right, defScope st__law_right, [], []⟩) rfl,
    d__law_values := c.d.def_ 2 (d := ⟨("_law_values", none), "_law_values", "_law_values", defArgs st__law_values, defBody st__law_values, defScope st__law_values, [], []⟩) rfl,
    d__law_placed := c.d.def_ 3 (d := ⟨("_law_placed", none), "_law_placed", "_law_placed", defArgs st__law_placed, defBody st__law_placed, defScope st__law_placed, [], []⟩) rfl,
    d__law_named := c.d.def_ 4 (d := ⟨("_law_named", none), "_law_named", "_law_named", defArgs st__law_named, defBody st__law_named, defScope st__law_named, [], []⟩) rfl,
    d__law_bare := c.d.def_ 5 (d := ⟨("_law_bare", none), "_law_bare", "_law_bare", defArgs st__law_bare, defBody st__law_bare, defScope st__law_bare, [], []⟩) rfl,
    d__law_thing := c.d.def_ 6 (d := ⟨("_law_thing", none), "_law_thing", "_law_thing", defArgs st__law_thing, defBody st__law_thing, defScope st__law_thing, [], []⟩) rfl,
    d_law := c.d.def_ 7 (d := ⟨("law", none), "law", "law", defArgs st_law, defBody st_law, defScope st_law, [], []⟩) rfl,
    hi := nmOf_inj (by decide +kernel) (by decide +kernel),
    is_InvalidName := tabB_ok e2,
    is_InvalidPlace := tabB_ok e3,
    is_InvalidForm := tabB_ok e4,
    is_InvalidLook := tabB_ok e5,
    is_InvalidLog := tabB_ok e6,
    is_InvalidRules := tabB_ok e7,
    is_InvalidDemand := tabB_ok e8,
    is_InvalidStory := tabB_ok e9,
    is_InvalidChange := tabB_ok e10,
    is_InvalidNumber := tabB_ok e11,
    is_InvalidList := tabB_ok e12,
    is_InvalidText := tabB_ok e13,
    is_Missing := tabB_ok e14,
    is_Occupied := tabB_ok e15,
    is_Barred := tabB_ok e16,
    is_Failed := tabB_ok e17,
    is_Closed := tabB_ok e18,
    is_BetweenError := tabB_ok e19,
    is_ValueError := tabB_ok e20,
    xf_value := xfkB_ok e21,
    xf_line := xfkB_ok e22,
    xf_place := xfkB_ok e23,
    xf_one := xfkB_ok e24,
    xf_other := xfkB_ok e25,
    xf_step := xfkB_ok e26,
    xf_why := xfkB_ok e27,
    xc_InvalidName_1 := xcal_of rfl rfl (glo_ok X G (c.d.fact 6 (f := .glo "InvalidName") rfl)) k0 i0 (xi_InvalidName (t := ⟨pw, w, K, mg, base⟩) D0 k0 (eqO_ok e32) sm tp_super) (fun X hK => let ⟨g, A⟩ := xarg (d := xd_InvalidName) (X := X) (Z := Zk K) (l := sr_InvalidName_1) (n := 1) (ks := []) (ps := ["self", "value"]) (by rw [hK]; exact D0) (by decide) (fun _ _ _ _ _ _ _ _ us its ws h1 h2 h3 => match us, its, ws, h1, h2, h3 with | [_, _], [_], [], _, _, _ => ⟨_, rfl, rfl⟩); ⟨g, _, A⟩),
    xc_InvalidPlace_1 := xcal_of rfl rfl (glo_ok X G (c.d.fact 7 (f := .glo "InvalidPlace") rfl)) k1 i1 (xi_InvalidPlace (t := ⟨pw, w, K, mg, base⟩) D1 k1 (eqO_ok e33) sm tp_super) (fun X hK => let ⟨g, A⟩ := xarg (d := xd_InvalidPlace) (X := X) (Z := Zk K) (l := sr_InvalidPlace_1) (n := 1) (ks := []) (ps := ["self", "value"]) (by rw [hK]; exact D1) (by decide) (fun _ _ _ _ _ _ _ _ us its ws h1 h2 h3 => match us, its, ws, h1, h2, h3 with | [_, _], [_], [], _, _, _ => ⟨_, rfl, rfl⟩); ⟨g, _, A⟩),
    xc_InvalidForm_1 := xcal_of rfl rfl (glo_ok X G (c.d.fact 8 (f := .glo "InvalidForm") rfl)) k2 i2 (xi_InvalidForm (t := ⟨pw, w, K, mg, base⟩) D2 k2 (eqO_ok e34) sm tp_super) (fun X hK => let ⟨g, A⟩ := xarg (d := xd_InvalidForm) (X := X) (Z := Zk K) (l := sr_InvalidForm_1) (n := 1) (ks := []) (ps := ["self", "value"]) (by rw [hK]; exact D2) (by decide) (fun _ _ _ _ _ _ _ _ us its ws h1 h2 h3 => match us, its, ws, h1, h2, h3 with | [_, _], [_], [], _, _, _ => ⟨_, rfl, rfl⟩); ⟨g, _, A⟩),
    xc_InvalidLook_1 := xcal_of rfl rfl (glo_ok X G (c.d.fact 9 (f := .glo "InvalidLook") rfl)) k3 i3 (xi_InvalidLook (t := ⟨pw, w, K, mg, base⟩) D3 k3 (eqO_ok e35) sm tp_super) (fun X hK => let ⟨g, A⟩ := xarg (d := xd_InvalidLook) (X := X) (Z := Zk K) (l := sr_InvalidLook_1) (n := 1) (ks := []) (ps := ["self", "value"]) (by rw [hK]; exact D3) (by decide) (fun _ _ _ _ _ _ _ _ us its ws h1 h2 h3 => match us, its, ws, h1, h2, h3 with | [_, _], [_], [], _, _, _ => ⟨_, rfl, rfl⟩); ⟨g, _, A⟩),
    xc_InvalidLog_1 := xcal_of rfl rfl (glo_ok X G (c.d.fact 10 (f := .glo "InvalidLog") rfl)) k4 i4 (xi_InvalidLog (t := ⟨pw, w, K, mg, base⟩) D4 k4 (eqO_ok e36) sm tp_super) (fun X hK => let ⟨g, A⟩ := xarg (d := xd_InvalidLog) (X := X) (Z := Zk K) (l := sr_InvalidLog_1) (n := 1) (ks := []) (ps := ["self", "value"]) (by rw [hK]; exact D4) (by decide) (fun _ _ _ _ _ _ _ _ us its ws h1 h2 h3 => match us, its, ws, h1, h2, h3 with | [_, _], [_], [], _, _, _ => ⟨_, rfl, rfl⟩); ⟨g, _, A⟩),
    xc_InvalidRules_1 := xcal_of rfl rfl (glo_ok X G (c.d.fact 11 (f := .glo "InvalidRules") rfl)) k5 i5 (xi_InvalidRules (t := ⟨pw, w, K, mg, base⟩) D5 k5 (eqO_ok e37) sm tp_super) (fun X hK => let ⟨g, A⟩ := xarg (d := xd_InvalidRules) (X := X) (Z := Zk K) (l := sr_InvalidRules_1) (n := 1) (ks := []) (ps := ["self", "value"]) (by rw [hK]; exact D5) (by decide) (fun _ _ _ _ _ _ _ _ us its ws h1 h2 h3 => match us, its, ws, h1, h2, h3 with | [_, _], [_], [], _, _, _ => ⟨_, rfl, rfl⟩); ⟨g, _, A⟩),
    xc_InvalidDemand_1 := xcal_of rfl rfl (glo_ok X G (c.d.fact 12 (f := .glo "InvalidDemand") rfl)) k6 i6 (xi_InvalidDemand (t := ⟨pw, w, K, mg, base⟩) D6 k6 (eqO_ok e38) sm tp_super) (fun X hK => let ⟨g, A⟩ := xarg (d := xd_InvalidDemand) (X := X) (Z := Zk K) (l := sr_InvalidDemand_1) (n := 1) (ks := []) (ps := ["self", "value"]) (by rw [hK]; exact D6) (by decide) (fun _ _ _ _ _ _ _ _ us its ws h1 h2 h3 => match us, its, ws, h1, h2, h3 with | [_, _], [_], [], _, _, _ => ⟨_, rfl, rfl⟩); ⟨g, _, A⟩),
    xc_InvalidStory_1 := xcal_of rfl rfl (glo_ok X G (c.d.fact 13 (f := .glo "InvalidStory") rfl)) k7 i7 (xi_InvalidStory (t := ⟨pw, w, K, mg, base⟩) D7 k7 (eqO_ok e39) sm tp_super) (fun X hK => let ⟨g, A⟩ := xarg (d := xd_InvalidStory) (X := X) (Z := Zk K) (l := sr_InvalidStory_1) (n := 1) (ks := []) (ps := ["self", "value"]) (by rw [hK]; exact D7) (by decide) (fun _ _ _ _ _ _ _ _ us its ws h1 h2 h3 => match us, its, ws, h1, h2, h3 with | [_, _], [_], [], _, _, _ => ⟨_, rfl, rfl⟩); ⟨g, _, A⟩),
    xc_InvalidChange_1 := xcal_of rfl rfl (glo_ok X G (c.d.fact 14 (f := .glo "InvalidChange") rfl)) k8 i8 (xi_InvalidChange (t := ⟨pw, w, K, mg, base⟩) D8 k8 (eqO_ok e40) sm tp_super) (fun X hK => let ⟨g, A⟩ := xarg (d := xd_InvalidChange) (X := X) (Z := Zk K) (l := sr_InvalidChange_1) (n := 1) (ks := []) (ps := ["self", "value"]) (by rw [hK]; exact D8) (by decide) (fun _ _ _ _ _ _ _ _ us its ws h1 h2 h3 => match us, its, ws, h1, h2, h3 with | [_, _], [_], [], _, _, _ => ⟨_, rfl, rfl⟩); ⟨g, _, A⟩),
    xc_InvalidNumber_1 := xcal_of rfl rfl (glo_ok X G (c.d.fact 15 (f := .glo "InvalidNumber") rfl)) k9 i9 (xi_InvalidNumber (t := ⟨pw, w, K, mg, base⟩) D9 k9 (eqO_ok e41) sm tp_super) (fun X hK => let ⟨g, A⟩ := xarg (d := xd_InvalidNumber) (X := X) (Z := Zk K) (l := sr_InvalidNumber_1) (n := 1) (ks := []) (ps := ["self", "value"]) (by rw [hK]; exact D9) (by decide) (fun _ _ _ _ _ _ _ _ us its ws h1 h2 h3 => match us, its, ws, h1, h2, h3 with | [_, _], [_], [], _, _, _ => ⟨_, rfl, rfl⟩); ⟨g, _, A⟩),
    xc_InvalidList_1 := xcal_of rfl rfl (glo_ok X G (c.d.fact 16 (f := .glo "InvalidList") rfl)) k10 i10 (xi_InvalidList (t := ⟨pw, w, K, mg, base⟩) D10 k10 (eqO_ok e42) sm tp_super) (fun X hK => let ⟨g, A⟩ := xarg (d := xd_InvalidList) (X := X) (Z := Zk K) (l := sr_InvalidList_1) (n := 1) (ks := []) (ps := ["self", "value"]) (by rw [hK]; exact D10) (by decide) (fun _ _ _ _ _ _ _ _ us its ws h1 h2 h3 => match us, its, ws, h1, h2, h3 with | [_, _], [_], [], _, _, _ => ⟨_, rfl, rfl⟩); ⟨g, _, A⟩),
    xc_InvalidText_1 := xcal_of rfl rfl (glo_ok X G (c.d.fact 17 (f := .glo "InvalidText") rfl)) k11 i11 (xi_InvalidText (t := ⟨pw, w, K, mg, base⟩) D11 k11 (eqO_ok e43) sm tp_super) (fun X hK => let ⟨g, A⟩ := xarg (d := xd_InvalidText) (X := X) (Z := Zk K) (l := sr_InvalidText_1) (n := 1) (ks := []) (ps := ["self", "line"]) (by rw [hK]; exact D11) (by decide) (fun _ _ _ _ _ _ _ _ us its ws h1 h2 h3 => match us, its, ws, h1, h2, h3 with | [_, _], [_], [], _, _, _ => ⟨_, rfl, rfl⟩); ⟨g, _, A⟩),
    xc_Missing_1 := xcal_of rfl rfl (glo_ok X G (c.d.fact 18 (f := .glo "Missing") rfl)) k12 i12 (xi_Missing (t := ⟨pw, w, K, mg, base⟩) D12 k12 (eqO_ok e44) sm tp_super) (fun X hK => let ⟨g, A⟩ := xarg (d := xd_Missing) (X := X) (Z := Zk K) (l := sr_Missing_1) (n := 1) (ks := []) (ps := ["self", "place"]) (by rw [hK]; exact D12) (by decide) (fun _ _ _ _ _ _ _ _ us its ws h1 h2 h3 => match us, its, ws, h1, h2, h3 with | [_, _], [_], [], _, _, _ => ⟨_, rfl, rfl⟩); ⟨g, _, A⟩),
    xc_Occupied_1 := xcal_of rfl rfl (glo_ok X G (c.d.fact 19 (f := .glo "Occupied") rfl)) k13 i13 (xi_Occupied (t := ⟨pw, w, K, mg, base⟩) D13 k13 (eqO_ok e45) sm tp_super) (fun X hK => let ⟨g, A⟩ := xarg (d := xd_Occupied) (X := X) (Z := Zk K) (l := sr_Occupied_1) (n := 1) (ks := []) (ps := ["self", "place"]) (by rw [hK]; exact D13) (by decide) (fun _ _ _ _ _ _ _ _ us its ws h1 h2 h3 => match us, its, ws, h1, h2, h3 with | [_, _], [_], [], _, _, _ => ⟨_, rfl, rfl⟩); ⟨g, _, A⟩),
    xc_Barred_2 := xcal_of rfl rfl (glo_ok X G (c.d.fact 20 (f := .glo "Barred") rfl)) k14 i14 (xi_Barred (t := ⟨pw, w, K, mg, base⟩) D14 k14 (eqO_ok e46) (eqO_ok e47) sm tp_super) (fun X hK => let ⟨g, A⟩ := xarg (d := xd_Barred) (X := X) (Z := Zk K) (l := sr_Barred_2) (n := 2) (ks := []) (ps := ["self", "one", "other"]) (by rw [hK]; exact D14) (by decide) (fun _ _ _ _ _ _ _ _ us its ws h1 h2 h3 => match us, its, ws, h1, h2, h3 with | [_, _, _], [_, _], [], _, _, _ => ⟨_, rfl, rfl⟩); ⟨g, _, A⟩),
    xc_Failed_2 := xcal_of rfl rfl (glo_ok X G (c.d.fact 21 (f := .glo "Failed") rfl)) k15 i15 (xi_Failed (t := ⟨pw, w, K, mg, base⟩) D15 k15 (eqO_ok e48) (eqO_ok e49) sm tp_super) (fun X hK => let ⟨g, A⟩ := xarg (d := xd_Failed) (X := X) (Z := Zk K) (l := sr_Failed_2) (n := 2) (ks := []) (ps := ["self", "step", "why"]) (by rw [hK]; exact D15) (by decide) (fun _ _ _ _ _ _ _ _ us its ws h1 h2 h3 => match us, its, ws, h1, h2, h3 with | [_, _, _], [_, _], [], _, _, _ => ⟨_, rfl, rfl⟩); ⟨g, _, A⟩),
    xc_InvalidName_0_value := xcal_of rfl rfl (glo_ok X G (c.d.fact 6 (f := .glo "InvalidName") rfl)) k0 i0 (xi_InvalidName (t := ⟨pw, w, K, mg, base⟩) D0 k0 (eqO_ok e32) sm tp_super) (fun X hK => let ⟨g, A⟩ := xarg (d := xd_InvalidName) (X := X) (Z := Zk K) (l := sr_InvalidName_0_value) (n := 0) (ks := ["value"]) (ps := ["self", "value"]) (by rw [hK]; exact D0) (by decide) (fun _ _ _ _ _ _ _ _ us its ws h1 h2 h3 => match us, its, ws, h1, h2, h3 with | [_], [_], [_], _, _, _ => ⟨_, rfl, rfl⟩); ⟨g, _, A⟩),
    xc_InvalidPlace_0_value := xcal_of rfl rfl (glo_ok X G (c.d.fact 7 (f := .glo "InvalidPlace") rfl)) k1 i1 (xi_InvalidPlace (t := ⟨pw, w, K, mg, base⟩) D1 k1 (eqO_ok e33) sm tp_super) (fun X hK => let ⟨g, A⟩ := xarg (d := xd_InvalidPlace) (X := X) (Z := Zk K) (l := sr_InvalidPlace_0_value) (n := 0) (ks := ["value"]) (ps := ["self", "value"]) (by rw [hK]; exact D1) (by decide) (fun _ _ _ _ _ _ _ _ us its ws h1 h2 h3 => match us, its, ws, h1, h2, h3 with | [_], [_], [_], _, _, _ => ⟨_, rfl, rfl⟩); ⟨g, _, A⟩),
    xc_InvalidForm_0_value := xcal_of rfl rfl (glo_ok X G (c.d.fact 8 (f := .glo "InvalidForm") rfl)) k2 i2 (xi_InvalidForm (t := ⟨pw, w, K, mg, base⟩) D2 k2 (eqO_ok e34) sm tp_super) (fun X hK => let ⟨g, A⟩ := xarg (d := xd_InvalidForm) (X := X) (Z := Zk K) (l := sr_InvalidForm_0_value) (n := 0) (ks := ["value"]) (ps := ["self", "value"]) (by rw [hK]; exact D2) (by decide) (fun _ _ _ _ _ _ _ _ us its ws h1 h2 h3 => match us, its, ws, h1, h2, h3 with | [_], [_], [_], _, _, _ => ⟨_, rfl, rfl⟩); ⟨g, _, A⟩),
    xc_InvalidLook_0_value := xcal_of rfl rfl (glo_ok X G (c.d.fact 9 (f := .glo "InvalidLook") rfl)) k3 i3 (xi_InvalidLook (t := ⟨pw, w, K, mg, base⟩) D3 k3 (eqO_ok e35) sm tp_super) (fun X hK => let ⟨g, A⟩ := xarg (d := xd_InvalidLook) (X := X) (Z := Zk K) (l := sr_InvalidLook_0_value) (n := 0) (ks := ["value"]) (ps := ["self", "value"]) (by rw [hK]; exact D3) (by decide) (fun _ _ _ _ _ _ _ _ us its ws h1 h2 h3 => match us, its, ws, h1, h2, h3 with | [_], [_], [_], _, _, _ => ⟨_, rfl, rfl⟩); ⟨g, _, A⟩),
    xc_InvalidLog_0_value := xcal_of rfl rfl (glo_ok X G (c.d.fact 10 (f := .glo "InvalidLog") rfl)) k4 i4 (xi_InvalidLog (t := ⟨pw, w, K, mg, base⟩) D4 k4 (eqO_ok e36) sm tp_super) (fun X hK => let ⟨g, A⟩ := xarg (d := xd_InvalidLog) (X := X) (Z := Zk K) (l := sr_InvalidLog_0_value) (n := 0) (ks := ["value"]) (ps := ["self", "value"]) (by rw [hK]; exact D4) (by decide) (fun _ _ _ _ _ _ _ _ us its ws h1 h2 h3 => match us, its, ws, h1, h2, h3 with | [_], [_], [_], _, _, _ => ⟨_, rfl, rfl⟩); ⟨g, _, A⟩),
    xc_InvalidRules_0_value := xcal_of rfl rfl (glo_ok X G (c.d.fact 11 (f := .glo "InvalidRules") rfl)) k5 i5 (xi_InvalidRules (t := ⟨pw, w, K, mg, base⟩) D5 k5 (eqO_ok e37) sm tp_super) (fun X hK => let ⟨g, A⟩ := xarg (d := xd_InvalidRules) (X := X) (Z := Zk K) (l := sr_InvalidRules_0_value) (n := 0) (ks := ["value"]) (ps := ["self", "value"]) (by rw [hK]; exact D5) (by decide) (fun _ _ _ _ _ _ _ _ us its ws h1 h2 h3 => match us, its, ws, h1, h2, h3 with | [_], [_], [_], _, _, _ => ⟨_, rfl, rfl⟩); ⟨g, _, A⟩),
    xc_InvalidDemand_0_value := xcal_of rfl rfl (glo_ok X G (c.d.fact 12 (f := .glo "InvalidDemand") rfl)) k6 i6 (xi_InvalidDemand (t := ⟨pw, w, K, mg, base⟩) D6 k6 (eqO_ok e38) sm tp_super) (fun X hK => let ⟨g, A⟩ := xarg (d := xd_InvalidDemand) (X := X) (Z := Zk K) (l := sr_InvalidDemand_0_value) (n := 0) (ks := ["value"]) (ps := ["self", "value"]) (by rw [hK]; exact D6) (by decide) (fun _ _ _ _ _ _ _ _ us its ws h1 h2 h3 => match us, its, ws, h1, h2, h3 with | [_], [_], [_], _, _, _ => ⟨_, rfl, rfl⟩); ⟨g, _, A⟩),
    xc_InvalidStory_0_value := xcal_of rfl rfl (glo_ok X G (c.d.fact 13 (f := .glo "InvalidStory") rfl)) k7 i7 (xi_InvalidStory (t := ⟨pw, w, K, mg, base⟩) D7 k7 (eqO_ok e39) sm tp_super) (fun X hK => let ⟨g, A⟩ := xarg (d := xd_InvalidStory) (X := X) (Z := Zk K) (l := sr_InvalidStory_0_value) (n := 0) (ks := ["value"]) (ps := ["self", "value"]) (by rw [hK]; exact D7) (by decide) (fun _ _ _ _ _ _ _ _ us its ws h1 h2 h3 => match us, its, ws, h1, h2, h3 with | [_], [_], [_], _, _, _ => ⟨_, rfl, rfl⟩); ⟨g, _, A⟩),
    xc_InvalidChange_0_value := xcal_of rfl rfl (glo_ok X G (c.d.fact 14 (f := .glo "InvalidChange") rfl)) k8 i8 (xi_InvalidChange (t := ⟨pw, w, K, mg, base⟩) D8 k8 (eqO_ok e40) sm tp_super) (fun X hK => let ⟨g, A⟩ := xarg (d := xd_InvalidChange) (X := X) (Z := Zk K) (l := sr_InvalidChange_0_value) (n := 0) (ks := ["value"]) (ps := ["self", "value"]) (by rw [hK]; exact D8) (by decide) (fun _ _ _ _ _ _ _ _ us its ws h1 h2 h3 => match us, its, ws, h1, h2, h3 with | [_], [_], [_], _, _, _ => ⟨_, rfl, rfl⟩); ⟨g, _, A⟩),
    xc_InvalidNumber_0_value := xcal_of rfl rfl (glo_ok X G (c.d.fact 15 (f := .glo "InvalidNumber") rfl)) k9 i9 (xi_InvalidNumber (t := ⟨pw, w, K, mg, base⟩) D9 k9 (eqO_ok e41) sm tp_super) (fun X hK => let ⟨g, A⟩ := xarg (d := xd_InvalidNumber) (X := X) (Z := Zk K) (l := sr_InvalidNumber_0_value) (n := 0) (ks := ["value"]) (ps := ["self", "value"]) (by rw [hK]; exact D9) (by decide) (fun _ _ _ _ _ _ _ _ us its ws h1 h2 h3 => match us, its, ws, h1, h2, h3 with | [_], [_], [_], _, _, _ => ⟨_, rfl, rfl⟩); ⟨g, _, A⟩),
    xc_InvalidList_0_value := xcal_of rfl rfl (glo_ok X G (c.d.fact 16 (f := .glo "InvalidList") rfl)) k10 i10 (xi_InvalidList (t := ⟨pw, w, K, mg, base⟩) D10 k10 (eqO_ok e42) sm tp_super) (fun X hK => let ⟨g, A⟩ := xarg (d := xd_InvalidList) (X := X) (Z := Zk K) (l := sr_InvalidList_0_value) (n := 0) (ks := ["value"]) (ps := ["self", "value"]) (by rw [hK]; exact D10) (by decide) (fun _ _ _ _ _ _ _ _ us its ws h1 h2 h3 => match us, its, ws, h1, h2, h3 with | [_], [_], [_], _, _, _ => ⟨_, rfl, rfl⟩); ⟨g, _, A⟩),
    xc_InvalidText_0_line := xcal_of rfl rfl (glo_ok X G (c.d.fact 17 (f := .glo "InvalidText") rfl)) k11 i11 (xi_InvalidText (t := ⟨pw, w, K, mg, base⟩) D11 k11 (eqO_ok e43) sm tp_super) (fun X hK => let ⟨g, A⟩ := xarg (d := xd_InvalidText) (X := X) (Z := Zk K) (l := sr_InvalidText_0_line) (n := 0) (ks := ["line"]) (ps := ["self", "line"]) (by rw [hK]; exact D11) (by decide) (fun _ _ _ _ _ _ _ _ us its ws h1 h2 h3 => match us, its, ws, h1, h2, h3 with | [_], [_], [_], _, _, _ => ⟨_, rfl, rfl⟩); ⟨g, _, A⟩),
    xc_Missing_0_place := xcal_of rfl rfl (glo_ok X G (c.d.fact 18 (f := .glo "Missing") rfl)) k12 i12 (xi_Missing (t := ⟨pw, w, K, mg, base⟩) D12 k12 (eqO_ok e44) sm tp_super) (fun X hK => let ⟨g, A⟩ := xarg (d := xd_Missing) (X := X) (Z := Zk K) (l := sr_Missing_0_place) (n := 0) (ks := ["place"]) (ps := ["self", "place"]) (by rw [hK]; exact D12) (by decide) (fun _ _ _ _ _ _ _ _ us its ws h1 h2 h3 => match us, its, ws, h1, h2, h3 with | [_], [_], [_], _, _, _ => ⟨_, rfl, rfl⟩); ⟨g, _, A⟩),
    xc_Occupied_0_place := xcal_of rfl rfl (glo_ok X G (c.d.fact 19 (f := .glo "Occupied") rfl)) k13 i13 (xi_Occupied (t := ⟨pw, w, K, mg, base⟩) D13 k13 (eqO_ok e45) sm tp_super) (fun X hK => let ⟨g, A⟩ := xarg (d := xd_Occupied) (X := X) (Z := Zk K) (l := sr_Occupied_0_place) (n := 0) (ks := ["place"]) (ps := ["self", "place"]) (by rw [hK]; exact D13) (by decide) (fun _ _ _ _ _ _ _ _ us its ws h1 h2 h3 => match us, its, ws, h1, h2, h3 with | [_], [_], [_], _, _, _ => ⟨_, rfl, rfl⟩); ⟨g, _, A⟩),
    xc_Barred_0_other_one := xcal_of rfl rfl (glo_ok X G (c.d.fact 20 (f := .glo "Barred") rfl)) k14 i14 (xi_Barred (t := ⟨pw, w, K, mg, base⟩) D14 k14 (eqO_ok e46) (eqO_ok e47) sm tp_super) (fun X hK => let ⟨g, A⟩ := xarg (d := xd_Barred) (X := X) (Z := Zk K) (l := sr_Barred_0_other_one) (n := 0) (ks := ["other", "one"]) (ps := ["self", "one", "other"]) (by rw [hK]; exact D14) (by decide) (fun _ _ _ _ _ _ _ _ us its ws h1 h2 h3 => match us, its, ws, h1, h2, h3 with | [_], [_, _], [_, _], _, _, _ => ⟨_, rfl, rfl⟩); ⟨g, _, A⟩),
    xc_Failed_0_why_step := xcal_of rfl rfl (glo_ok X G (c.d.fact 21 (f := .glo "Failed") rfl)) k15 i15 (xi_Failed (t := ⟨pw, w, K, mg, base⟩) D15 k15 (eqO_ok e48) (eqO_ok e49) sm tp_super) (fun X hK => let ⟨g, A⟩ := xarg (d := xd_Failed) (X := X) (Z := Zk K) (l := sr_Failed_0_why_step) (n := 0) (ks := ["why", "step"]) (ps := ["self", "step", "why"]) (by rw [hK]; exact D15) (by decide) (fun _ _ _ _ _ _ _ _ us its ws h1 h2 h3 => match us, its, ws, h1, h2, h3 with | [_], [_, _], [_, _], _, _, _ => ⟨_, rfl, rfl⟩); ⟨g, _, A⟩),
    xc_InvalidName_0 := xcal_of rfl rfl (glo_ok X G (c.d.fact 6 (f := .glo "InvalidName") rfl)) k0 i0 (xi_InvalidName (t := ⟨pw, w, K, mg, base⟩) D0 k0 (eqO_ok e32) sm tp_super) (fun X hK => let ⟨g, A⟩ := xarg (d := xd_InvalidName) (X := X) (Z := Zk K) (l := sr_InvalidName_0) (n := 0) (ks := []) (ps := ["self", "value"]) (by rw [hK]; exact D0) (by decide) (fun _ _ _ _ _ _ _ _ us its ws h1 h2 h3 => match us, its, ws, h1, h2, h3 with | [_], [_], [], _, _, _ => ⟨_, rfl, rfl⟩); ⟨g, _, A⟩),
    xc_InvalidPlace_0 := xcal_of rfl rfl (glo_ok X G (c.d.fact 7 (f := .glo "InvalidPlace") rfl)) k1 i1 (xi_InvalidPlace (t := ⟨pw, w, K, mg, base⟩) D1 k1 (eqO_ok e33) sm tp_super) (fun X hK => let ⟨g, A⟩ := xarg (d := xd_InvalidPlace) (X := X) (Z := Zk K) (l := sr_InvalidPlace_0) (n := 0) (ks := []) (ps := ["self", "value"]) (by rw [hK]; exact D1) (by decide) (fun _ _ _ _ _ _ _ _ us its ws h1 h2 h3 => match us, its, ws, h1, h2, h3 with | [_], [_], [], _, _, _ => ⟨_, rfl, rfl⟩); ⟨g, _, A⟩),
    xc_InvalidForm_0 := xcal_of rfl rfl (glo_ok X G (c.d.fact 8 (f := .glo "InvalidForm") rfl)) k2 i2 (xi_InvalidForm (t := ⟨pw, w, K, mg, base⟩) D2 k2 (eqO_ok e34) sm tp_super) (fun X hK => let ⟨g, A⟩ := xarg (d := xd_InvalidForm) (X := X) (Z := Zk K) (l := sr_InvalidForm_0) (n := 0) (ks := []) (ps := ["self", "value"]) (by rw [hK]; exact D2) (by decide) (fun _ _ _ _ _ _ _ _ us its ws h1 h2 h3 => match us, its, ws, h1, h2, h3 with | [_], [_], [], _, _, _ => ⟨_, rfl, rfl⟩); ⟨g, _, A⟩),
    xc_InvalidLook_0 := xcal_of rfl rfl (glo_ok X G (c.d.fact 9 (f := .glo "InvalidLook") rfl)) k3 i3 (xi_InvalidLook (t := ⟨pw, w, K, mg, base⟩) D3 k3 (eqO_ok e35) sm tp_super) (fun X hK => let ⟨g, A⟩ := xarg (d := xd_InvalidLook) (X := X) (Z := Zk K) (l := sr_InvalidLook_0) (n := 0) (ks := []) (ps := ["self", "value"]) (by rw [hK]; exact D3) (by decide) (fun _ _ _ _ _ _ _ _ us its ws h1 h2 h3 => match us, its, ws, h1, h2, h3 with | [_], [_], [], _, _, _ => ⟨_, rfl, rfl⟩); ⟨g, _, A⟩),
    xc_InvalidLog_0 := xcal_of rfl rfl (glo_ok X G (c.d.fact 10 (f := .glo "InvalidLog") rfl)) k4 i4 (xi_InvalidLog (t := ⟨pw, w, K, mg, base⟩) D4 k4 (eqO_ok e36) sm tp_super) (fun X hK => let ⟨g, A⟩ := xarg (d := xd_InvalidLog) (X := X) (Z := Zk K) (l := sr_InvalidLog_0) (n := 0) (ks := []) (ps := ["self", "value"]) (by rw [hK]; exact D4) (by decide) (fun _ _ _ _ _ _ _ _ us its ws h1 h2 h3 => match us, its, ws, h1, h2, h3 with | [_], [_], [], _, _, _ => ⟨_, rfl, rfl⟩); ⟨g, _, A⟩),
    xc_InvalidRules_0 := xcal_of rfl rfl (glo_ok X G (c.d.fact 11 (f := .glo "InvalidRules") rfl)) k5 i5 (xi_InvalidRules (t := ⟨pw, w, K, mg, base⟩) D5 k5 (eqO_ok e37) sm tp_super) (fun X hK => let ⟨g, A⟩ := xarg (d := xd_InvalidRules) (X := X) (Z := Zk K) (l := sr_InvalidRules_0) (n := 0) (ks := []) (ps := ["self", "value"]) (by rw [hK]; exact D5) (by decide) (fun _ _ _ _ _ _ _ _ us its ws h1 h2 h3 => match us, its, ws, h1, h2, h3 with | [_], [_], [], _, _, _ => ⟨_, rfl, rfl⟩); ⟨g, _, A⟩),
    xc_InvalidDemand_0 := xcal_of rfl rfl (glo_ok X G (c.d.fact 12 (f := .glo "InvalidDemand") rfl)) k6 i6 (xi_InvalidDemand (t := ⟨pw, w, K, mg, base⟩) D6 k6 (eqO_ok e38) sm tp_super) (fun X hK => let ⟨g, A⟩ := xarg (d := xd_InvalidDemand) (X := X) (Z := Zk K) (l := sr_InvalidDemand_0) (n := 0) (ks := []) (ps := ["self", "value"]) (by rw [hK]; exact D6) (by decide) (fun _ _ _ _ _ _ _ _ us its ws h1 h2 h3 => match us, its, ws, h1, h2, h3 with | [_], [_], [], _, _, _ => ⟨_, rfl, rfl⟩); ⟨g, _, A⟩),
    xc_InvalidStory_0 := xcal_of rfl rfl (glo_ok X G (c.d.fact 13 (f := .glo "InvalidStory") rfl)) k7 i7 (xi_InvalidStory (t := ⟨pw, w, K, mg, base⟩) D7 k7 (eqO_ok e39) sm tp_super) (fun X hK => let ⟨g, A⟩ := xarg (d := xd_InvalidStory) (X := X) (Z := Zk K) (l := sr_InvalidStory_0) (n := 0) (ks := []) (ps := ["self", "value"]) (by rw [hK]; exact D7) (by decide) (fun _ _ _ _ _ _ _ _ us its ws h1 h2 h3 => match us, its, ws, h1, h2, h3 with | [_], [_], [], _, _, _ => ⟨_, rfl, rfl⟩); ⟨g, _, A⟩),
    xc_InvalidChange_0 := xcal_of rfl rfl (glo_ok X G (c.d.fact 14 (f := .glo "InvalidChange") rfl)) k8 i8 (xi_InvalidChange (t := ⟨pw, w, K, mg, base⟩) D8 k8 (eqO_ok e40) sm tp_super) (fun X hK => let ⟨g, A⟩ := xarg (d := xd_InvalidChange) (X := X) (Z := Zk K) (l := sr_InvalidChange_0) (n := 0) (ks := []) (ps := ["self", "value"]) (by rw [hK]; exact D8) (by decide) (fun _ _ _ _ _ _ _ _ us its ws h1 h2 h3 => match us, its, ws, h1, h2, h3 with | [_], [_], [], _, _, _ => ⟨_, rfl, rfl⟩); ⟨g, _, A⟩),
    xc_InvalidNumber_0 := xcal_of rfl rfl (glo_ok X G (c.d.fact 15 (f := .glo "InvalidNumber") rfl)) k9 i9 (xi_InvalidNumber (t := ⟨pw, w, K, mg, base⟩) D9 k9 (eqO_ok e41) sm tp_super) (fun X hK => let ⟨g, A⟩ := xarg (d := xd_InvalidNumber) (X := X) (Z := Zk K) (l := sr_InvalidNumber_0) (n := 0) (ks := []) (ps := ["self", "value"]) (by rw [hK]; exact D9) (by decide) (fun _ _ _ _ _ _ _ _ us its ws h1 h2 h3 => match us, its, ws, h1, h2, h3 with | [_], [_], [], _, _, _ => ⟨_, rfl, rfl⟩); ⟨g, _, A⟩),
    xc_InvalidList_0 := xcal_of rfl rfl (glo_ok X G (c.d.fact 16 (f := .glo "InvalidList") rfl)) k10 i10 (xi_InvalidList (t := ⟨pw, w, K, mg, base⟩) D10 k10 (eqO_ok e42) sm tp_super) (fun X hK => let ⟨g, A⟩ := xarg (d := xd_InvalidList) (X := X) (Z := Zk K) (l := sr_InvalidList_0) (n := 0) (ks := []) (ps := ["self", "value"]) (by rw [hK]; exact D10) (by decide) (fun _ _ _ _ _ _ _ _ us its ws h1 h2 h3 => match us, its, ws, h1, h2, h3 with | [_], [_], [], _, _, _ => ⟨_, rfl, rfl⟩); ⟨g, _, A⟩),
    xc_InvalidText_0 := xcal_of rfl rfl (glo_ok X G (c.d.fact 17 (f := .glo "InvalidText") rfl)) k11 i11 (xi_InvalidText (t := ⟨pw, w, K, mg, base⟩) D11 k11 (eqO_ok e43) sm tp_super) (fun X hK => let ⟨g, A⟩ := xarg (d := xd_InvalidText) (X := X) (Z := Zk K) (l := sr_InvalidText_0) (n := 0) (ks := []) (ps := ["self", "line"]) (by rw [hK]; exact D11) (by decide) (fun _ _ _ _ _ _ _ _ us its ws h1 h2 h3 => match us, its, ws, h1, h2, h3 with | [_], [_], [], _, _, _ => ⟨_, rfl, rfl⟩); ⟨g, _, A⟩),
    xc_Missing_0 := xcal_of rfl rfl (glo_ok X G (c.d.fact 18 (f := .glo "Missing") rfl)) k12 i12 (xi_Missing (t := ⟨pw, w, K, mg, base⟩) D12 k12 (eqO_ok e44) sm tp_super) (fun X hK => let ⟨g, A⟩ := xarg (d := xd_Missing) (X := X) (Z := Zk K) (l := sr_Missing_0) (n := 0) (ks := []) (ps := ["self", "place"]) (by rw [hK]; exact D12) (by decide) (fun _ _ _ _ _ _ _ _ us its ws h1 h2 h3 => match us, its, ws, h1, h2, h3 with | [_], [_], [], _, _, _ => ⟨_, rfl, rfl⟩); ⟨g, _, A⟩),
    xc_Occupied_0 := xcal_of rfl rfl (glo_ok X G (c.d.fact 19 (f := .glo "Occupied") rfl)) k13 i13 (xi_Occupied (t := ⟨pw, w, K, mg, base⟩) D13 k13 (eqO_ok e45) sm tp_super) (fun X hK => let ⟨g, A⟩ := xarg (d := xd_Occupied) (X := X) (Z := Zk K) (l := sr_Occupied_0) (n := 0) (ks := []) (ps := ["self", "place"]) (by rw [hK]; exact D13) (by decide) (fun _ _ _ _ _ _ _ _ us its ws h1 h2 h3 => match us, its, ws, h1, h2, h3 with | [_], [_], [], _, _, _ => ⟨_, rfl, rfl⟩); ⟨g, _, A⟩),
    xc_Barred_0 := xcal_of rfl rfl (glo_ok X G (c.d.fact 20 (f := .glo "Barred") rfl)) k14 i14 (xi_Barred (t := ⟨pw, w, K, mg, base⟩) D14 k14 (eqO_ok e46) (eqO_ok e47) sm tp_super) (fun X hK => let ⟨g, A⟩ := xarg (d := xd_Barred) (X := X) (Z := Zk K) (l := sr_Barred_0) (n := 0) (ks := []) (ps := ["self", "one", "other"]) (by rw [hK]; exact D14) (by decide) (fun _ _ _ _ _ _ _ _ us its ws h1 h2 h3 => match us, its, ws, h1, h2, h3 with | [_], [_, _], [], _, _, _ => ⟨_, rfl, rfl⟩); ⟨g, _, A⟩),
    xc_Failed_0 := xcal_of rfl rfl (glo_ok X G (c.d.fact 21 (f := .glo "Failed") rfl)) k15 i15 (xi_Failed (t := ⟨pw, w, K, mg, base⟩) D15 k15 (eqO_ok e48) (eqO_ok e49) sm tp_super) (fun X hK => let ⟨g, A⟩ := xarg (d := xd_Failed) (X := X) (Z := Zk K) (l := sr_Failed_0) (n := 0) (ks := []) (ps := ["self", "step", "why"]) (by rw [hK]; exact D15) (by decide) (fun _ _ _ _ _ _ _ _ us its ws h1 h2 h3 => match us, its, ws, h1, h2, h3 with | [_], [_, _], [], _, _, _ => ⟨_, rfl, rfl⟩); ⟨g, _, A⟩),
    xc_Barred_1 := xcal_of rfl rfl (glo_ok X G (c.d.fact 20 (f := .glo "Barred") rfl)) k14 i14 (xi_Barred (t := ⟨pw, w, K, mg, base⟩) D14 k14 (eqO_ok e46) (eqO_ok e47) sm tp_super) (fun X hK => let ⟨g, A⟩ := xarg (d := xd_Barred) (X := X) (Z := Zk K) (l := sr_Barred_1) (n := 1) (ks := []) (ps := ["self", "one", "other"]) (by rw [hK]; exact D14) (by decide) (fun _ _ _ _ _ _ _ _ us its ws h1 h2 h3 => match us, its, ws, h1, h2, h3 with | [_, _], [_, _], [], _, _, _ => ⟨_, rfl, rfl⟩); ⟨g, _, A⟩),
    xc_Failed_1 := xcal_of rfl rfl (glo_ok X G (c.d.fact 21 (f := .glo "Failed") rfl)) k15 i15 (xi_Failed (t := ⟨pw, w, K, mg, base⟩) D15 k15 (eqO_ok e48) (eqO_ok e49) sm tp_super) (fun X hK => let ⟨g, A⟩ := xarg (d := xd_Failed) (X := X) (Z := Zk K) (l := sr_Failed_1) (n := 1) (ks := []) (ps := ["self", "step", "why"]) (by rw [hK]; exact D15) (by decide) (fun _ _ _ _ _ _ _ _ us its ws h1 h2 h3 => match us, its, ws, h1, h2, h3 with | [_, _], [_, _], [], _, _, _ => ⟨_, rfl, rfl⟩); ⟨g, _, A⟩),
    xc_Barred_0_other := xcal_of rfl rfl (glo_ok X G (c.d.fact 20 (f := .glo "Barred") rfl)) k14 i14 (xi_Barred (t := ⟨pw, w, K, mg, base⟩) D14 k14 (eqO_ok e46) (eqO_ok e47) sm tp_super) (fun X hK => let ⟨g, A⟩ := xarg (d := xd_Barred) (X := X) (Z := Zk K) (l := sr_Barred_0_other) (n := 0) (ks := ["other"]) (ps := ["self", "one", "other"]) (by rw [hK]; exact D14) (by decide) (fun _ _ _ _ _ _ _ _ us its ws h1 h2 h3 => match us, its, ws, h1, h2, h3 with | [_], [_, _], [_], _, _, _ => ⟨_, rfl, rfl⟩); ⟨g, _, A⟩),
    xc_Failed_0_why := xcal_of rfl rfl (glo_ok X G (c.d.fact 21 (f := .glo "Failed") rfl)) k15 i15 (xi_Failed (t := ⟨pw, w, K, mg, base⟩) D15 k15 (eqO_ok e48) (eqO_ok e49) sm tp_super) (fun X hK => let ⟨g, A⟩ := xarg (d := xd_Failed) (X := X) (Z := Zk K) (l := sr_Failed_0_why) (n := 0) (ks := ["why"]) (ps := ["self", "step", "why"]) (by rw [hK]; exact D15) (by decide) (fun _ _ _ _ _ _ _ _ us its ws h1 h2 h3 => match us, its, ws, h1, h2, h3 with | [_], [_, _], [_], _, _, _ => ⟨_, rfl, rfl⟩); ⟨g, _, A⟩),
    exi_BetweenError := e28,
    kp_BetweenError := e29,
    exi_Closed := e30,
    kp_Closed := e31 }
abbrev R : PySem.W.OpenRow := PySem.W.OpenLaw.row PySem.Challenge.rw_betweenlists_k01_errors_made
abbrev hk : PySem.W.Hook := hookY 6 fa fn xs exf
def ob (s : PySem.W.SharedT) : AlY := obsY 6 fa fn xs exf (HandSHeadRun.getT s)
theorem ob_eq (s : PySem.W.SharedT) : ob s = hk.obs s.abs := obsY_eq (HandSHeadRun.getT_eq s)
def names0 : List PySem.Str := ["BetweenError", "InvalidName", "InvalidPlace", "InvalidForm", "InvalidLook", "InvalidLog", "InvalidRules", "InvalidDemand", "InvalidStory", "InvalidChange", "InvalidNumber", "InvalidList", "InvalidText", "Missing", "Occupied", "Barred", "Failed", "Closed", "_law_kinds", "_law_right", "_law_values", "_law_placed", "_law_named", "_law_bare", "_law_thing"]
def names : List PySem.Str := names0
theorem run (w : World) : HandSHeadRun.RunEq R (PySem.W.view R.prog [27]) hk ob 40000 names w := by
  intro os
  kernel_rfl
end Walk
open PySem PySem.W PySem.Calls PyProof.Rows
theorem PySem.Challenge.cw_betweenlists_k01_errors_made_holds : PySem.Challenge.rw_betweenlists_k01_errors_made.Holds := by
  w_on; o_law
  refine HandSHeadRun.head_any (r := OpenLaw.row PySem.Challenge.rw_betweenlists_k01_errors_made) (q := view (OpenLaw.row PySem.Challenge.rw_betweenlists_k01_errors_made).prog [27]) (H := Walk.hk) (ob := Walk.ob) (M := 40000) (loose := Walk.names) (d := HandSHeadRun.topDef (OpenLaw.row PySem.Challenge.rw_betweenlists_k01_errors_made).prog 27) (kwd := []) Walk.ob_eq
    (by kernel_rfl) (fun s => by kernel_rfl) Walk.run (by kernel_rfl) (by kernel_rfl) (by kernel_rfl) (by rfl) (by first | assumption | decide +kernel) (by decide +kernel) ⟨rfl, rfl, rfl, rfl, rfl, by decide +kernel⟩ ?hw ?hc
  case hw => w_witness2
  case hc =>
    refine L2.walk_ofE (l := PySem.Challenge.rw_betweenlists_k01_errors_made) (n := 63) (k := 7) (x := "_law_script") (CX := TL.CXU Walk.pw) rfl (by decide) (by kernel_rfl) ⟨rfl, by decide, by decide⟩ ?F TL.cxu_no
    intro w mg fa h Y G hmg0
    obtain ⟨K, KX, c⟩ := Y
    have hmg : mg ("law" : PySem.Str) = some (.ref fa) := by
      have e : (HandSHeadRun.topDef (OpenLaw.row PySem.Challenge.rw_betweenlists_k01_errors_made).prog 27).name = ("law" : PySem.Str) := by kernel_rfl
      rw [← e]
      exact hmg0
    obtain ⟨fd, F⟩ := c.d.def_ 7 (d := Walk.dLaw) rfl
    have g := fun base => Walk.fs (w := w) (base := base) KX G c
    have ea : He.ga K "law" = fa := by
      have z : mg ("law" : PySem.Str) = some (.ref (He.ga K "law")) := (g default).at_law
      rw [hmg] at z
      cases z
      rfl
    subst ea
    have hb := L2.FunD.bindsA (ps := ["_law_script"]) F fun _ _ _ _ _ _ us hl => match us, hl with | [_], _ => rfl
    exact ⟨K, fd, TL.spM (Walk.Zk K) 1 Walk.fn_law, KX, fun s v => hb s [v] rfl, fun H a ns hl _ hS => TL.sp_script c.l hl hS (Walk.law_true ns), fun base _ _ => TL.fnOk_u (Walk.ok_law (g base) F)⟩
